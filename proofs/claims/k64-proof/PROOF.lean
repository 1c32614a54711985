import PyProof.Rows.All
import Wide.All
import OpenK.AllK
import Wide.FinOn
import HandS.ForMost
import KE.LtData
import HandS.SortOrd
import HandS.TupAny
import HandS.Text
import HandS.SortInts
import KE.SortLaws
import KE.KSortTupAny
import PyProof.ReprRoads
import HandS.Strs
import HandS.Set
import HandS.SetFor
import HandS.TupSets
import PyProof.Rows.SortShellAny
import PyProof.Rows.StrMeet
import HandS.IsInst
import HandS.More
import HandS.TupLen
import HandS.RaiseMore
import HandS.WordsDict
import PyProof.DictUpdate
import PyProof.DictMoreH
import KE.KDictLaws
import HandS.Comp
import HandS.Iter
import HandS.NoneIn
import HandS.Words
import HandS.Codes
import HandS.Ends
import HandS.HeadEnd
import HandS.HeadHook2
import KE.KStateDown
import HandS.Base
import HandS.Call
import HandS.WordsExc
import HandS.Defaults
import HandS.Head0
import HandS.Head1
import HandS.Head2
import HandS.HeadHook1
import PySem.Challenge.RW_streamrooms_k64_letters
set_option linter.all false
set_option maxRecDepth 100000
/-! Y0: data without the heap (P), values and cells, the small language (E, T, S ..) and its evaluator. -/
namespace Y
open PySem
abbrev Key := L2.Key
abbrev SZ : Nat := 16777216

/-- a dict's key: an int or a text; a flat tuple of these -/
inductive Kx where
  | k (k : Key)
  | t (ks : List Key)
  deriving DecidableEq

/-- data -/
inductive P where
  | non | bl (b : Bool) | int (i : Int) | str (s : Str)
  | tup (ps : List P) | lst (ps : List P)
  | dct (ks : List Kx) (vs : List P)
  | obj (c : Nat) (ns : List Str) (vs : List P)
  deriving Inhabited

def keyP : Key → P
  | .inl i => .int i
  | .inr s => .str s
def kxP : Kx → P
  | .k a => keyP a
  | .t as => .tup (as.map keyP)
def pKey : P → Option Key
  | .int i => some (.inl i)
  | .str s => some (.inr s)
  | _ => none
def pKeys : List P → Option (List Key)
  | [] => some []
  | p :: ps => match pKey p, pKeys ps with
    | some a, some as => some (a :: as)
    | _, _ => none
def pKx : P → Option Kx
  | .tup ps => (pKeys ps).map .t
  | p => (pKey p).map .k

mutual
def eqv : P → P → Bool
  | .non, .non => true
  | .bl a, .bl b => a == b
  | .bl a, .int j => (if a then 1 else 0) == j
  | .int i, .bl b => i == (if b then 1 else 0)
  | .int i, .int j => i == j
  | .str x, .str y => x == y
  | .tup xs, .tup ys => eqvL xs ys
  | .lst xs, .lst ys => eqvL xs ys
  | _, _ => false
def eqvL : List P → List P → Bool
  | [], [] => true
  | x :: xs, y :: ys => eqv x y && eqvL xs ys
  | _, _ => false
end
mutual
/-- no dict, no object within -/
def plain : P → Bool
  | .tup xs => plainL xs
  | .lst xs => plainL xs
  | .dct _ _ => false
  | .obj _ _ _ => false
  | _ => true
def plainL : List P → Bool
  | [] => true
  | x :: xs => plain x && plainL xs
end
mutual
def depth : P → Nat
  | .tup xs => depthL xs + 1
  | .lst xs => depthL xs + 1
  | .dct _ xs => depthL xs + 1
  | .obj _ _ xs => depthL xs + 1
  | _ => 0
def depthL : List P → Nat
  | [] => 0
  | x :: xs => max (depth x) (depthL xs)
end
mutual
def ltP : P → P → Bool
  | .bl a, .bl b => decide ((if a then (1 : Int) else 0) < (if b then 1 else 0))
  | .int i, .int j => decide (i < j)
  | .str x, .str y => decide (x.cps.toList < y.cps.toList)
  | .tup xs, .tup ys => ltL xs ys
  | .lst xs, .lst ys => ltL xs ys
  | _, _ => false
def ltL : List P → List P → Bool
  | [], [] => false
  | [], _ :: _ => true
  | _ :: _, [] => false
  | x :: xs, y :: ys => if eqv x y then ltL xs ys else ltP x y
end
mutual
/-- a < b is asked and answers (Python raises nothing) -/
def cmpb : P → P → Bool
  | .bl _, .bl _ => true
  | .int _, .int _ => true
  | .str _, .str _ => true
  | .tup xs, .tup ys => cmpL xs ys
  | .lst xs, .lst ys => cmpA xs ys
  | _, _ => false
def cmpL : List P → List P → Bool
  | [], _ => true
  | _, [] => true
  | x :: xs, y :: ys => if eqv x y then cmpL xs ys else cmpb x y
def cmpA : List P → List P → Bool
  | [], _ => true
  | _, [] => true
  | x :: xs, y :: ys => (eqv x y || cmpb x y) && cmpA xs ys
end

/-- a value -/
inductive Val where
  | pu (p : P)
  | cell (n : Nat)
  | tupv (vs : List Val)
  deriving Inhabited
/-- what a cell holds -/
inductive CellC where
  | lst (vs : List Val)
  | dct (kvs : List (Kx × Val))
  | ins (c : Nat) (fs : List (Str × Val))
  | dead (p : P)
  deriving Inhabited
abbrev Store := List CellC
abbrev Env := List (Option Val)

inductive Vw where
  | non | bl (b : Bool) | int (i : Int) | str (s : Str)
  | seqL (vs : List Val) | seqT (vs : List Val) | dic (kvs : List (Kx × Val)) | ins (c : Nat) (fs : List (Str × Val))

def viewP : P → Vw
  | .non => .non
  | .bl b => .bl b
  | .int i => .int i
  | .str s => .str s
  | .tup ps => .seqT (ps.map .pu)
  | .lst ps => .seqL (ps.map .pu)
  | .dct ks vs => .dic (ks.zip (vs.map .pu))
  | .obj c ns vs => .ins c (ns.zip (vs.map .pu))
def view (st : Store) : Val → Option Vw
  | .pu p => some (viewP p)
  | .tupv vs => some (.seqT vs)
  | .cell n => match st[n]? with
    | some (.lst vs) => some (.seqL vs)
    | some (.dct kvs) => some (.dic kvs)
    | some (.ins c fs) => some (.ins c fs)
    | some (.dead p) => some (viewP p)
    | none => none

/-- the pure ones -/
def allPu : List Val → Option (List P)
  | [] => some []
  | .pu p :: vs => (allPu vs).map (p :: ·)
  | _ :: _ => none
def allPuK : List (Kx × Val) → Option (List Kx × List P)
  | [] => some ([], [])
  | (k, .pu p) :: vs => (allPuK vs).map fun q => (k :: q.1, p :: q.2)
  | _ :: _ => none
def allPuF : List (Str × Val) → Option (List Str × List P)
  | [] => some ([], [])
  | (k, .pu p) :: vs => (allPuF vs).map fun q => (k :: q.1, p :: q.2)
  | _ :: _ => none

/-- a deep read: cells from b on, or dead ones -/
def toP (b : Nat) (st : Store) : Nat → Val → Option P
  | _, .pu p => some p
  | 0, _ => none
  | k + 1, .tupv vs => (vs.mapM (toP b st k)).map .tup
  | k + 1, .cell n => match st[n]? with
    | some (.dead p) => some p
    | some (.lst vs) => if b ≤ n then (vs.mapM (toP b st k)).map .lst else none
    | some (.dct kvs) => if b ≤ n then ((kvs.map (·.2)).mapM (toP b st k)).map (.dct (kvs.map (·.1))) else none
    | some (.ins c fs) => if b ≤ n then ((fs.map (·.2)).mapM (toP b st k)).map (.obj c (fs.map (·.1))) else none
    | none => none
abbrev FU : Nat := 8

/-- a value becomes data: a live flat cell dies -/
def frz (st : Store) : Val → Option (P × Store)
  | .pu p => some (p, st)
  | .tupv vs => (allPu vs).map fun ps => (.tup ps, st)
  | .cell n => match st[n]? with
    | some (.dead p) => some (p, st)
    | some (.lst vs) => (allPu vs).map fun ps => (.lst ps, st.set n (.dead (.lst ps)))
    | some (.dct kvs) => (allPuK kvs).map fun q => (.dct q.1 q.2, st.set n (.dead (.dct q.1 q.2)))
    | some (.ins c fs) => (allPuF fs).map fun q => (.obj c q.1 q.2, st.set n (.dead (.obj c q.1 q.2)))
    | none => none
def frzs (st : Store) : List Val → Option (List P × Store)
  | [] => some ([], st)
  | v :: vs => match frz st v with
    | some (p, st1) => match frzs st1 vs with
      | some (ps, st2) => some (p :: ps, st2)
      | none => none
    | none => none

/-- a new list: a cell of its own, or data -/
def mkL (o : Bool) (vs : List Val) (st : Store) : Option (Val × Store) :=
  if o then some (.cell st.length, st ++ [.lst vs]) else match frzs st vs with
    | some (ps, st1) => some (.pu (.lst ps), st1)
    | none => none
def mkT (k : Bool) (vs : List Val) (st : Store) : Option (Val × Store) :=
  if k then some (match allPu vs with | some ps => .pu (.tup ps) | none => .tupv vs, st) else match frzs st vs with
    | some (ps, st1) => some (.pu (.tup ps), st1)
    | none => none

/-! ### the language -/
inductive BOp where | add | sub | mul | fdiv | mod | pow
  deriving DecidableEq
inductive COp where | eq | ne | lt | le | gt | ge | isN | notN | in_ | nin
  deriving DecidableEq
/-- built-in functions -/
inductive Bi where
  | len | int | str | repr | list | tuple | dict | sorted | min2 | max2 | sum | abs | isInt | isList | any | all | minL | maxL
  deriving DecidableEq
/-- methods of built-in types -/
inductive Bm where
  | append | pop | popAt | insert | reverse | get1 | get2 | setdefault | update
  deriving DecidableEq

mutual
inductive E where
  | slot (i : Nat) | glob (g : Nat)
  | cint (i : Int) | cstr (s : Str) | cbl (b : Bool) | cnon
  | bin (o : Bool) (op : BOp) (a b : E)
  | neg (a : E)
  | bop (isAnd : Bool) (es : Es)
  | cmp (op : COp) (a b : E)
  | chain (op op' : COp) (a b c : E)
  | not (a : E)
  | ife (t : T) (a b : E)
  | tup (k : Bool) (es : Es) | lst (o : Bool) (es : Es)
  | dct (o : Bool) (kvs : Kvs)
  | sub (a i : E)
  | slc (o : Bool) (a : E) (lo hi : Oe)
  | rev (o : Bool) (a : E)
  | fld (a : E) (f : Str)
  | call (f : Nat) (es : Es)
  | meth (f : Nat) (m : Str) (a : E) (es : Es)
  | make (c : Nat) (es : Es)
  | bi (o : Bool) (b : Bi) (es : Es)
  | sset (o : Bool) (e : E)
  | bm (o : Bool) (m : Bm) (a : E) (es : Es)
  | lc (o : Bool) (own : List (Str × Nat)) (g : G) (it : I) (ts : Ts) (e : E)
  | lc2 (o : Bool) (own : List (Str × Nat)) (g : G) (it : I) (ts : Ts) (g2 : G) (it2 : I) (ts2 : Ts) (e : E)
  | dc (o : Bool) (own : List (Str × Nat)) (g : G) (it : I) (ts : Ts) (ek ev : E)
inductive Es where | nil | cons (e : E) (es : Es)
inductive Kvs where | nil | cons (k e : E) (r : Kvs)
inductive Oe where | none | some (e : E)
inductive T where
  | val (e : E)
  | cmp (op : COp) (a b : E)
  | chain (op op' : COp) (a b c : E)
  | not (t : T)
  | bop (isAnd : Bool) (ts : Ts)
inductive Ts where | nil | cons (t : T) (ts : Ts)
inductive G where
  | slot (i : Nat) | tup (gs : Gs) | sub (k : Bool) (a i : E)
inductive Gs where | nil | cons (g : G) (gs : Gs)
inductive I where
  | seq (e : E) | keys (e : E) | keysM (e : E) | items (e : E) | vals (e : E) | rng (es : Es) | enum (e : E) | zip (a b : E)
end
mutual
inductive S where
  | asg (g : G) (e : E) | par2 (i j : Nat) (a b : E)
  | setLc (i : Nat) (e : E)
  | fld (a : E) (f : Str) (e : E)
  | expr (e : E) | ret (e : E) | retN
  | ife (t : T) (a b : Ss)
  | whl (t : T) (b : Ss)
  | for_ (g : G) (it : I) (b : Ss)
  | forL (g : G) (e : E) (b : Ss)
  | pass | cont
inductive Ss where | nil | cons (s : S) (ss : Ss)
end

/-! ### operations -/
def ixN (n : Nat) (i : Int) : Option Nat := L2.ixN n i
def at_ {α : Type} (xs : List α) (i : Int) : Option α := (ixN xs.length i).bind fun j => xs[j]?

def binop (o : Bool) (op : BOp) (x y : Val) (st : Store) : Option (Val × Store) :=
  match view st x, view st y with
  | some (.int i), some (.int j) => match op with
    | .add => some (.pu (.int (i + j)), st)
    | .sub => some (.pu (.int (i - j)), st)
    | .mul => if (-(2 ^ 64) < i ∧ i < 2 ^ 64) ∨ (-(2 ^ 64) < j ∧ j < 2 ^ 64) then some (.pu (.int (i * j)), st) else none
    | .fdiv => if j ≠ 0 ∧ j.natAbs < 1073741824 then some (.pu (.int (i.fdiv j)), st) else none
    | .mod => if j ≠ 0 then some (.pu (.int (i.fmod j)), st) else none
    | .pow => if 0 ≤ j ∧ j ≤ 1000000 ∧ i.natAbs < 2 ^ 64 then some (.pu (.int (i ^ j.toNat)), st) else none
  | some (.str a), some (.str b) => match op with
    | .add => if a.length + b.length ≤ SZ then some (.pu (.str (a ++ b)), st) else none
    | _ => none
  | some (.seqL a), some (.seqL b) => match op with
    | .add => if a.length + b.length ≤ SZ then mkL o (a ++ b) st else none
    | _ => none
  | some (.seqT a), some (.seqT b) => match op with
    | .add => if a.length + b.length ≤ SZ then mkT true (a ++ b) st else none
    | _ => none
  | _, _ => none

/-- can be compared by == -/
def eqOk (p q : P) : Bool := plain p && plain q && decide (depth p ≤ 60) && decide (depth q ≤ 60)

def valK (kvs : List (Kx × Val)) (k : Kx) : Option Val := (kvs.find? fun kv => decide (kv.1 = k)).map (·.2)
/-- the key is of the kind of the dict's keys -/
def kOk (kvs : List (Kx × Val)) (k : Kx) : Bool := kvs.all fun q => match q.1, k with
  | .k _, .k _ => true
  | .t _, .t _ => true
  | _, _ => false
/-- what stands at a key, where it can be asked -/
def dget (kvs : List (Kx × Val)) (k : Kx) : Option (Option Val) := if kOk kvs k then some (valK kvs k) else none
def putK (kvs : List (Kx × Val)) (k : Kx) (v : Val) : List (Kx × Val) :=
  if (valK kvs k).isSome then kvs.map fun kv => if kv.1 = k then (kv.1, v) else kv else kvs ++ [(k, v)]

/-- deep reads of several -/
def toPs (st : Store) : List Val → Option (List P)
  | [] => some []
  | v :: vs => match toP 0 st FU v with
    | some p => match toPs st vs with
      | some ps => some (p :: ps)
      | none => none
    | none => none
/-- is x among these -/
def inop (st : Store) (x : Val) (vs : List Val) : Option Bool :=
  match toP 0 st FU x with
  | some p => match toPs st vs with
    | some qs => if qs.all fun q => eqOk q p then some (qs.any fun q => eqv q p) else none
    | none => none
  | none => none
/-- a key; ct: the tuples that the module holds as constants -/
def keyOf (ct : List Key → Bool) (st : Store) (x : Val) : Option Kx := match toP 0 st FU x with
  | some p => match pKx p with
    | some (.t ks) => if ct ks then none else some (.t ks)
    | r => r
  | none => none

def cmpop (ct : List Key → Bool) (op : COp) (x y : Val) (st : Store) : Option Bool :=
  match op with
  | .isN => match view st y with
    | some .non => some (match view st x with | some .non => true | _ => false)
    | _ => none
  | .notN => match view st y with
    | some .non => some (match view st x with | some .non => false | _ => true)
    | _ => none
  | .eq => match toP 0 st FU x, toP 0 st FU y with
    | some p, some q => if eqOk p q then some (eqv p q) else none
    | _, _ => none
  | .ne => match toP 0 st FU x, toP 0 st FU y with
    | some p, some q => if eqOk p q then some (!eqv p q) else none
    | _, _ => none
  | .lt => match toP 0 st FU x, toP 0 st FU y with
    | some p, some q => if eqOk p q && cmpb p q then some (ltP p q) else none
    | _, _ => none
  | .gt => match toP 0 st FU x, toP 0 st FU y with
    | some (.int i), some (.int j) => some (decide (j < i))
    | some (.str i), some (.str j) => some (decide (j.cps.toList < i.cps.toList))
    | _, _ => none
  | .le => match toP 0 st FU x, toP 0 st FU y with
    | some (.int i), some (.int j) => some (decide (i ≤ j))
    | _, _ => none
  | .ge => match toP 0 st FU x, toP 0 st FU y with
    | some (.int i), some (.int j) => some (decide (j ≤ i))
    | _, _ => none
  | .in_ => match view st y with
    | some (.seqL vs) => inop st x vs
    | some (.seqT vs) => inop st x vs
    | some (.dic kvs) => ((keyOf ct st x).bind fun k => dget kvs k).map fun o => o.isSome
    | some (.str z) => match view st x with
      | some (.str c) => if c.length = 1 then some (decide (c.cps.getD 0 0 ∈ z.cps.toList)) else none
      | _ => none
    | _ => none
  | .nin => match view st y with
    | some (.seqL vs) => (inop st x vs).map (!·)
    | some (.seqT vs) => (inop st x vs).map (!·)
    | some (.dic kvs) => ((keyOf ct st x).bind fun k => dget kvs k).map fun o => !o.isSome
    | some (.str z) => match view st x with
      | some (.str c) => if c.length = 1 then some (!decide (c.cps.getD 0 0 ∈ z.cps.toList)) else none
      | _ => none
    | _ => none

def truth (st : Store) (v : Val) : Option Bool :=
  match view st v with
  | some .non => some false
  | some (.bl b) => some b
  | some (.int i) => some (i != 0)
  | some (.str s) => if s.length ≤ SZ then some (s.length != 0) else none
  | some (.seqL vs) => some (!vs.isEmpty)
  | some (.seqT vs) => some (!vs.isEmpty)
  | _ => none

def subop (ct : List Key → Bool) (x i : Val) (st : Store) : Option Val :=
  match view st x with
  | some (.seqL vs) => match view st i with
    | some (.int k) => at_ vs k
    | _ => none
  | some (.seqT vs) => match view st i with
    | some (.int k) => at_ vs k
    | _ => none
  | some (.str s) => match view st i with
    | some (.int k) => if s.length ≤ SZ then (at_ s.cps.toList k).map fun c => .pu (.str ⟨#[c]⟩) else none
    | _ => none
  | some (.dic kvs) => ((keyOf ct st i).bind fun k => dget kvs k).bind fun o => o
  | _ => none

def cut {α : Type} (xs : List α) (lo hi : Option Int) : List α :=
  (xs.drop (HT.sIx xs.length 0 lo)).take (HT.sIx xs.length xs.length hi - HT.sIx xs.length 0 lo)
def slcop (o : Bool) (x : Val) (lo hi : Option Int) (st : Store) : Option (Val × Store) :=
  match view st x with
  | some (.seqL vs) => mkL o (cut vs lo hi) st
  | some (.seqT vs) => mkT true (cut vs lo hi) st
  | _ => none

/-! ### sorting, texts -/
def isI : P → Bool
  | .int _ => true
  | _ => false
def isS : P → Bool
  | .str _ => true
  | _ => false
/-- a tuple that begins so -/
def fst_ (f : P → Bool) : P → Bool
  | .tup (p :: _) => f p
  | _ => false
def sortOk (ps : List P) : Bool :=
  (ps.all fun p => ps.all fun q => cmpb p q) && (ps.all fun p => plain p && decide (depth p ≤ 60)) &&
  (ps.all isI || ps.all isS || ps.all (fst_ isI) || ps.all (fst_ isS))
def sortP (ps : List P) : List P := ps.mergeSort fun a b => !ltP b a
/-- each once, as first met -/
def dedup : List P → List P
  | [] => []
  | p :: ps => p :: (dedup ps).filter fun q => !eqv q p

/-- sorted(set(ps)) is asked and answers -/
def ssetOk (ps : List P) : Bool := decide (ps.length < 4000) && (ps.all isS || ps.all isI)

def keyD : Key → PyData
  | .inl i => .int i
  | .inr s => .str s
def kxD : Kx → PyData
  | .k k => keyD k
  | .t ks => .tuple (ks.map keyD)
mutual
def toD : P → PyData
  | .non => .none
  | .bl b => .bool b
  | .int i => .int i
  | .str s => .str s
  | .tup ps => .tuple (toDs ps)
  | .lst ps => .list (toDs ps)
  | .dct ks vs => .dict ((ks.map kxD).zip (toDs vs))
  | .obj _ _ _ => .none
def toDs : List P → List PyData
  | [] => []
  | p :: ps => toD p :: toDs ps
end
mutual
/-- no object within -/
def flatD : P → Bool
  | .tup ps => flatDs ps
  | .lst ps => flatDs ps
  | .dct ks vs => decide (ks.length = vs.length) && flatDs vs
  | .obj _ _ _ => false
  | _ => true
def flatDs : List P → Bool
  | [] => true
  | p :: ps => flatD p && flatDs ps
end
/-- what repr tells, where it can be asked -/
def reprP (p : P) : Option Str :=
  if flatD p && (toD p).showable && decide ((toD p).depth ≤ 60) && decide ((toD p).shown.length ≤ SZ) then some (toD p).shown else none

/-! ### built-in functions and methods -/
def seqOf (st : Store) (x : Val) : Option (List Val) := match view st x with
  | some (.seqL vs) => some vs
  | some (.seqT vs) => some vs
  | some (.dic kvs) => some (kvs.map fun q => .pu (kxP q.1))
  | _ => none
def intsOf : List P → Option (List Int)
  | [] => some []
  | .int i :: ps => (intsOf ps).map (i :: ·)
  | _ :: _ => none
def blsOf : List P → Option (List Bool)
  | [] => some []
  | .bl i :: ps => (blsOf ps).map (i :: ·)
  | _ :: _ => none
def setOk (ps : List P) : Bool := (ps.all fun p => match p with | .int _ => true | _ => false) || (ps.all fun p => match p with | .str _ => true | _ => false) ||
  (ps.all fun p => match p with | .tup qs => (pKeys qs).isSome | _ => false)

/-- no tuple -/
def flatK : Kx → Bool
  | .k _ => true
  | .t _ => false
def bi (o : Bool) (b : Bi) (vs : List Val) (st : Store) : Option (Val × Store) :=
  match b, vs with
  | .len, [x] => match view st x with
    | some (.str s) => if s.length ≤ SZ then some (.pu (.int s.length), st) else none
    | some (.seqL vs) => some (.pu (.int vs.length), st)
    | some (.seqT vs) => some (.pu (.int vs.length), st)
    | some (.dic kvs) => some (.pu (.int kvs.length), st)
    | _ => none
  | .int, [x] => match view st x with
    | some (.int i) => some (.pu (.int i), st)
    | some (.bl b) => some (.pu (.int (if b then 1 else 0)), st)
    | _ => none
  | .str, [x] => match view st x with
    | some (.int i) => if i.natAbs.log2 < 1920 then some (.pu (.str (toString i : String)), st) else none
    | some (.str s) => some (.pu (.str s), st)
    | _ => none
  | .repr, [x] => match toP 0 st FU x with
    | some p => (reprP p).map fun z => (.pu (.str z), st)
    | none => none
  | .list, [x] => match view st x with
    | some (.seqL vs) => mkL o vs st
    | some (.seqT vs) => mkL o vs st
    | some (.dic kvs) => if kvs.all fun q => flatK q.1 then mkL o (kvs.map fun q => .pu (kxP q.1)) st else none
    | _ => none
  | .tuple, [x] => match view st x with
    | some (.seqL vs) => mkT true vs st
    | some (.seqT _) => some (x, st)
    | _ => none
  | .dict, [x] => match view st x with
    | some (.dic kvs) => if kvs.all fun q => flatK q.1 then (if o then some (.cell st.length, st ++ [.dct kvs]) else none) else none
    | _ => none
  | .sorted, [x] => match view st x with
    | some (.seqL vs) => match allPu vs with
      | some ps => if sortOk ps then mkL o ((sortP ps).map .pu) st else none
      | none => none
    | _ => none
  | .min2, [x, y] => match view st x, view st y with
    | some (.int i), some (.int j) => some (.pu (.int (if j < i then j else i)), st)
    | some (.str i), some (.str j) => some (.pu (.str (if j.cps.toList < i.cps.toList then j else i)), st)
    | _, _ => none
  | .max2, [x, y] => match view st x, view st y with
    | some (.int i), some (.int j) => some (.pu (.int (if j > i then j else i)), st)
    | some (.str i), some (.str j) => some (.pu (.str (if i.cps.toList < j.cps.toList then j else i)), st)
    | _, _ => none
  | .sum, [x] => match view st x with
    | some (.seqL vs) => match allPu vs with
      | some ps => (intsOf ps).map fun is => (.pu (.int is.sum), st)
      | none => none
    | _ => none
  | .abs, [x] => match view st x with
    | some (.int i) => some (.pu (.int (if i < 0 then -i else i)), st)
    | _ => none
  | .isInt, [x] => match view st x with
    | some (.int _) => some (.pu (.bl true), st)
    | some (.bl _) => some (.pu (.bl true), st)
    | some (.str _) => some (.pu (.bl false), st)
    | some (.seqL _) => some (.pu (.bl false), st)
    | some (.seqT _) => some (.pu (.bl false), st)
    | some (.dic _) => some (.pu (.bl false), st)
    | _ => none
  | .isList, [x] => match view st x with
    | some (.seqL _) => some (.pu (.bl true), st)
    | some (.seqT _) => some (.pu (.bl false), st)
    | some (.dic _) => some (.pu (.bl false), st)
    | some (.int _) => some (.pu (.bl false), st)
    | some (.str _) => some (.pu (.bl false), st)
    | _ => none
  | .any, [x] => match view st x with
    | some (.seqL vs) => match allPu vs with
      | some ps => (blsOf ps).map fun bs => (.pu (.bl (bs.any id)), st)
      | none => none
    | _ => none
  | .all, [x] => match view st x with
    | some (.seqL vs) => match allPu vs with
      | some ps => (blsOf ps).map fun bs => (.pu (.bl (bs.all id)), st)
      | none => none
    | _ => none
  | .minL, [x] => match view st x with
    | some (.seqL vs) => match allPu vs with
      | some ps => match intsOf ps with
        | some (i :: is) => some (.pu (.int (is.foldl (fun a b => if b < a then b else a) i)), st)
        | _ => none
      | none => none
    | _ => none
  | .maxL, [x] => match view st x with
    | some (.seqL vs) => match allPu vs with
      | some ps => match intsOf ps with
        | some (i :: is) => some (.pu (.int (is.foldl (fun a b => if b > a then b else a) i)), st)
        | _ => none
      | none => none
    | _ => none
  | _, _ => none

/-- the first place of an equal one -/
def idxop (st : Store) (x : Val) (vs : List Val) : Option Nat :=
  match toP 0 st FU x with
  | some p => match toPs st vs with
    | some qs => if qs.all fun q => eqOk q p then qs.findIdx? fun q => eqv q p else none
    | none => none
  | none => none
def cntop (st : Store) (x : Val) (vs : List Val) : Option Nat :=
  match toP 0 st FU x with
  | some p => match toPs st vs with
    | some qs => if qs.all fun q => eqOk q p then some (qs.countP fun q => eqv q p) else none
    | none => none
  | none => none

def notCell (y : Val) (n : Nat) : Bool := match y with
  | .cell m => decide (m ≠ n)
  | _ => true
/-- the type whose method it is -/
def bmT : Bm → String
  | .get1 | .get2 | .setdefault | .update => "dict"
  | _ => "list"
def isTy (T : String) : Option Vw → Bool
  | some (.seqL _) => T == "list"
  | some (.dic _) => T == "dict"
  | some (.str _) => T == "str"
  | _ => false
def bm (ct : List Key → Bool) (o : Bool) (m : Bm) (x : Val) (vs : List Val) (st : Store) : Option (Val × Store) :=
  match m, vs with
  | .append, [v] => match x with
    | .cell n => match st[n]? with
      | some (.lst xs) => if xs.length < SZ then some (.pu .non, st.set n (.lst (xs ++ [v]))) else none
      | _ => none
    | _ => none
  | .pop, [] => match x with
    | .cell n => match st[n]? with
      | some (.lst xs) => match xs[xs.length - 1]? with
        | some y => some (y, st.set n (.lst xs.dropLast))
        | none => none
      | _ => none
    | _ => none
  | .popAt, [i] => match x with
    | .cell n => match st[n]? with
      | some (.lst xs) => match view st i with
        | some (.int i) => match ixN xs.length i with
          | some k => match xs[k]? with
            | some y => if xs.length ≤ SZ then some (y, st.set n (.lst (xs.eraseIdx k))) else none
            | none => none
          | none => none
        | _ => none
      | _ => none
    | _ => none
  | .insert, [i, v] => match x with
    | .cell n => match st[n]? with
      | some (.lst xs) => match view st i with
        | some (.int i) => if 0 ≤ i ∧ i ≤ xs.length ∧ xs.length < SZ then some (.pu .non, st.set n (.lst (xs.take i.toNat ++ v :: xs.drop i.toNat))) else none
        | _ => none
      | _ => none
    | _ => none
  | .reverse, [] => match x with
    | .cell n => match st[n]? with
      | some (.lst xs) => some (.pu .non, st.set n (.lst xs.reverse))
      | _ => none
    | _ => none
  | .get1, [k] => match view st x with
    | some (.dic kvs) => ((keyOf ct st k).bind fun k => dget kvs k).map fun o => (o.getD (.pu .non), st)
    | _ => none
  | .get2, [k, d] => match view st x with
    | some (.dic kvs) => ((keyOf ct st k).bind fun k => dget kvs k).map fun o => (o.getD d, st)
    | _ => none
  | .setdefault, [k, d] => match x with
    | .cell n => match st[n]? with
      | some (.dct kvs) => match keyOf ct st k with
        | some k => match dget kvs k with
          | some (some v) => some (v, st)
          | some none => if kvs.length < SZ then some (d, st.set n (.dct (putK kvs k d))) else none
          | none => none
        | none => none
      | _ => none
    | _ => none
  | .update, [y] => match x with
    | .cell n => match st[n]? with
      | some (.dct kvs) => match view st y with
        | some (.dic rs) => if kvs.length + rs.length ≤ SZ ∧ (kvs.all fun q => flatK q.1) = true ∧ (rs.all fun q => flatK q.1) = true ∧ notCell y n = true then some (.pu .non, st.set n (.dct (rs.foldl (fun acc q => putK acc q.1 q.2) kvs))) else none
        | _ => none
      | _ => none
    | _ => none
  | _, _ => none

/-! ### the evaluator -/
structure Cfg where
  call : Nat → List Val → Store → Option (Val × Store)
  make : Nat → List Val → Store → Option (Val × Store)
  glob : Nat → Option P
  ct : List Key → Bool
  wf : Nat
inductive Fl where | nx | ct | rt (v : Val)

def setItem (ct : List Key → Bool) (k : Bool) (x i v : Val) (st : Store) : Option Store :=
  match x with
  | .cell n => match st[n]? with
    | some (.lst xs) => match view st i with
      | some (.int j) => match ixN xs.length j with
        | some m => some (st.set n (.lst (xs.set m v)))
        | none => none
      | _ => none
    | some (.dct kvs) => match keyOf ct st i with
      | some k => if kOk kvs k && decide (kvs.length < SZ) then some (st.set n (.dct (putK kvs k v))) else none
      | none => none
    | _ => none
  | _ => none
def putF (f : Str) (v : Val) : List (Str × Val) → List (Str × Val)
  | [] => [(f, v)]
  | q :: r => if q.1 = f then (f, v) :: r else q :: putF f v r
def setFld (x v : Val) (f : Str) (st : Store) : Option Store :=
  match x with
  | .cell n => match st[n]? with
    | some (.ins c fs) => if fs.length < 900 then some (st.set n (.ins c (putF f v fs))) else none
    | _ => none
  | _ => none
def getFld (x : Val) (f : Str) (st : Store) : Option Val := match view st x with
  | some (.ins _ fs) => fs.lookup f
  | _ => none

/-- the turns of a loop -/
def evFor (asg : Val → Env → Store → Option (Env × Store)) (body : Env → Store → Option (Fl × Env × Store)) : List Val → Env → Store → Option (Fl × Env × Store)
  | [], env, st => some (.nx, env, st)
  | v :: vs, env, st => match asg v env st with
    | none => none
    | some (env, st) => match body env st with
      | none => none
      | some (.rt r, env, st) => some (.rt r, env, st)
      | some (_, env, st) => evFor asg body vs env st
/-- the turns over a list that lives: it is read at each turn -/
def evLive (asg : Val → Env → Store → Option (Env × Store)) (body : Env → Store → Option (Fl × Env × Store)) (n : Nat) : Nat → Nat → Env → Store → Option (Fl × Env × Store)
  | 0, _, _, _ => none
  | m + 1, i, env, st => match st[n]? with
    | some (.lst vs) => match vs[i]? with
      | none => some (.nx, env, st)
      | some v => match asg v env st with
        | none => none
        | some (env, st) => match body env st with
          | none => none
          | some (.rt r, env, st) => some (.rt r, env, st)
          | some (_, env, st) => evLive asg body n m (i + 1) env st
    | _ => none
def evWh (test : Env → Store → Option (Bool × Store)) (body : Env → Store → Option (Fl × Env × Store)) : Nat → Env → Store → Option (Fl × Env × Store)
  | 0, _, _ => none
  | n + 1, env, st => match test env st with
    | none => none
    | some (false, st) => some (.nx, env, st)
    | some (true, st) => match body env st with
      | none => none
      | some (.rt r, env, st) => some (.rt r, env, st)
      | some (_, env, st) => evWh test body n env st
/-- the turns of a comprehension: f gives an item or none -/
def evLc {α : Type} (f : Val → Store → Option (List α × Store)) : List Val → Store → Option (List α × Store)
  | [], st => some ([], st)
  | v :: vs, st => match f v st with
    | none => none
    | some (xs, st) => match evLc f vs st with
      | none => none
      | some (ys, st) => some (xs ++ ys, st)
def wipeE (env : Env) : List Nat → Env
  | [] => env
  | v :: vs => (wipeE env vs).set v none

def rngItems (lo hi : Int) : List Val := (List.range (hi - lo).toNat).map fun i => .pu (.int (lo + (i : Nat)))
/-- the number of turns of a range with a step -/
def rngN (i j c : Int) : Nat := if 0 < c then ((j - i + c - 1) / c).toNat else ((i - j + (-c) - 1) / (-c)).toNat
def small62 (i : Int) : Bool := decide (-(2 ^ 62) ≤ i) && decide (i < 2 ^ 62)
def pairV (a b : Val) : Val := match a, b with
  | .pu p, .pu q => .pu (.tup [p, q])
  | _, _ => .tupv [a, b]

/-- what a list or a tuple yields; a list of one's own becomes data first -/
def seqI (v : Val) (st : Store) : Option (List Val × Store) :=
  match v with
  | .cell n => match frz st (.cell n) with
    | some (.lst ps, st) => some (ps.map .pu, st)
    | _ => none
  | .pu (.lst ps) => some (ps.map .pu, st)
  | .pu (.tup ps) => some (ps.map .pu, st)
  | .tupv vs => some (vs, st)
  | _ => none
mutual
def evE (C : Cfg) : E → Env → Store → Option (Val × Store)
  | .slot i, env, st => match env[i]? with
    | some (some v) => some (v, st)
    | _ => none
  | .glob g, _, st => (C.glob g).map fun p => (.pu p, st)
  | .cint i, _, st => some (.pu (.int i), st)
  | .cstr s, _, st => some (.pu (.str s), st)
  | .cbl b, _, st => some (.pu (.bl b), st)
  | .cnon, _, st => some (.pu .non, st)
  | .bin o op a b, env, st => match evE C a env st with
    | some (x, st) => match evE C b env st with
      | some (y, st) => binop o op x y st
      | none => none
    | none => none
  | .neg a, env, st => match evE C a env st with
    | some (x, st) => match view st x with
      | some (.int i) => some (.pu (.int (-i)), st)
      | _ => none
    | none => none
  | .bop k es, env, st => evB C k es env st
  | .cmp op a b, env, st => match evE C a env st with
    | some (x, st) => match evE C b env st with
      | some (y, st) => (cmpop C.ct op x y st).map fun r => (.pu (.bl r), st)
      | none => none
    | none => none
  | .chain op op' a b c, env, st => match evE C a env st with
    | some (x, st) => match evE C b env st with
      | some (y, st) => match cmpop C.ct op x y st with
        | some true => match evE C c env st with
          | some (z, st) => (cmpop C.ct op' y z st).map fun r => (.pu (.bl r), st)
          | none => none
        | some false => some (.pu (.bl false), st)
        | none => none
      | none => none
    | none => none
  | .not a, env, st => match evE C a env st with
    | some (x, st) => (truth st x).map fun b => (.pu (.bl (!b)), st)
    | none => none
  | .ife t a b, env, st => match evT C t env st with
    | some (true, st) => evE C a env st
    | some (false, st) => evE C b env st
    | none => none
  | .tup k es, env, st => match evEs C es env st with
    | some (vs, st) => if vs.length ≤ SZ then mkT k vs st else none
    | none => none
  | .lst o es, env, st => match evEs C es env st with
    | some (vs, st) => if vs.length ≤ SZ then mkL o vs st else none
    | none => none
  | .dct o kvs, env, st => match evKV C kvs env st with
    | some (kvs, st) => if (kvs.all fun q => flatK q.1) && decide (kvs.length ≤ 15) then (if o then some (.cell st.length, st ++ [.dct (kvs.foldl (fun acc q => putK acc q.1 q.2) [])]) else none) else none
    | none => none
  | .sub a i, env, st => match evE C a env st with
    | some (x, st) => match evE C i env st with
      | some (y, st) => (subop C.ct x y st).map fun v => (v, st)
      | none => none
    | none => none
  | .slc o a lo hi, env, st => match evE C a env st with
    | some (x, st) => match evO C lo env st with
      | some (l, st) => match evO C hi env st with
        | some (h, st) => slcop o x l h st
        | none => none
      | none => none
    | none => none
  | .rev o a, env, st => match evE C a env st with
    | some (x, st) => match view st x with
      | some (.seqL vs) => mkL o vs.reverse st
      | _ => none
    | none => none
  | .fld a f, env, st => match evE C a env st with
    | some (x, st) => (getFld x f st).map fun v => (v, st)
    | none => none
  | .call f es, env, st => match evEs C es env st with
    | some (vs, st) => C.call f vs st
    | none => none
  | .meth f m a es, env, st => match evE C a env st with
    | some (x, st) => match view st x with
      | some (.ins _ fs) => if (fs.lookup m).isNone then match evEs C es env st with
          | some (vs, st) => C.call f (x :: vs) st
          | none => none
        else none
      | _ => none
    | none => none
  | .make c es, env, st => match evEs C es env st with
    | some (vs, st) => C.make c vs st
    | none => none
  | .bi o b es, env, st => match evEs C es env st with
    | some (vs, st) => bi o b vs st
    | none => none
  | .sset o e, env, st => match evE C e env st with
    | some (x, st) => match view st x with
      | some (.seqL vs) => match allPu vs with
        | some ps => if ssetOk ps then mkL o ((sortP (dedup ps)).map .pu) st else none
        | none => none
      | _ => none
    | none => none
  | .bm o m a es, env, st => match evE C a env st with
    | some (x, st) => if isTy (bmT m) (view st x) then (match evEs C es env st with
      | some (vs, st) => bm C.ct o m x vs st
      | none => none) else none
    | none => none
  | .lc o own g it ts e, env, st => match evI C it env st with
    | some (items, st) => match evLc (fun v st => match asgG C g v (wipeE env (own.map (·.2))) st with
          | some (env2, st) => match evTs C ts env2 st with
            | some (true, st) => match evE C e env2 st with
              | some (x, st) => some ([x], st)
              | none => none
            | some (false, st) => some ([], st)
            | none => none
          | none => none) items st with
        | some (vs, st) => if vs.length ≤ SZ then mkL o vs st else none
        | none => none
    | none => none
  | .lc2 o own g it ts g2 it2 ts2 e, env, st => match evI C it env st with
    | some (items, st) => match evLc (fun v st => match asgG C g v (wipeE env (own.map (·.2))) st with
          | some (env2, st) => match evTs C ts env2 st with
            | some (true, st) => match evI C it2 env2 st with
              | some (items2, st) => evLc (fun v st => match asgG C g2 v env2 st with
                | some (env3, st) => match evTs C ts2 env3 st with
                  | some (true, st) => match evE C e env3 st with
                    | some (x, st) => some ([x], st)
                    | none => none
                  | some (false, st) => some ([], st)
                  | none => none
                | none => none) items2 st
              | none => none
            | some (false, st) => some ([], st)
            | none => none
          | none => none) items st with
        | some (vs, st) => if vs.length ≤ SZ then mkL o vs st else none
        | none => none
    | none => none
  | .dc o own g it ts ek ev, env, st => match evI C it env st with
    | some (items, st) => match evLc (fun v st => match asgG C g v (wipeE env (own.map (·.2))) st with
          | some (env2, st) => match evTs C ts env2 st with
            | some (true, st) => match evE C ek env2 st with
              | some (k, st) => match evE C ev env2 st with
                | some (x, st) => (keyOf C.ct st k).map fun k => ([(k, x)], st)
                | none => none
              | none => none
            | some (false, st) => some ([], st)
            | none => none
          | none => none) items st with
        | some (kvs, st) => if kvs.length ≤ SZ then
            let kvs := kvs.foldl (fun acc q => putK acc q.1 q.2) []
            if o then some (.cell st.length, st ++ [.dct kvs]) else match frzs st (kvs.map (·.2)) with
              | some (ps, st) => some (.pu (.dct (kvs.map (·.1)) ps), st)
              | none => none
          else none
        | none => none
    | none => none
def evEs (C : Cfg) : Es → Env → Store → Option (List Val × Store)
  | .nil, _, st => some ([], st)
  | .cons e es, env, st => match evE C e env st with
    | some (v, st) => match evEs C es env st with
      | some (vs, st) => some (v :: vs, st)
      | none => none
    | none => none
def evKV (C : Cfg) : Kvs → Env → Store → Option (List (Kx × Val) × Store)
  | .nil, _, st => some ([], st)
  | .cons k e r, env, st => match evE C k env st with
    | some (x, st) => match evE C e env st with
      | some (v, st) => match evKV C r env st with
        | some (vs, st) => (keyOf C.ct st x).map fun k => ((k, v) :: vs, st)
        | none => none
      | none => none
    | none => none
def evB (C : Cfg) (k : Bool) : Es → Env → Store → Option (Val × Store)
  | .nil, _, _ => none
  | .cons e .nil, env, st => evE C e env st
  | .cons e (.cons e2 es), env, st => match evE C e env st with
    | some (v, st) => match truth st v with
      | some b => if b = k then evB C k (.cons e2 es) env st else some (v, st)
      | none => none
    | none => none
def evO (C : Cfg) : Oe → Env → Store → Option (Option Int × Store)
  | .none, _, st => some (none, st)
  | .some e, env, st => match evE C e env st with
    | some (v, st) => match view st v with
      | some (.int i) => some (some i, st)
      | _ => none
    | none => none
def evT (C : Cfg) : T → Env → Store → Option (Bool × Store)
  | .val e, env, st => match evE C e env st with
    | some (v, st) => (truth st v).map fun b => (b, st)
    | none => none
  | .cmp op a b, env, st => match evE C a env st with
    | some (x, st) => match evE C b env st with
      | some (y, st) => (cmpop C.ct op x y st).map fun r => (r, st)
      | none => none
    | none => none
  | .chain op op' a b c, env, st => match evE C a env st with
    | some (x, st) => match evE C b env st with
      | some (y, st) => match cmpop C.ct op x y st with
        | some true => match evE C c env st with
          | some (z, st) => (cmpop C.ct op' y z st).map fun r => (r, st)
          | none => none
        | some false => some (false, st)
        | none => none
      | none => none
    | none => none
  | .not t, env, st => (evT C t env st).map fun q => (!q.1, q.2)
  | .bop k ts, env, st => evBT C k ts env st
def evBT (C : Cfg) (k : Bool) : Ts → Env → Store → Option (Bool × Store)
  | .nil, _, _ => none
  | .cons t .nil, env, st => evT C t env st
  | .cons t (.cons t2 ts), env, st => match evT C t env st with
    | some (b, st) => if b = k then evBT C k (.cons t2 ts) env st else some (b, st)
    | none => none
/-- the tests of a clause: all -/
def evTs (C : Cfg) : Ts → Env → Store → Option (Bool × Store)
  | .nil, _, st => some (true, st)
  | .cons t ts, env, st => match evT C t env st with
    | some (true, st) => evTs C ts env st
    | some (false, st) => some (false, st)
    | none => none
def asgG (C : Cfg) : G → Val → Env → Store → Option (Env × Store)
  | .slot i, v, env, st => if i < env.length then some (env.set i (some v), st) else none
  | .tup gs, v, env, st => match view st v with
    | some (.seqT vs) => asgGs C gs vs env st
    | some (.seqL vs) => asgGs C gs vs env st
    | _ => none
  | .sub k a i, v, env, st => match evE C a env st with
    | some (x, st) => match evE C i env st with
      | some (y, st) => (setItem C.ct k x y v st).map fun st => (env, st)
      | none => none
    | none => none
def asgGs (C : Cfg) : Gs → List Val → Env → Store → Option (Env × Store)
  | .nil, [], env, st => some (env, st)
  | .cons g gs, v :: vs, env, st => match asgG C g v env st with
    | some (env, st) => asgGs C gs vs env st
    | none => none
  | _, _, _, _ => none
def evI (C : Cfg) : I → Env → Store → Option (List Val × Store)
  | .seq e, env, st => match evE C e env st with
    | some (v, st) => seqI v st
    | none => none
  | .keys e, env, st => match evE C e env st with
    | some (v, st) => match frz st v with
      | some (.dct ks ps, st) => if (ks.all flatK) && decide (ks.length = ps.length) then some (ks.map fun k => .pu (kxP k), st) else none
      | _ => none
    | none => none
  | .keysM _, _, _ => none
  | .items _, _, _ => none
  | .vals e, env, st => match evE C e env st with
    | some (v, st) => match frz st v with
      | some (.dct ks ps, st) => if (ks.all flatK) && decide (ks.length = ps.length) then some (ps.map .pu, st) else none
      | _ => none
    | none => none
  | .rng es, env, st => match evEs C es env st with
    | some ([.pu (.int j)], st) => if small62 j then some (rngItems 0 j, st) else none
    | some ([.pu (.int i), .pu (.int j)], st) => if small62 i && small62 j then some (rngItems i j, st) else none
    | _ => none
  | .enum _, _, _ => none
  | .zip _ _, _, _ => none
end

mutual
def evS (C : Cfg) : S → Env → Store → Option (Fl × Env × Store)
  | .asg g e, env, st => match evE C e env st with
    | some (v, st) => match asgG C g v env st with
      | some (env, st) => some (.nx, env, st)
      | none => none
    | none => none
  | .par2 i j a b, env, st => match evE C a env st with
    | some (v, st) => match evE C b env st with
      | some (w, st) => if i < env.length ∧ j < env.length then some (.nx, (env.set i (some v)).set j (some w), st) else none
      | none => none
    | none => none
  | .setLc i e, env, st => match evE C e env st with
    | some (v, st) => if i < env.length then some (.nx, env.set i (some v), st) else none
    | none => none
  | .fld a f e, env, st => match evE C e env st with
    | some (v, st) => match evE C a env st with
      | some (x, st) => (setFld x v f st).map fun st => (.nx, env, st)
      | none => none
    | none => none
  | .expr e, env, st => match evE C e env st with
    | some (_, st) => some (.nx, env, st)
    | none => none
  | .ret e, env, st => match evE C e env st with
    | some (v, st) => some (.rt v, env, st)
    | none => none
  | .retN, env, st => some (.rt (.pu .non), env, st)
  | .ife t a b, env, st => match evT C t env st with
    | some (true, st) => evSs C a env st
    | some (false, st) => evSs C b env st
    | none => none
  | .whl t b, env, st => evWh (fun env st => evT C t env st) (fun env st => evSs C b env st) C.wf env st
  | .for_ g it b, env, st => match evI C it env st with
    | some (items, st) => evFor (fun v env st => asgG C g v env st) (fun env st => evSs C b env st) items env st
    | none => none
  | .forL g e b, env, st => match evE C e env st with
    | some (.cell n, st) => evLive (fun v env st => asgG C g v env st) (fun env st => evSs C b env st) n C.wf 0 env st
    | _ => none
  | .pass, env, st => some (.nx, env, st)
  | .cont, env, st => some (.ct, env, st)
def evSs (C : Cfg) : Ss → Env → Store → Option (Fl × Env × Store)
  | .nil, env, st => some (.nx, env, st)
  | .cons s ss, env, st => match evS C s env st with
    | some (.nx, env, st) => evSs C ss env st
    | some (f, env, st) => some (f, env, st)
    | none => none
end

/-! ### defs, classes -/
/-- a def: its parameters' and slots' numbers, its body, how it hands back (0 data, 1 one fresh cell, 2 as it is) -/
structure Fd where
  np : Nat
  ns : Nat
  body : Ss
  ret : Nat
/-- a class: its __init__, whether its instances are data -/
structure Cd where
  init : Nat
  pure_ : Bool

mutual
def blw (b : Nat) : Val → Bool
  | .pu _ => true
  | .cell n => decide (n < b)
  | .tupv vs => blwL b vs
def blwL (b : Nat) : List Val → Bool
  | [] => true
  | v :: vs => blw b v && blwL b vs
end
def blwC (b : Nat) : CellC → Bool
  | .lst vs => blwL b vs
  | .dct kvs => blwL b (kvs.map (·.2))
  | .ins _ fs => blwL b (fs.map (·.2))
  | .dead _ => true

def finish (m b : Nat) (v : Val) (st : Store) : Option (Val × Store) :=
  match m with
  | 0 => if (st.take b).all (blwC b) then (toP b st FU v).map fun p => (.pu p, st.take b) else none
  | _ => some (v, st)

def runF (tbl : List Fd) (C : Cfg) (f : Nat) (args : List Val) (st : Store) : Option (Val × Store) :=
  match tbl[f]? with
  | none => none
  | some fd => if args.length = fd.np then match evSs C fd.body (args.map some ++ List.replicate (fd.ns - fd.np) none) st with
      | some (.rt v, _, st') => finish fd.ret st.length v st'
      | some (.nx, _, st') => finish fd.ret st.length (.pu .non) st'
      | _ => none
    else none
def mkF (cls : List Cd) (call : Nat → List Val → Store → Option (Val × Store)) (c : Nat) (args : List Val) (st : Store) : Option (Val × Store) :=
  match cls[c]? with
  | none => none
  | some cd => match call cd.init (.cell st.length :: args) (st ++ [.ins c []]) with
    | some (.pu .non, st') => if cd.pure_ then (if (st'.take st.length).all (blwC st.length) then (toP st.length st' FU (.cell st.length)).map fun p => (.pu p, st'.take st.length) else none) else some (.cell st.length, st')
    | _ => none
/-- the levels -/
def lv (tbl : List Fd) (cls : List Cd) (gl : Nat → Option P) (ct : List Key → Bool) (wf : Nat) : Nat → Cfg
  | 0 => ⟨fun _ _ _ => none, fun _ _ _ => none, gl, ct, wf⟩
  | k + 1 => ⟨runF tbl (lv tbl cls gl ct wf k), mkF cls (lv tbl cls gl ct wf k).call, gl, ct, wf⟩
end Y

set_option linter.all false
set_option maxRecDepth 100000
set_option Elab.async false
/-! Y1: how data, values and cells stand in the abstract heap. -/
namespace Y
open PySem L2

/-- where the classes stand; which flat tuples the module holds as constants -/
structure En where
  cl : Nat → Addr
  ct : List Key → Bool
/-- a tuple: tracked, or one of the module's constants -/
def TupAt (K : PySem.W.Frag) (en : En) (H : Hp) (a : Addr) (xs : List V) : Prop :=
  H a = some (.tup xs) ∨ ((∃ (o : Obj) (its : Array Value) (n : Nat), K.lookup a = some o ∧ o.cls = .type "tuple" ∧ o.data = .seq its n ∧ its.size ≤ sizeLine ∧ Vals xs its.toList) ∧ ∀ ks : List Key, xs = ks.map kV → en.ct ks = true)
theorem TupAt.sq {K : PySem.W.Frag} {en : En} {H : Hp} {a : Addr} {xs : List V} (h : TupAt K en H a xs) : SqT K H a xs := by
  rcases h with h | h
  · exact SqT.of h
  · exact .inr h.1
mutual
inductive Rp (K : PySem.W.Frag) (cad : En) (H : Hp) : V → P → Prop
  | non : Rp K cad H .non .non
  | bl (b : Bool) : Rp K cad H (.bl b) (.bl b)
  | int (i : Int) : Rp K cad H (.int i) (.int i)
  | str (s : Str) : Rp K cad H (.str s) (.str s)
  | tup {a : Addr} {xs : List V} {ps : List P} : TupAt K cad H a xs → RpL K cad H xs ps → Rp K cad H (.ref a) (.tup ps)
  | lst {a : Addr} {xs : List V} {ps : List P} : SqL K H a xs → RpL K cad H xs ps → Rp K cad H (.ref a) (.lst ps)
  | dk {a : Addr} {kvs : List (Key × V)} {ks : List Kx} {vs : List P} : Rd H a (.dK kvs) → ks = kvs.map (fun q => Kx.k q.1) → RpL K cad H (kvs.map (·.2)) vs → Rp K cad H (.ref a) (.dct ks vs)
  | dt {a : Addr} {kvs : List (List Key × V)} {ks : List Kx} {vs : List P} : Rd H a (.dT kvs) → (ks = kvs.map (fun q => Kx.t q.1) ∧ kvs ≠ []) → RpL K cad H (kvs.map (·.2)) vs → Rp K cad H (.ref a) (.dct ks vs)
  | obj {a dx : Addr} {c : Nat} {fs : List (Str × V)} {ns : List Str} {vs : List P} : H a = some (.ins (cad.cl c) dx fs) → H dx = some (.own a) → ns = fs.map (·.1) → RpL K cad H (fs.map (·.2)) vs → Rp K cad H (.ref a) (.obj c ns vs)
inductive RpL (K : PySem.W.Frag) (cad : En) (H : Hp) : List V → List P → Prop
  | nil : RpL K cad H [] []
  | cons {v : V} {p : P} {vs : List V} {ps : List P} : Rp K cad H v p → RpL K cad H vs ps → RpL K cad H (v :: vs) (p :: ps)
end

/-- all that stands stands -/
def IsD : HO → Prop
  | .dK _ => True
  | .dT _ => True
  | _ => False
/-- .. a dict may have been locked -/
def Ext (H H' : Hp) : Prop := ∀ a o, H a = some o → H' a = some o ∨ (IsD o ∧ ∃ od, H' a = some (.frz od o))
theorem Ext.of {H H' : Hp} (h : ∀ a o, H a = some o → H' a = some o) : Ext H H' := fun a o e => .inl (h a o e)
theorem Ext.at_ {H H' : Hp} (e : Ext H H') {a : Addr} {o : HO} (h : H a = some o) (n : ¬ IsD o) : H' a = some o := by
  rcases e a o h with q | ⟨q, _⟩
  · exact q
  · exact absurd q n
theorem Ext.refl (H : Hp) : Ext H H := fun _ _ h => .inl h
theorem Ext.trans {H H1 H2 : Hp} (a : Ext H H1) (b : Ext H1 H2) : Ext H H2 := fun x o h => by
  rcases a x o h with q | ⟨d, od, q⟩
  · exact b x o q
  · exact .inr ⟨d, od, b.at_ q (by intro z; cases z)⟩
theorem Ext.rd {H H' : Hp} {a : Addr} {u : HO} (e : Ext H H') (h : Rd H a u) : Rd H' a u := by
  rcases h with h | ⟨o, h⟩
  · rcases e a _ h with q | ⟨_, od, q⟩
    · exact .inl q
    · exact .inr ⟨od, q⟩
  · exact .inr ⟨o, e.at_ h (by intro z; cases z)⟩
theorem Ext.l {K : PySem.W.Frag} {H H' : Hp} {a : Addr} {xs : List V} (e : Ext H H') (h : SqL K H a xs) : SqL K H' a xs := by
  rcases h with h | h
  · exact .inl (e.rd h)
  · exact .inr h
theorem Ext.t {K : PySem.W.Frag} {en : En} {H H' : Hp} {a : Addr} {xs : List V} (e : Ext H H') (h : TupAt K en H a xs) : TupAt K en H' a xs := by
  rcases h with h | h
  · exact .inl (e.at_ h (by intro z; cases z))
  · exact .inr h

variable {K : PySem.W.Frag} {cad : En}
mutual
theorem Rp.mono {H H' : Hp} (e : Ext H H') : ∀ (p : P) (v : V), Rp K cad H v p → Rp K cad H' v p
  | .non, _, h => by cases h; exact .non
  | .bl _, _, h => by cases h; exact .bl _
  | .int _, _, h => by cases h; exact .int _
  | .str _, _, h => by cases h; exact .str _
  | .tup ps, _, h => by
    cases h with
    | tup h1 h2 => exact .tup (e.t h1) (RpL.mono e ps _ h2)
  | .lst ps, _, h => by
    cases h with
    | lst h1 h2 => exact .lst (e.l h1) (RpL.mono e ps _ h2)
  | .dct ks vs, _, h => by
    cases h with
    | dk h1 h2 h3 => exact .dk (e.rd h1) h2 (RpL.mono e vs _ h3)
    | dt h1 h2 h3 => exact .dt (e.rd h1) h2 (RpL.mono e vs _ h3)
  | .obj c ns vs, _, h => by
    cases h with
    | obj h1 h2 h3 h4 => exact .obj (e.at_ h1 (by intro z; cases z)) (e.at_ h2 (by intro z; cases z)) h3 (RpL.mono e vs _ h4)
theorem RpL.mono {H H' : Hp} (e : Ext H H') : ∀ (ps : List P) (vs : List V), RpL K cad H vs ps → RpL K cad H' vs ps
  | [], _, h => by cases h; exact .nil
  | p :: ps, _, h => by
    cases h with
    | cons h1 h2 => exact .cons (Rp.mono e p _ h1) (RpL.mono e ps _ h2)
end
theorem RpL.length {H : Hp} : ∀ {vs : List V} {ps : List P}, RpL K cad H vs ps → vs.length = ps.length
  | _, _, .nil => rfl
  | _, _, .cons _ t => congrArg (· + 1) t.length

/-! ### values -/
mutual
inductive Rv (K : PySem.W.Frag) (cad : En) (F : Hp) (tops : List Addr) : V → Val → Prop
  | pu {v : V} {p : P} : Rp K cad F v p → Rv K cad F tops v (.pu p)
  | cell {a : Addr} {n : Nat} : tops[n]? = some a → Rv K cad F tops (.ref a) (.cell n)
  | tupv {a : Addr} {xs : List V} {vs : List Val} : TupAt K cad F a xs → RvL K cad F tops xs vs → Rv K cad F tops (.ref a) (.tupv vs)
inductive RvL (K : PySem.W.Frag) (cad : En) (F : Hp) (tops : List Addr) : List V → List Val → Prop
  | nil : RvL K cad F tops [] []
  | cons {v : V} {x : Val} {vs : List V} {xs : List Val} : Rv K cad F tops v x → RvL K cad F tops vs xs → RvL K cad F tops (v :: vs) (x :: xs)
end
mutual
theorem Rv.mono {F F' : Hp} {tops tops' : List Addr} (e : Ext F F') (ht : ∃ m, tops' = tops ++ m) : ∀ (x : Val) (v : V), Rv K cad F tops v x → Rv K cad F' tops' v x
  | .pu p, _, h => by
    cases h with
    | pu h => exact .pu (h.mono e)
  | .cell n, _, h => by
    cases h with
    | cell h =>
      obtain ⟨m, rfl⟩ := ht
      refine .cell ?_
      rw [List.getElem?_append_left (List.getElem?_eq_some_iff.mp h).1]
      exact h
  | .tupv vs, _, h => by
    cases h with
    | tupv h1 h2 => exact .tupv (e.t h1) (RvL.mono e ht vs _ h2)
theorem RvL.mono {F F' : Hp} {tops tops' : List Addr} (e : Ext F F') (ht : ∃ m, tops' = tops ++ m) : ∀ (xs : List Val) (vs : List V), RvL K cad F tops vs xs → RvL K cad F' tops' vs xs
  | [], _, h => by cases h; exact .nil
  | x :: xs, _, h => by
    cases h with
    | cons h1 h2 => exact .cons (Rv.mono e ht x _ h1) (RvL.mono e ht xs _ h2)
end
section
variable {F : Hp} {tops : List Addr}
theorem RvL.length : ∀ {vs : List V} {xs : List Val}, RvL K cad F tops vs xs → vs.length = xs.length
  | _, _, .nil => rfl
  | _, _, .cons _ t => congrArg (· + 1) t.length
theorem RvL.of_p : ∀ {vs : List V} {ps : List P}, RpL K cad F vs ps → RvL K cad F tops vs (ps.map .pu)
  | _, _, .nil => .nil
  | _, _, .cons h t => .cons (.pu h) (RvL.of_p t)
theorem RvL.to_p : ∀ {xs : List Val} {vs : List V} {ps : List P}, RvL K cad F tops vs xs → allPu xs = some ps → RpL K cad F vs ps
  | [], _, _, h, e => by
    cases h
    have e' : some [] = some _ := e
    cases e'
    exact .nil
  | .pu p :: xs, _, _, h, e => by
    cases h with
    | cons h1 h2 =>
      cases h1 with
      | pu h1 =>
        cases q : allPu xs with
        | none => rw [allPu, q] at e; cases e
        | some qs =>
          rw [allPu, q] at e
          cases e
          exact .cons h1 (RvL.to_p h2 q)
  | .cell _ :: _, _, _, _, e => by cases e
  | .tupv _ :: _, _, _, _, e => by cases e
theorem RvL.get : ∀ {vs : List V} {xs : List Val} {i : Nat} {x : Val}, RvL K cad F tops vs xs → xs[i]? = some x → ∃ v, vs[i]? = some v ∧ Rv K cad F tops v x
  | _, _, _, _, .nil, e => by simp at e
  | _, _, 0, _, .cons r _, e => by simp at e; subst e; exact ⟨_, rfl, r⟩
  | _, _, i + 1, x, .cons _ t, e => by
    obtain ⟨u, h1, h2⟩ := RvL.get (i := i) (x := x) t (by simpa using e)
    exact ⟨u, by simpa using h1, h2⟩
theorem RvL.getv : ∀ {vs : List V} {xs : List Val} {i : Nat} {v : V}, RvL K cad F tops vs xs → vs[i]? = some v → ∃ x, xs[i]? = some x ∧ Rv K cad F tops v x
  | _, _, _, _, .nil, e => by simp at e
  | _, _, 0, _, .cons r _, e => by simp at e; subst e; exact ⟨_, rfl, r⟩
  | _, _, i + 1, x, .cons _ t, e => by
    obtain ⟨u, h1, h2⟩ := RvL.getv (i := i) (v := x) t (by simpa using e)
    exact ⟨u, by simpa using h1, h2⟩
theorem RvL.append : ∀ {vs ws : List V} {xs ys : List Val}, RvL K cad F tops vs xs → RvL K cad F tops ws ys → RvL K cad F tops (vs ++ ws) (xs ++ ys)
  | _, _, _, _, .nil, s => s
  | _, _, _, _, .cons r t, s => .cons r (t.append s)
theorem RvL.take : ∀ {vs : List V} {xs : List Val} (n : Nat), RvL K cad F tops vs xs → RvL K cad F tops (vs.take n) (xs.take n)
  | _, _, 0, _ => by simp; exact .nil
  | _, _, _ + 1, .nil => .nil
  | _, _, n + 1, .cons r t => .cons r (t.take n)
theorem RvL.drop : ∀ {vs : List V} {xs : List Val} (n : Nat), RvL K cad F tops vs xs → RvL K cad F tops (vs.drop n) (xs.drop n)
  | _, _, 0, r => r
  | _, _, _ + 1, .nil => .nil
  | _, _, n + 1, .cons r t => t.drop n
theorem RvL.set : ∀ {vs : List V} {xs : List Val} (i : Nat) {v : V} {x : Val}, Rv K cad F tops v x → RvL K cad F tops vs xs → RvL K cad F tops (vs.set i v) (xs.set i x)
  | _, _, _, _, _, _, .nil => .nil
  | _, _, 0, _, _, r, .cons _ t => .cons r t
  | _, _, i + 1, _, _, r, .cons q t => .cons q (t.set i r)
theorem RvL.erase : ∀ {vs : List V} {xs : List Val} (i : Nat), RvL K cad F tops vs xs → RvL K cad F tops (vs.eraseIdx i) (xs.eraseIdx i)
  | _, _, _, .nil => .nil
  | _, _, 0, .cons _ t => t
  | _, _, i + 1, .cons q t => .cons q (t.erase i)
theorem RvL.reverse {vs : List V} {xs : List Val} (h : RvL K cad F tops vs xs) : RvL K cad F tops vs.reverse xs.reverse := by
  induction vs generalizing xs with
  | nil => cases h; exact .nil
  | cons v vs ih =>
    cases h with
    | cons h1 h2 =>
      rw [List.reverse_cons, List.reverse_cons]
      exact (ih h2).append (.cons h1 .nil)
theorem RvL.dropLast {vs : List V} {xs : List Val} (h : RvL K cad F tops vs xs) : RvL K cad F tops vs.dropLast xs.dropLast := by
  rw [List.dropLast_eq_take, List.dropLast_eq_take, h.length]
  exact h.take _
theorem RpL.get {i : Nat} {p : P} : ∀ {vs : List V} {ps : List P}, RpL K cad F vs ps → ps[i]? = some p → ∃ v, vs[i]? = some v ∧ Rp K cad F v p := by
  induction i with
  | zero =>
    intro vs ps h e
    cases h with
    | nil => simp at e
    | cons h1 h2 => simp at e; subst e; exact ⟨_, rfl, h1⟩
  | succ i ih =>
    intro vs ps h e
    cases h with
    | nil => simp at e
    | cons h1 h2 =>
      obtain ⟨v, a, b⟩ := ih h2 (by simpa using e)
      exact ⟨v, by simpa using a, b⟩
theorem RpL.getv {i : Nat} {v : V} : ∀ {vs : List V} {ps : List P}, RpL K cad F vs ps → vs[i]? = some v → ∃ p, ps[i]? = some p ∧ Rp K cad F v p := by
  induction i with
  | zero =>
    intro vs ps h e
    cases h with
    | nil => simp at e
    | cons h1 h2 => simp at e; subst e; exact ⟨_, rfl, h1⟩
  | succ i ih =>
    intro vs ps h e
    cases h with
    | nil => simp at e
    | cons h1 h2 =>
      obtain ⟨v, a, b⟩ := ih h2 (by simpa using e)
      exact ⟨v, by simpa using a, b⟩
theorem RpL.append : ∀ {vs ws : List V} {xs ys : List P}, RpL K cad F vs xs → RpL K cad F ws ys → RpL K cad F (vs ++ ws) (xs ++ ys)
  | _, _, _, _, .nil, s => s
  | _, _, _, _, .cons r t, s => .cons r (t.append s)
end

/-! ### the world: the heap, the cells' addresses and what they own, further hidden objects -/
def hide (H : Hp) (M : List Addr) : Hp := fun a => if a ∈ M then none else H a
theorem hide_some {H : Hp} {M : List Addr} {a : Addr} {o : HO} (h : hide H M a = some o) : H a = some o ∧ a ∉ M := by
  unfold hide at h
  split at h
  · cases h
  · rename_i hn
    exact ⟨h, hn⟩
theorem hide_of {H : Hp} {M : List Addr} {a : Addr} (h : a ∉ M) : hide H M a = H a := by unfold hide; rw [if_neg h]
theorem hide_ext {H : Hp} {M : List Addr} : Ext (hide H M) H := .of fun _ _ h => (hide_some h).1

structure Wd where
  H : Hp
  tops : List Addr
  owns : List (List Addr)
  xt : List Addr
abbrev Wd.M (w : Wd) : List Addr := w.owns.flatten ++ w.xt
abbrev Wd.F (w : Wd) : Hp := hide w.H w.M
theorem Wd.ext (w : Wd) : Ext w.F w.H := hide_ext

abbrev RvW (K : PySem.W.Frag) (cad : En) (w : Wd) (v : V) (x : Val) : Prop := Rv K cad w.F w.tops v x
abbrev RvLW (K : PySem.W.Frag) (cad : En) (w : Wd) (vs : List V) (xs : List Val) : Prop := RvL K cad w.F w.tops vs xs

/-- a cell at a, owning own -/
inductive Ce (K : PySem.W.Frag) (cad : En) (H F : Hp) (tops : List Addr) : Addr → List Addr → CellC → Prop
  | lst {a : Addr} {xs : List V} {vs : List Val} : H a = some (.lst xs) → RvL K cad F tops xs vs → Ce K cad H F tops a [a] (.lst vs)
  | dk {a : Addr} {ks : List (Key × V)} {kvs : List (Kx × Val)} : H a = some (.dK ks) → kvs.map (·.1) = ks.map (fun q => Kx.k q.1) → RvL K cad F tops (ks.map (·.2)) (kvs.map (·.2)) → Ce K cad H F tops a [a] (.dct kvs)
  | dt {a : Addr} {ks : List (List Key × V)} {kvs : List (Kx × Val)} : H a = some (.dT ks) → (kvs.map (·.1) = ks.map (fun q => Kx.t q.1) ∧ ks ≠ []) → RvL K cad F tops (ks.map (·.2)) (kvs.map (·.2)) → Ce K cad H F tops a [a] (.dct kvs)
  | ins {a dx : Addr} {c : Nat} {fs : List (Str × V)} {gs : List (Str × Val)} : H a = some (.ins (cad.cl c) dx fs) → H dx = some (.own a) → gs.map (·.1) = fs.map (·.1) → RvL K cad F tops (fs.map (·.2)) (gs.map (·.2)) → Ce K cad H F tops a [a, dx] (.ins c gs)
  | dead {a : Addr} {p : P} : Rp K cad F (.ref a) p → Ce K cad H F tops a [] (.dead p)
theorem Ce.mono {H F F' : Hp} {tops tops' : List Addr} {a : Addr} {own : List Addr} {c : CellC} (e : Ext F F') (ht : ∃ m, tops' = tops ++ m) (h : Ce K cad H F tops a own c) : Ce K cad H F' tops' a own c := by
  cases h with
  | lst h1 h2 => exact .lst h1 (h2.mono e ht)
  | dk h1 h2 h3 => exact .dk h1 h2 (h3.mono e ht)
  | dt h1 h2 h3 => exact .dt h1 h2 (h3.mono e ht)
  | ins h1 h2 h3 h4 => exact .ins h1 h2 h3 (h4.mono e ht)
  | dead h => exact .dead (h.mono e)
/-- what the cell owns stands -/
theorem Ce.there {H F : Hp} {tops : List Addr} {a : Addr} {own : List Addr} {c : CellC} (h : Ce K cad H F tops a own c) : ∀ b ∈ own, ∃ o, H b = some o := by
  cases h with
  | lst h1 _ => intro b hb; simp at hb; subst hb; exact ⟨_, h1⟩
  | dk h1 _ _ => intro b hb; simp at hb; subst hb; exact ⟨_, h1⟩
  | dt h1 _ _ => intro b hb; simp at hb; subst hb; exact ⟨_, h1⟩
  | ins h1 h2 _ _ =>
    intro b hb
    simp at hb
    rcases hb with rfl | rfl
    · exact ⟨_, h1⟩
    · exact ⟨_, h2⟩
  | dead _ => intro b hb; simp at hb
/-- another heap that agrees at what is owned -/
theorem Ce.at_ {H H' F : Hp} {tops : List Addr} {a : Addr} {own : List Addr} {c : CellC} (k : ∀ b ∈ own, H' b = H b) (h : Ce K cad H F tops a own c) : Ce K cad H' F tops a own c := by
  cases h with
  | lst h1 h2 => exact .lst ((k a (by simp)).trans h1) h2
  | dk h1 h2 h3 => exact .dk ((k a (by simp)).trans h1) h2 h3
  | dt h1 h2 h3 => exact .dt ((k a (by simp)).trans h1) h2 h3
  | ins h1 h2 h3 h4 => exact .ins ((k _ (by simp)).trans h1) ((k _ (by simp)).trans h2) h3 h4
  | dead h => exact .dead h

structure SR (K : PySem.W.Frag) (cad : En) (w : Wd) (st : Store) : Prop where
  lt : w.tops.length = st.length
  lo : w.owns.length = st.length
  nd : w.M.Nodup
  xd : ∀ a ∈ w.xt, ∃ o, w.H a = some o
  cl : ∀ (n : Nat) (c : CellC), st[n]? = some c → ∃ a own, w.tops[n]? = some a ∧ w.owns[n]? = some own ∧ Ce K cad w.H w.F w.tops a own c

structure Le (w w' : Wd) : Prop where
  tp : ∃ m, w'.tops = w.tops ++ m
  ex : Ext w.F w'.F
  xt : w'.xt = w.xt
  xk : ∀ a ∈ w.xt, w'.H a = w.H a
theorem Le.refl (w : Wd) : Le w w := ⟨⟨[], by simp⟩, Ext.refl _, rfl, fun _ _ => rfl⟩
theorem Le.trans {a b c : Wd} (h : Le a b) (g : Le b c) : Le a c := by
  obtain ⟨⟨m, e1⟩, ex, x, k⟩ := h
  obtain ⟨⟨n, e2⟩, ex2, x2, k2⟩ := g
  exact ⟨⟨m ++ n, by rw [e2, e1, List.append_assoc]⟩, ex.trans ex2, x2.trans x, fun b hb => (k2 b (by rw [x]; exact hb)).trans (k b hb)⟩
theorem Rv.le {w w' : Wd} (l : Le w w') {v : V} {x : Val} (h : RvW K cad w v x) : RvW K cad w' v x := h.mono l.ex l.tp
theorem RvL.le {w w' : Wd} (l : Le w w') {v : List V} {x : List Val} (h : RvLW K cad w v x) : RvLW K cad w' v x := h.mono l.ex l.tp

/-- the slots -/
structure ER (K : PySem.W.Frag) (cad : En) (w : Wd) (env : Env) (σ : L2.St) : Prop where
  ln : env.length = σ.length
  at_ : ∀ (i : Nat) (x : Val), env[i]? = some (some x) → ∃ v, σ[i]? = some (some v) ∧ RvW K cad w v x
theorem ER.le {w w' : Wd} (l : Le w w') {env : Env} {σ : L2.St} (h : ER K cad w env σ) : ER K cad w' env σ :=
  ⟨h.ln, fun i x e => let ⟨v, a, b⟩ := h.at_ i x e; ⟨v, a, b.le l⟩⟩
theorem ER.set {w : Wd} {env : Env} {σ : L2.St} (h : ER K cad w env σ) {v : V} {x : Val} (i : Nat) (r : RvW K cad w v x) : ER K cad w (env.set i (some x)) (σ.set i (some v)) := by
  refine ⟨by rw [List.length_set, List.length_set]; exact h.ln, fun j y e => ?_⟩
  by_cases hj : i = j
  · subst hj
    by_cases hl : i < env.length
    · rw [List.getElem?_set_self hl] at e
      cases e
      exact ⟨v, by rw [List.getElem?_set_self (by rw [← h.ln]; exact hl)], r⟩
    · rw [List.getElem?_eq_none (by simpa using hl)] at e
      cases e
  · rw [List.getElem?_set_ne hj] at e
    rw [List.getElem?_set_ne hj]
    exact h.at_ j y e
theorem ER.unset {w : Wd} {env : Env} {σ : L2.St} (h : ER K cad w env σ) (i : Nat) : ER K cad w (env.set i none) (σ.set i none) := by
  refine ⟨by rw [List.length_set, List.length_set]; exact h.ln, fun j y e => ?_⟩
  by_cases hj : i = j
  · subst hj
    by_cases hl : i < env.length
    · rw [List.getElem?_set_self hl] at e; cases e
    · rw [List.getElem?_eq_none (by simpa using hl)] at e; cases e
  · rw [List.getElem?_set_ne hj] at e
    rw [List.getElem?_set_ne hj]
    exact h.at_ j y e
theorem ER.wipe {w : Wd} {env : Env} {σ : L2.St} (h : ER K cad w env σ) : ∀ vs : List Nat, ER K cad w (wipeE env vs) (L2.wipe σ vs)
  | [] => h
  | v :: vs => (h.wipe vs).unset v

/-! ### what a view says -/
def DicR (K : PySem.W.Frag) (cad : En) (w : Wd) (a : Addr) (kvs : List (Kx × Val)) : Prop :=
  (∃ ks : List (Key × V), Rd w.H a (.dK ks) ∧ kvs.map (·.1) = ks.map (fun q => Kx.k q.1) ∧ RvLW K cad w (ks.map (·.2)) (kvs.map (·.2))) ∨
  ∃ ks : List (List Key × V), Rd w.H a (.dT ks) ∧ (kvs.map (·.1) = ks.map (fun q => Kx.t q.1) ∧ ks ≠ []) ∧ RvLW K cad w (ks.map (·.2)) (kvs.map (·.2))
def VwR (K : PySem.W.Frag) (cad : En) (w : Wd) (v : V) : Vw → Prop
  | .non => v = .non
  | .bl b => v = .bl b
  | .int i => v = .int i
  | .str s => v = .str s
  | .seqL xs => ∃ a vs, v = .ref a ∧ SqL K w.H a vs ∧ RvLW K cad w vs xs
  | .seqT xs => ∃ a vs, v = .ref a ∧ TupAt K cad w.F a vs ∧ RvLW K cad w vs xs
  | .dic kvs => ∃ a, v = .ref a ∧ DicR K cad w a kvs
  | .ins c gs => ∃ a dx fs, v = .ref a ∧ w.H a = some (.ins (cad.cl c) dx fs) ∧ gs.map (·.1) = fs.map (·.1) ∧ RvLW K cad w (fs.map (·.2)) (gs.map (·.2))
theorem map_zip_fst {α β : Type} : ∀ (xs : List α) (ys : List β), xs.length = ys.length → (xs.zip ys).map (·.1) = xs
  | [], [], _ => rfl
  | x :: xs, y :: ys, h => by simp [map_zip_fst xs ys (by simpa using h)]
theorem map_zip_snd {α β : Type} : ∀ (xs : List α) (ys : List β), xs.length = ys.length → (xs.zip ys).map (·.2) = ys
  | [], [], _ => rfl
  | x :: xs, y :: ys, h => by simp [map_zip_snd xs ys (by simpa using h)]
theorem viewP_ok {w : Wd} {v : V} {p : P} (h : Rp K cad w.F v p) : VwR K cad w v (viewP p) := by
  cases h with
  | non => rfl
  | bl => rfl
  | int => rfl
  | str => rfl
  | tup h1 h2 => exact ⟨_, _, rfl, h1, .of_p h2⟩
  | lst h1 h2 => exact ⟨_, _, rfl, w.ext.l h1, .of_p h2⟩
  | @dk a kvs ks vs h1 h2 h3 =>
    have hl := h3.length
    subst h2
    refine ⟨_, rfl, .inl ⟨_, w.ext.rd h1, ?_, ?_⟩⟩
    · rw [map_zip_fst _ _ (by simpa using hl)]
    · rw [map_zip_snd _ _ (by simpa using hl)]
      exact .of_p h3
  | @dt a kvs ks vs h1 h2 h3 =>
    have hl := h3.length
    obtain ⟨h2, hne⟩ := h2
    subst h2
    refine ⟨_, rfl, .inr ⟨_, w.ext.rd h1, ⟨?_, hne⟩, ?_⟩⟩
    · rw [map_zip_fst _ _ (by simpa using hl)]
    · rw [map_zip_snd _ _ (by simpa using hl)]
      exact .of_p h3
  | @obj a dx c fs ns vs h1 h2 h3 h4 =>
    have hl := h4.length
    subst h3
    refine ⟨_, _, _, rfl, w.ext.at_ h1 (by intro z; cases z), ?_, ?_⟩
    · rw [map_zip_fst _ _ (by simpa using hl)]
    · rw [map_zip_snd _ _ (by simpa using hl)]
      exact .of_p h4
theorem view_ok {w : Wd} {st : Store} {v : V} {x : Val} {u : Vw} (s : SR K cad w st) (h : RvW K cad w v x) (e : view st x = some u) : VwR K cad w v u := by
  cases h with
  | pu h =>
    cases e
    exact viewP_ok h
  | tupv h1 h2 =>
    cases e
    exact ⟨_, _, rfl, h1, h2⟩
  | @cell a n h =>
    cases q : st[n]? with
    | none => simp only [view, q] at e; cases e
    | some c =>
      obtain ⟨a', own, h1, h2, h3⟩ := s.cl n c q
      rw [h] at h1
      cases h1
      cases h3 with
      | lst g1 g2 => simp only [view, q] at e; cases e; exact ⟨_, _, rfl, SqL.of g1, g2⟩
      | dk g1 g2 g3 => simp only [view, q] at e; cases e; exact ⟨_, rfl, .inl ⟨_, .inl g1, g2, g3⟩⟩
      | dt g1 g2 g3 => simp only [view, q] at e; cases e; exact ⟨_, rfl, .inr ⟨_, .inl g1, g2, g3⟩⟩
      | ins g1 g2 g3 g4 => simp only [view, q] at e; cases e; exact ⟨_, _, _, rfl, g1, g3, g4⟩
      | dead g => simp only [view, q] at e; cases e; exact viewP_ok g
end Y

set_option linter.all false
set_option maxRecDepth 100000
set_option Elab.async false
/-! Y2: how the world changes: new objects, new cells, cells written, frozen, dropped; deep reads. -/
namespace Y
open PySem L2
variable {K : PySem.W.Frag} {cad : En}

theorem split_at {α : Type} : ∀ {l : List α} {n : Nat} {x : α}, l[n]? = some x → ∃ A B, l = A ++ x :: B ∧ A.length = n ∧ ∀ z, l.set n z = A ++ z :: B
  | [], _, _, h => by simp at h
  | y :: l, 0, x, h => by simp at h; subst h; exact ⟨[], l, rfl, rfl, fun z => rfl⟩
  | y :: l, n + 1, x, h => by
    obtain ⟨A, B, e, hl, hs⟩ := split_at (l := l) (n := n) (x := x) (by simpa using h)
    exact ⟨y :: A, B, by rw [e]; rfl, by simp [hl], fun z => by rw [List.set_cons_succ, hs]; rfl⟩
theorem mem_flat {l : List (List Addr)} {n : Nat} {own : List Addr} {a : Addr} (h : l[n]? = some own) (ha : a ∈ own) : a ∈ l.flatten :=
  List.mem_flatten.mpr ⟨own, List.mem_of_getElem? h, ha⟩
/-- owned by two cells: not with one another -/
theorem own_ne {l : List (List Addr)} {x : List Addr} (nd : (l.flatten ++ x).Nodup) {n m : Nat} {o1 o2 : List Addr} {a b : Addr} (h1 : l[n]? = some o1) (h2 : l[m]? = some o2) (hn : n ≠ m) (ha : a ∈ o1) (hb : b ∈ o2) : a ≠ b := by
  have nd1 : l.flatten.Nodup := (List.nodup_append.mp nd).1
  rcases Nat.lt_or_gt_of_ne hn with hlt | hlt
  · obtain ⟨A, B, e, hl, _⟩ := split_at h1
    subst e
    have hB : o2 ∈ B := by
      rw [List.getElem?_append_right (by omega)] at h2
      have : m - A.length = (m - A.length - 1) + 1 := by omega
      rw [this, List.getElem?_cons_succ] at h2
      exact List.mem_of_getElem? h2
    rw [List.flatten_append, List.flatten_cons] at nd1
    have h3 := (List.nodup_append.mp (List.nodup_append.mp nd1).2.1).2.2
    exact h3 a ha b (List.mem_flatten.mpr ⟨o2, hB, hb⟩)
  · obtain ⟨A, B, e, hl, _⟩ := split_at h2
    subst e
    have hB : o1 ∈ B := by
      rw [List.getElem?_append_right (by omega)] at h1
      have : n - A.length = (n - A.length - 1) + 1 := by omega
      rw [this, List.getElem?_cons_succ] at h1
      exact List.mem_of_getElem? h1
    rw [List.flatten_append, List.flatten_cons] at nd1
    have h3 := (List.nodup_append.mp (List.nodup_append.mp nd1).2.1).2.2
    exact (h3 b hb a (List.mem_flatten.mpr ⟨o1, hB, ha⟩)).symm

section
variable {w : Wd} {st : Store}
theorem SR.own (s : SR K cad w st) {n : Nat} {own : List Addr} (h : w.owns[n]? = some own) : ∃ a c, w.tops[n]? = some a ∧ st[n]? = some c ∧ Ce K cad w.H w.F w.tops a own c := by
  have hn : n < st.length := by rw [← s.lo]; exact (List.getElem?_eq_some_iff.mp h).1
  obtain ⟨a, own', h1, h2, h3⟩ := s.cl n st[n] (by simp [hn])
  rw [h] at h2
  cases h2
  exact ⟨a, st[n], h1, by simp [hn], h3⟩
/-- what is hidden stands -/
theorem SR.dom (s : SR K cad w st) : ∀ a ∈ w.M, ∃ o, w.H a = some o := by
  intro a ha
  rcases List.mem_append.mp ha with h | h
  · obtain ⟨own, ho, hb⟩ := List.mem_flatten.mp h
    obtain ⟨n, hn, e⟩ := List.mem_iff_getElem.mp ho
    obtain ⟨_, _, _, _, c⟩ := s.own (n := n) (own := own) (by rw [← e]; simp [hn])
    exact c.there a hb
  · exact s.xd a h
theorem SR.fresh (s : SR K cad w st) {p : Addr} (hp : w.H p = none) : p ∉ w.M := fun h => by
  obtain ⟨o, e⟩ := s.dom p h
  rw [hp] at e; cases e

/-- a new object -/
abbrev Wd.new (w : Wd) (p : Addr) (o : HO) : Wd := { w with H := upd w.H p o }
theorem new_ext (s : SR K cad w st) {p : Addr} {o : HO} (hp : w.H p = none) : Ext w.F (w.new p o).F := .of fun a u h => by
  obtain ⟨h1, h2⟩ := hide_some h
  show hide (upd w.H p o) w.M a = some u
  rw [hide_of h2, upd_ne (ne_of_none h1 hp)]
  exact h1
theorem new_le (s : SR K cad w st) {p : Addr} {o : HO} (hp : w.H p = none) : Le w (w.new p o) :=
  ⟨⟨[], by simp⟩, new_ext s hp, rfl, fun a ha => by
    obtain ⟨u, e⟩ := s.xd a ha
    show upd w.H p o a = w.H a
    rw [upd_ne (ne_of_none e hp)]⟩
theorem new_sr (s : SR K cad w st) {p : Addr} {o : HO} (hp : w.H p = none) : SR K cad (w.new p o) st := by
  refine ⟨s.lt, s.lo, s.nd, fun a ha => ?_, fun n c h => ?_⟩
  · obtain ⟨u, e⟩ := s.xd a ha
    exact ⟨u, by show upd w.H p o a = _; rw [upd_ne (ne_of_none e hp)]; exact e⟩
  · obtain ⟨a, own, h1, h2, h3⟩ := s.cl n c h
    refine ⟨a, own, h1, h2, ?_⟩
    have h4 := h3.mono (tops' := w.tops) (new_ext s (o := o) hp) ⟨[], by simp⟩
    refine h4.at_ (H' := upd w.H p o) fun b hb => ?_
    obtain ⟨u, e⟩ := h3.there b hb
    rw [upd_ne (ne_of_none e hp)]
theorem new_at (s : SR K cad w st) {p : Addr} {o : HO} (hp : w.H p = none) : (w.new p o).F p = some o := by
  show hide (upd w.H p o) w.M p = some o
  rw [hide_of (s.fresh hp), upd_same]

/-- a new cell -/
abbrev Wd.newC (w : Wd) (p : Addr) (o : HO) : Wd := { w with H := upd w.H p o, tops := w.tops ++ [p], owns := w.owns ++ [[p]] }
theorem newC_M (w : Wd) (p : Addr) (o : HO) : (w.newC p o).M = w.owns.flatten ++ p :: w.xt := by
  show (w.owns ++ [[p]]).flatten ++ w.xt = _
  simp [List.flatten_append]
theorem newC_mem {w : Wd} {p : Addr} {o : HO} {a : Addr} : a ∈ (w.newC p o).M ↔ a = p ∨ a ∈ w.M := by
  rw [newC_M]
  simp only [List.mem_append, List.mem_cons]
  constructor
  · rintro (h | h | h)
    · exact .inr (.inl h)
    · exact .inl h
    · exact .inr (.inr h)
  · rintro (h | h | h)
    · exact .inr (.inl h)
    · exact .inl h
    · exact .inr (.inr h)
theorem newC_F (s : SR K cad w st) {p : Addr} {o : HO} (hp : w.H p = none) : (w.newC p o).F = w.F := by
  funext a
  show hide (upd w.H p o) (w.newC p o).M a = hide w.H w.M a
  by_cases h : a = p
  · subst h
    unfold hide
    rw [if_pos (newC_mem.mpr (.inl rfl)), if_neg (s.fresh hp), hp]
  · by_cases h2 : a ∈ w.M
    · unfold hide
      rw [if_pos (newC_mem.mpr (.inr h2)), if_pos h2]
    · rw [hide_of h2, hide_of (fun z => (newC_mem.mp z).elim h h2), upd_ne h]
theorem newC_le (s : SR K cad w st) {p : Addr} {o : HO} (hp : w.H p = none) : Le w (w.newC p o) :=
  ⟨⟨[p], rfl⟩, by rw [newC_F s hp]; exact Ext.refl _, rfl, fun a ha => by
    obtain ⟨u, e⟩ := s.xd a ha
    show upd w.H p o a = w.H a
    rw [upd_ne (ne_of_none e hp)]⟩
theorem newC_sr (s : SR K cad w st) {p : Addr} {o : HO} {c : CellC} (hp : w.H p = none) (hc : Ce K cad (upd w.H p o) w.F (w.tops ++ [p]) p [p] c) : SR K cad (w.newC p o) (st ++ [c]) := by
  refine ⟨by show (w.tops ++ [p]).length = _; simp [s.lt], by show (w.owns ++ [[p]]).length = _; simp [s.lo], ?_, fun a ha => ?_, fun n c' h => ?_⟩
  · rw [newC_M]
    have nd := s.nd
    have hf := s.fresh hp
    rw [List.nodup_append] at nd ⊢
    refine ⟨nd.1, ?_, fun a ha b hb => ?_⟩
    · rw [List.nodup_cons]
      exact ⟨fun z => hf (List.mem_append_right _ z), nd.2.1⟩
    · rcases List.mem_cons.mp hb with rfl | hb
      · rintro rfl
        exact hf (List.mem_append_left _ ha)
      · exact nd.2.2 a ha b hb
  · obtain ⟨u, e⟩ := s.xd a ha
    exact ⟨u, by show upd w.H p o a = _; rw [upd_ne (ne_of_none e hp)]; exact e⟩
  · by_cases hn : n < st.length
    · rw [List.getElem?_append_left hn] at h
      obtain ⟨a, own, h1, h2, h3⟩ := s.cl n c' h
      refine ⟨a, own, ?_, ?_, ?_⟩
      · show (w.tops ++ [p])[n]? = some a
        rw [List.getElem?_append_left (by rw [s.lt]; exact hn)]
        exact h1
      · show (w.owns ++ [[p]])[n]? = some own
        rw [List.getElem?_append_left (by rw [s.lo]; exact hn)]
        exact h2
      · rw [newC_F s hp]
        have h4 := h3.mono (F' := w.F) (tops' := w.tops ++ [p]) (Ext.refl _) ⟨[p], rfl⟩
        refine h4.at_ (H' := upd w.H p o) fun b hb => ?_
        obtain ⟨u, e⟩ := h3.there b hb
        rw [upd_ne (ne_of_none e hp)]
    · have hn' : n = st.length := by
        have := (List.getElem?_eq_some_iff.mp h).1
        simp at this
        omega
      subst hn'
      rw [List.getElem?_append_right (Nat.le_refl _)] at h
      simp at h
      subst h
      refine ⟨p, [p], ?_, ?_, ?_⟩
      · show (w.tops ++ [p])[st.length]? = some p
        rw [← s.lt]; simp
      · show (w.owns ++ [[p]])[st.length]? = some [p]
        rw [← s.lo]; simp
      · rw [newC_F s hp]
        exact hc
theorem newC_top (s : SR K cad w st) {p : Addr} {o : HO} : (w.newC p o).tops[st.length]? = some p := by
  show (w.tops ++ [p])[st.length]? = some p
  rw [← s.lt]; simp

/-- a dict that is data is locked -/
theorem lock_ext {d : Addr} {od : Obj} {u : HO} (h : w.F d = some u) (hu : IsD u) : Ext w.F (w.new d (.frz od u)).F := fun a o q => by
  obtain ⟨h1, h2⟩ := hide_some q
  show hide (upd w.H d (.frz od u)) w.M a = some o ∨ _ ∧ ∃ od', hide (upd w.H d (.frz od u)) w.M a = some (.frz od' o)
  rw [hide_of h2]
  by_cases hd : a = d
  · subst hd
    rw [h] at q
    cases q
    exact .inr ⟨hu, od, upd_same⟩
  · exact .inl (by rw [upd_ne hd]; exact h1)
theorem lock_ok (s : SR K cad w st) {d : Addr} {od : Obj} {u : HO} (h : w.F d = some u) (hu : IsD u) : Le w (w.new d (.frz od u)) ∧ SR K cad (w.new d (.frz od u)) st := by
  obtain ⟨h1, h2⟩ := hide_some h
  have ex := lock_ext (od := od) h hu
  have ne : ∀ b ∈ w.M, b ≠ d := fun b hb => by rintro rfl; exact h2 hb
  refine ⟨⟨⟨[], by simp⟩, ex, rfl, fun a ha => upd_ne (ne a (List.mem_append_right _ ha))⟩, ⟨s.lt, s.lo, s.nd, fun a ha => ?_, fun n c q => ?_⟩⟩
  · obtain ⟨o, e⟩ := s.xd a ha
    exact ⟨o, (upd_ne (ne a (List.mem_append_right _ ha))).trans e⟩
  · obtain ⟨a, own, q1, q2, q3⟩ := s.cl n c q
    exact ⟨a, own, q1, q2, (q3.mono ex ⟨[], by simp⟩).at_ fun b hb => upd_ne (ne b (List.mem_append_left _ (mem_flat q2 hb)))⟩

/-- a cell is written -/
theorem write_F {a : Addr} {o : HO} (h : a ∈ w.M) : (w.new a o).F = w.F := by
  funext b
  show hide (upd w.H a o) w.M b = hide w.H w.M b
  by_cases hb : b ∈ w.M
  · unfold hide
    rw [if_pos hb, if_pos hb]
  · rw [hide_of hb, hide_of hb, upd_ne (by rintro rfl; exact hb h)]
theorem write_ok (s : SR K cad w st) {n : Nat} {a : Addr} {own : List Addr} {c c' : CellC} {o : HO} (ht : w.tops[n]? = some a) (ho : w.owns[n]? = some own) (ha : a ∈ own) (hn : st[n]? = some c)
    (hc : Ce K cad (upd w.H a o) w.F w.tops a own c') : Le w (w.new a o) ∧ SR K cad (w.new a o) (st.set n c') := by
  have hM : a ∈ w.M := List.mem_append_left _ (mem_flat ho ha)
  have hx : ∀ b ∈ w.xt, b ≠ a := fun b hb => ((List.nodup_append.mp s.nd).2.2 a (mem_flat ho ha) b hb).symm
  refine ⟨⟨⟨[], by simp⟩, by rw [write_F hM]; exact Ext.refl _, rfl, fun b hb => upd_ne (hx b hb)⟩, ⟨by rw [List.length_set]; exact s.lt, by rw [List.length_set]; exact s.lo, s.nd, fun b hb => ?_, fun m c2 h => ?_⟩⟩
  · obtain ⟨u, e⟩ := s.xd b hb
    exact ⟨u, (upd_ne (hx b hb)).trans e⟩
  · rw [write_F hM]
    by_cases hm : n = m
    · subst hm
      rw [List.getElem?_set_self (List.getElem?_eq_some_iff.mp hn).1] at h
      cases h
      exact ⟨a, own, ht, ho, hc⟩
    · rw [List.getElem?_set_ne hm] at h
      obtain ⟨b, own2, h1, h2, h3⟩ := s.cl m c2 h
      exact ⟨b, own2, h1, h2, h3.at_ fun d hd => upd_ne (own_ne s.nd h2 ho (Ne.symm hm) hd ha)⟩

/-- a cell dies: what it owned is frozen -/
abbrev Wd.frz (w : Wd) (n : Nat) : Wd := { w with owns := w.owns.set n [] }
theorem frz_M {n : Nat} {own : List Addr} (nd : w.M.Nodup) (ho : w.owns[n]? = some own) : (∀ a ∈ (w.frz n).M, a ∈ w.M) ∧ (∀ a ∈ own, a ∉ (w.frz n).M) ∧ (w.frz n).M.Nodup := by
  obtain ⟨A, B, e, hl, hs⟩ := split_at ho
  have eM : w.M = A.flatten ++ (own ++ (B.flatten ++ w.xt)) := by
    show w.owns.flatten ++ w.xt = _
    rw [e]; simp [List.flatten_append, List.append_assoc]
  have eM' : (w.frz n).M = A.flatten ++ (B.flatten ++ w.xt) := by
    show (w.owns.set n []).flatten ++ w.xt = _
    rw [hs]; simp [List.flatten_append, List.append_assoc]
  rw [eM] at nd
  rw [eM, eM']
  rw [List.nodup_append] at nd
  obtain ⟨n1, n2, n3⟩ := nd
  rw [List.nodup_append] at n2
  obtain ⟨m1, m2, m3⟩ := n2
  refine ⟨fun a ha => ?_, fun a ha hm => ?_, ?_⟩
  · rcases List.mem_append.mp ha with h | h
    · exact List.mem_append_left _ h
    · exact List.mem_append_right _ (List.mem_append_right _ h)
  · rcases List.mem_append.mp hm with h | h
    · exact n3 a h a (List.mem_append_left _ ha) rfl
    · exact m3 a ha a h rfl
  · rw [List.nodup_append]
    exact ⟨n1, m2, fun a ha b hb => n3 a ha b (List.mem_append_right _ hb)⟩
theorem frz_ext {n : Nat} {own : List Addr} (nd : w.M.Nodup) (ho : w.owns[n]? = some own) : Ext w.F (w.frz n).F := .of fun a o h => by
  obtain ⟨h1, h2⟩ := hide_some h
  show hide w.H (w.frz n).M a = some o
  rw [hide_of (fun z => h2 ((frz_M nd ho).1 a z))]
  exact h1
theorem frz_ok (s : SR K cad w st) {n : Nat} {a : Addr} {own : List Addr} {c : CellC} {p : P} (ht : w.tops[n]? = some a) (ho : w.owns[n]? = some own) (hn : st[n]? = some c) (hp : Rp K cad (w.frz n).F (.ref a) p) :
    Le w (w.frz n) ∧ SR K cad (w.frz n) (st.set n (.dead p)) := by
  have ex := frz_ext s.nd ho
  refine ⟨⟨⟨[], by simp⟩, ex, rfl, fun _ _ => rfl⟩, ⟨by rw [List.length_set]; exact s.lt, by show (w.owns.set n []).length = _; rw [List.length_set, List.length_set]; exact s.lo, (frz_M s.nd ho).2.2, s.xd, fun m c2 h => ?_⟩⟩
  by_cases hm : n = m
  · subst hm
    rw [List.getElem?_set_self (List.getElem?_eq_some_iff.mp hn).1] at h
    cases h
    exact ⟨a, [], ht, by show (w.owns.set n [])[n]? = _; rw [List.getElem?_set_self (List.getElem?_eq_some_iff.mp ho).1], .dead hp⟩
  · rw [List.getElem?_set_ne hm] at h
    obtain ⟨b, own2, h1, h2, h3⟩ := s.cl m c2 h
    exact ⟨b, own2, h1, by show (w.owns.set n [])[m]? = _; rw [List.getElem?_set_ne hm]; exact h2, h3.mono ex ⟨[], by simp⟩⟩
end

theorem allPuK_fst : ∀ {kvs : List (Kx × Val)} {q : List Kx × List P}, allPuK kvs = some q → kvs.map (·.1) = q.1 ∧ allPu (kvs.map (·.2)) = some q.2
  | [], q, h => by cases h; exact ⟨rfl, rfl⟩
  | (k, .pu p) :: r, q, h => by
    cases e : allPuK r with
    | none => rw [allPuK, e] at h; cases h
    | some q' =>
      rw [allPuK, e] at h
      cases h
      obtain ⟨h1, h2⟩ := allPuK_fst e
      exact ⟨by simp [h1], by simp [allPu, h2]⟩
  | (_, .cell _) :: _, _, h => by cases h
  | (_, .tupv _) :: _, _, h => by cases h
theorem allPuF_fst : ∀ {kvs : List (Str × Val)} {q : List Str × List P}, allPuF kvs = some q → kvs.map (·.1) = q.1 ∧ allPu (kvs.map (·.2)) = some q.2
  | [], q, h => by cases h; exact ⟨rfl, rfl⟩
  | (k, .pu p) :: r, q, h => by
    cases e : allPuF r with
    | none => rw [allPuF, e] at h; cases h
    | some q' =>
      rw [allPuF, e] at h
      cases h
      obtain ⟨h1, h2⟩ := allPuF_fst e
      exact ⟨by simp [h1], by simp [allPu, h2]⟩
  | (_, .cell _) :: _, _, h => by cases h
  | (_, .tupv _) :: _, _, h => by cases h

/-- a value becomes data -/
theorem frz_val {w : Wd} {st st' : Store} {x : Val} {v : V} {p : P} (s : SR K cad w st) (r : RvW K cad w v x) (e : frz st x = some (p, st')) :
    ∃ w', Le w w' ∧ w'.H = w.H ∧ SR K cad w' st' ∧ Rp K cad w'.F v p := by
  cases r with
  | pu h => cases e; exact ⟨w, Le.refl w, rfl, s, h⟩
  | @tupv a xs vs h1 h2 =>
    cases q : allPu vs with
    | none => simp only [frz, q] at e; cases e
    | some ps =>
      simp only [frz, q] at e
      cases e
      exact ⟨w, Le.refl w, rfl, s, .tup h1 (h2.to_p q)⟩
  | @cell a n h =>
    cases q : st[n]? with
    | none => simp only [frz, q] at e; cases e
    | some c =>
      obtain ⟨a', own, h1, h2, h3⟩ := s.cl n c q
      rw [h] at h1
      cases h1
      cases h3 with
      | dead g => simp only [frz, q] at e; cases e; exact ⟨w, Le.refl w, rfl, s, g⟩
      | @lst xs vs g1 g2 =>
        cases q2 : allPu vs with
        | none => simp only [frz, q, q2] at e; cases e
        | some ps =>
          simp only [frz, q, q2] at e
          cases e
          have ex := frz_ext s.nd h2
          have hp : Rp K cad (w.frz n).F (.ref a) (.lst ps) := by
            refine .lst (SqL.of ?_) (RpL.mono ex _ _ (g2.to_p q2))
            show hide w.H (w.frz n).M a = _
            rw [hide_of ((frz_M s.nd h2).2.1 a (by simp))]
            exact g1
          obtain ⟨l, s'⟩ := frz_ok s h h2 q hp
          exact ⟨_, l, rfl, s', hp⟩
      | @dk ks kvs g1 g2 g3 =>
        cases q2 : allPuK kvs with
        | none => simp only [frz, q, q2] at e; cases e
        | some kp =>
          simp only [frz, q, q2] at e
          cases e
          obtain ⟨f1, f2⟩ := allPuK_fst q2
          have ex := frz_ext s.nd h2
          have hp : Rp K cad (w.frz n).F (.ref a) (.dct kp.1 kp.2) := by
            refine .dk (kvs := ks) (.inl ?_) (f1.symm.trans g2) (RpL.mono ex _ _ (g3.to_p f2))
            show hide w.H (w.frz n).M a = _
            rw [hide_of ((frz_M s.nd h2).2.1 a (by simp))]
            exact g1
          obtain ⟨l, s'⟩ := frz_ok s h h2 q hp
          exact ⟨_, l, rfl, s', hp⟩
      | @dt ks kvs g1 g2 g3 =>
        cases q2 : allPuK kvs with
        | none => simp only [frz, q, q2] at e; cases e
        | some kp =>
          simp only [frz, q, q2] at e
          cases e
          obtain ⟨f1, f2⟩ := allPuK_fst q2
          have ex := frz_ext s.nd h2
          have hp : Rp K cad (w.frz n).F (.ref a) (.dct kp.1 kp.2) := by
            refine .dt (kvs := ks) (.inl ?_) ⟨f1.symm.trans g2.1, g2.2⟩ (RpL.mono ex _ _ (g3.to_p f2))
            show hide w.H (w.frz n).M a = _
            rw [hide_of ((frz_M s.nd h2).2.1 a (by simp))]
            exact g1
          obtain ⟨l, s'⟩ := frz_ok s h h2 q hp
          exact ⟨_, l, rfl, s', hp⟩
      | @ins dx c fs gs g1 g2 g3 g4 =>
        cases q2 : allPuF gs with
        | none => simp only [frz, q, q2] at e; cases e
        | some kp =>
          simp only [frz, q, q2] at e
          cases e
          obtain ⟨f1, f2⟩ := allPuF_fst q2
          have ex := frz_ext s.nd h2
          have hp : Rp K cad (w.frz n).F (.ref a) (.obj c kp.1 kp.2) := by
            refine .obj (dx := dx) (fs := fs) ?_ ?_ (f1.symm.trans g3) (RpL.mono ex _ _ (g4.to_p f2))
            · show hide w.H (w.frz n).M a = _
              rw [hide_of ((frz_M s.nd h2).2.1 a (by simp))]
              exact g1
            · show hide w.H (w.frz n).M dx = _
              rw [hide_of ((frz_M s.nd h2).2.1 dx (by simp))]
              exact g2
          obtain ⟨l, s'⟩ := frz_ok s h h2 q hp
          exact ⟨_, l, rfl, s', hp⟩
theorem frzs_val : ∀ {xs : List Val} {w : Wd} {st st' : Store} {vs : List V} {ps : List P} (s : SR K cad w st) (r : RvLW K cad w vs xs) (e : frzs st xs = some (ps, st')),
    ∃ w', Le w w' ∧ w'.H = w.H ∧ SR K cad w' st' ∧ RpL K cad w'.F vs ps
  | [], w, st, st', vs, ps, s, r, e => by
    cases r
    cases e
    exact ⟨w, Le.refl w, rfl, s, .nil⟩
  | x :: xs, w, st, st', vs, ps, s, r, e => by
    cases r with
    | cons r1 r2 =>
      cases q : frz st x with
      | none => simp only [frzs, q] at e; cases e
      | some z =>
        obtain ⟨p, st1⟩ := z
        cases q2 : frzs st1 xs with
        | none => simp only [frzs, q, q2] at e; cases e
        | some z2 =>
          obtain ⟨ps', st2⟩ := z2
          simp only [frzs, q, q2] at e
          cases e
          obtain ⟨w1, l1, e1, s1, rp1⟩ := frz_val s r1 q
          obtain ⟨w2, l2, e2, s2, rp2⟩ := frzs_val s1 (r2.le l1) q2
          exact ⟨w2, l1.trans l2, e2.trans e1, s2, .cons (Rp.mono l2.ex _ _ rp1) rp2⟩

/-! ### deep reads -/
abbrev Wd.Fb (w : Wd) (b : Nat) : Hp := hide w.H ((w.owns.take b).flatten ++ w.xt)
theorem Fb_ext {w : Wd} {b : Nat} : Ext w.F (w.Fb b) := .of fun a o h => by
  obtain ⟨h1, h2⟩ := hide_some h
  show hide w.H _ a = some o
  rw [hide_of (fun z => h2 ?_)]
  · exact h1
  · rcases List.mem_append.mp z with z | z
    · obtain ⟨own, ho, hb⟩ := List.mem_flatten.mp z
      exact List.mem_append_left _ (List.mem_flatten.mpr ⟨own, List.mem_of_mem_take ho, hb⟩)
    · exact List.mem_append_right _ z
theorem Fb_at {w : Wd} {b n : Nat} {own : List Addr} {a : Addr} {o : HO} (nd : w.M.Nodup) (ho : w.owns[n]? = some own) (hb : b ≤ n) (ha : a ∈ own) (h : w.H a = some o) : w.Fb b a = some o := by
  show hide w.H _ a = some o
  rw [hide_of]
  · exact h
  · intro z
    rcases List.mem_append.mp z with z | z
    · obtain ⟨own', ho', hb'⟩ := List.mem_flatten.mp z
      obtain ⟨m, hm, e⟩ := List.mem_iff_getElem.mp ho'
      have hm' : m < b := by
        have := hm
        rw [List.length_take] at this
        omega
      have e' : w.owns[m]? = some own' := by
        rw [← e, List.getElem_take]
        have : m < w.owns.length := by
          rw [List.length_take] at hm; omega
        simp [this]
      exact own_ne nd e' ho (by omega) hb' ha rfl
    · exact (List.nodup_append.mp nd).2.2 a (mem_flat ho ha) a z rfl
theorem toP_ok {w : Wd} {st : Store} {b : Nat} (s : SR K cad w st) : ∀ (k : Nat) (x : Val) (v : V) (p : P), RvW K cad w v x → toP b st k x = some p → Rp K cad (w.Fb b) v p := by
  intro k
  induction k with
  | zero =>
    intro x v p r e
    cases r with
    | pu h => cases e; exact h.mono Fb_ext
    | cell _ => cases e
    | tupv _ _ => cases e
  | succ k ih =>
    have all : ∀ (xs : List Val) (vs : List V) (ps : List P), RvLW K cad w vs xs → xs.mapM (toP b st k) = some ps → RpL K cad (w.Fb b) vs ps := by
      intro xs
      induction xs with
      | nil =>
        intro vs ps r e
        cases r
        simp at e
        subst e
        exact .nil
      | cons x xs ihx =>
        intro vs ps r e
        cases r with
        | cons r1 r2 =>
          rw [List.mapM_cons] at e
          cases q : toP b st k x with
          | none => rw [q] at e; cases e
          | some p =>
            rw [q] at e
            cases q2 : xs.mapM (toP b st k) with
            | none =>
              rw [q2] at e
              cases e
            | some ps' =>
              rw [q2] at e
              cases e
              exact .cons (ih x _ p r1 q) (ihx _ _ r2 q2)
    intro x v p r e
    cases r with
    | pu h => cases e; exact h.mono Fb_ext
    | @tupv a xs vs h1 h2 =>
      simp only [toP] at e
      cases q : vs.mapM (toP b st k) with
      | none => rw [q] at e; cases e
      | some ps =>
        rw [q] at e
        cases e
        exact .tup (Fb_ext.t h1) (all _ _ _ h2 q)
    | @cell a n h =>
      simp only [toP] at e
      cases q : st[n]? with
      | none => rw [q] at e; cases e
      | some c =>
        obtain ⟨a', own, h1, h2, h3⟩ := s.cl n c q
        rw [h] at h1
        cases h1
        rw [q] at e
        cases h3 with
        | dead g => cases e; exact g.mono Fb_ext
        | @lst xs vs g1 g2 =>
          simp only at e
          split at e
          · rename_i hb
            cases q2 : vs.mapM (toP b st k) with
            | none => rw [q2] at e; cases e
            | some ps =>
              rw [q2] at e
              cases e
              exact .lst (SqL.of (Fb_at s.nd h2 hb (by simp) g1)) (all _ _ _ g2 q2)
          · cases e
        | @dk ks kvs g1 g2 g3 =>
          simp only at e
          split at e
          · rename_i hb
            cases q2 : (kvs.map (·.2)).mapM (toP b st k) with
            | none => rw [q2] at e; cases e
            | some ps =>
              rw [q2] at e
              cases e
              exact .dk (.inl (Fb_at s.nd h2 hb (by simp) g1)) g2 (all _ _ _ g3 q2)
          · cases e
        | @dt ks kvs g1 g2 g3 =>
          simp only at e
          split at e
          · rename_i hb
            cases q2 : (kvs.map (·.2)).mapM (toP b st k) with
            | none => rw [q2] at e; cases e
            | some ps =>
              rw [q2] at e
              cases e
              exact .dt (.inl (Fb_at s.nd h2 hb (by simp) g1)) g2 (all _ _ _ g3 q2)
          · cases e
        | @ins dx c fs gs g1 g2 g3 g4 =>
          simp only at e
          split at e
          · rename_i hb
            cases q2 : (gs.map (·.2)).mapM (toP b st k) with
            | none => rw [q2] at e; cases e
            | some ps =>
              rw [q2] at e
              cases e
              exact .obj (Fb_at s.nd h2 hb (by simp) g1) (Fb_at s.nd h2 hb (by simp) g2) g3 (all _ _ _ g4 q2)
          · cases e
theorem toP_H {w : Wd} {st : Store} {b k : Nat} {x : Val} {v : V} {p : P} (s : SR K cad w st) (r : RvW K cad w v x) (e : toP b st k x = some p) : Rp K cad w.H v p :=
  (toP_ok s k x v p r e).mono hide_ext
end Y

set_option linter.all false
set_option maxRecDepth 100000
set_option Elab.async false
/-! Y3: == and < of data, as the model asks them. -/
namespace Y
open PySem L2 PySem.SeqAt
variable {cad : En}

mutual
theorem eqv_refl : ∀ p : P, plain p = true → eqv p p = true
  | .non, _ => by simp [eqv]
  | .bl _, _ => by simp [eqv]
  | .int _, _ => by simp [eqv]
  | .str _, _ => by simp [eqv]
  | .tup ps, h => by simp only [eqv]; exact eqvL_refl ps (by simpa [plain] using h)
  | .lst ps, h => by simp only [eqv]; exact eqvL_refl ps (by simpa [plain] using h)
  | .dct _ _, h => by simp [plain] at h
  | .obj _ _ _, h => by simp [plain] at h
theorem eqvL_refl : ∀ ps : List P, plainL ps = true → eqvL ps ps = true
  | [], _ => by simp [eqvL]
  | p :: ps, h => by
    have h' : plain p = true ∧ plainL ps = true := by simpa [plainL] using h
    simp [eqvL, eqv_refl p h'.1, eqvL_refl ps h'.2]
end

section
variable {X : Cx} {pins : List (Addr × Obj)} {σ : L2.St} {H : Hp} {s : Shared}
theorem not_both (I : Inv X pins σ H s) {a : Addr} {xs ys : List V} (h1 : SqT X.K H a xs) (h2 : SqL X.K H a ys) : False := by
  obtain ⟨its, _, ⟨o, n, e, c, _, _⟩, _⟩ := I.list h2
  obtain ⟨its2, _, ⟨o2, e2, c2, _⟩, _⟩ := I.tuple h1
  rw [e] at e2
  cases e2
  rw [c] at c2
  exact absurd c2 (by decide)
mutual
theorem Rp.uniq (I : Inv X pins σ H s) : ∀ (p q : P) (v : V), plain p = true → plain q = true → Rp X.K cad H v p → Rp X.K cad H v q → p = q
  | .non, _, _, _, _, h, g => by cases h; cases g; rfl
  | .bl _, _, _, _, _, h, g => by cases h; cases g; rfl
  | .int _, _, _, _, _, h, g => by cases h; cases g; rfl
  | .str _, _, _, _, _, h, g => by cases h; cases g; rfl
  | .tup ps, q, _, hp, hq, h, g => by
    cases h with
    | tup h1 h2 =>
      cases g with
      | tup g1 g2 =>
        cases I.tuple_inj h1.sq g1.sq
        rw [RpL.uniq I ps _ _ (by simpa [plain] using hp) (by simpa [plain] using hq) h2 g2]
      | lst g1 g2 => exact (not_both I h1.sq g1).elim
      | dk _ _ _ => simp [plain] at hq
      | dt _ _ _ => simp [plain] at hq
      | obj _ _ _ _ => simp [plain] at hq
  | .lst ps, q, _, hp, hq, h, g => by
    cases h with
    | lst h1 h2 =>
      cases g with
      | lst g1 g2 =>
        cases I.list_inj h1 g1
        rw [RpL.uniq I ps _ _ (by simpa [plain] using hp) (by simpa [plain] using hq) h2 g2]
      | tup g1 g2 => exact (not_both I g1.sq h1).elim
      | dk _ _ _ => simp [plain] at hq
      | dt _ _ _ => simp [plain] at hq
      | obj _ _ _ _ => simp [plain] at hq
  | .dct _ _, _, _, hp, _, _, _ => by simp [plain] at hp
  | .obj _ _ _, _, _, hp, _, _, _ => by simp [plain] at hp
theorem RpL.uniq (I : Inv X pins σ H s) : ∀ (ps qs : List P) (vs : List V), plainL ps = true → plainL qs = true → RpL X.K cad H vs ps → RpL X.K cad H vs qs → ps = qs
  | [], _, _, _, _, h, g => by cases h; cases g; rfl
  | p :: ps, _, _, hp, hq, h, g => by
    cases h with
    | cons h1 h2 =>
      cases g with
      | cons g1 g2 =>
        have hp' : plain p = true ∧ plainL ps = true := by simpa [plainL] using hp
        have hq' := Bool.and_eq_true_iff.mp (by simpa only [plainL] using hq)
        rw [Rp.uniq I p _ _ hp'.1 hq'.1 h1 g1, RpL.uniq I ps _ _ hp'.2 hq'.2 h2 g2]
end

theorem Vals.getD {xs : List V} {us : List Value} (r : Vals xs us) (j : Nat) (h : j < us.length) : ∃ x, xs[j]? = some x ∧ RelV x us[j] := by
  have hl := r.length
  have hj : j < xs.length := by omega
  obtain ⟨u, h1, h2⟩ := r.get (i := j) (x := xs[j]) (by simp [hj])
  refine ⟨xs[j], by simp [hj], ?_⟩
  rw [List.getElem?_eq_getElem h] at h1
  cases h1
  exact h2

theorem all_range_eqv : ∀ (ps qs : List P), ps.length = qs.length → ((List.range ps.length).all fun j => eqv (ps.getD j .non) (qs.getD j .non)) = eqvL ps qs
  | [], [], _ => by simp [eqvL]
  | p :: ps, q :: qs, h => by
    rw [List.length_cons, List.range_succ_eq_map, List.all_cons, List.all_map]
    have e := all_range_eqv ps qs (by simpa using h)
    simp only [eqvL]
    rw [← e]
    rfl
theorem eqvL_len : ∀ {ps qs : List P}, ps.length ≠ qs.length → eqvL ps qs = false
  | [], [], h => absurd rfl h
  | [], _ :: _, _ => by simp [eqvL]
  | _ :: _, [], _ => by simp [eqvL]
  | p :: ps, q :: qs, h => by simp [eqvL, eqvL_len (ps := ps) (qs := qs) (by simpa using h)]
theorem depthL_get : ∀ {ps : List P} {j : Nat} {p : P}, ps[j]? = some p → depth p ≤ depthL ps
  | [], _, _, h => by simp at h
  | q :: ps, 0, p, h => by simp at h; subst h; simp only [depthL]; exact Nat.le_max_left _ _
  | q :: ps, j + 1, p, h => by
    have := depthL_get (ps := ps) (j := j) (p := p) (by simpa using h)
    simp only [depthL]
    exact Nat.le_trans this (Nat.le_max_right _ _)
theorem plainL_get : ∀ {ps : List P} {j : Nat} {p : P}, plainL ps = true → ps[j]? = some p → plain p = true
  | [], _, _, _, h => by simp at h
  | q :: ps, 0, p, hp, h => by
    simp at h; subst h
    exact (Bool.and_eq_true_iff.mp (by simpa only [plainL] using hp)).1
  | q :: ps, j + 1, p, hp, h => plainL_get (Bool.and_eq_true_iff.mp (by simpa only [plainL] using hp)).2 (by simpa using h)

theorem eq_atom (I : Inv X pins σ H s) (p q : P) (A : Around) (x y : V) (u v : Value) (h0 : depth p = 0) (hp : plain p = true) (hq : plain q = true) (h : Rp X.K cad H x p) (g : Rp X.K cad H y q) (ru : RelV x u) (rv : RelV y v) (hu : A.units < cLine) :
    EqAt A s u v (eqv p q) := by
  cases h with
  | non =>
    cases ru
    cases g with
    | non => cases rv; simp only [eqv]; exact EqAt.same _
    | bl => cases rv; simp only [eqv]; exact EqAt.none_bool _
    | int => obtain ⟨t, rfl⟩ := rv; simp only [eqv]; exact EqAt.none_int _ _
    | str => obtain ⟨t, rfl⟩ := rv; simp only [eqv]; exact EqAt.none_str _ _
    | tup g1 g2 => cases rv; obtain ⟨i2, r2, t2, _⟩ := I.tuple g1.sq; simp only [eqv]; exact EqAt.none_tuple t2 (by omega)
    | lst g1 g2 => cases rv; obtain ⟨i2, r2, t2, _⟩ := I.list g1; simp only [eqv]; exact EqAt.none_list t2.isList (by omega)
    | dk _ _ _ => simp [plain] at hq
    | dt _ _ _ => simp [plain] at hq
    | obj _ _ _ _ => simp [plain] at hq
  | bl =>
    cases ru
    cases g with
    | non => cases rv; simp only [eqv]; exact EqAt.bool_none _
    | bl => cases rv; simp only [eqv]; exact EqAt.bool_bool _ _
    | int => obtain ⟨t, rfl⟩ := rv; simp only [eqv]; exact EqAt.bool_int _ _ _
    | str => obtain ⟨t, rfl⟩ := rv; simp only [eqv]; exact EqAt.bool_str _ _ _
    | tup g1 g2 => cases rv; obtain ⟨i2, r2, t2, _⟩ := I.tuple g1.sq; simp only [eqv]; exact EqAt.bool_tuple _ t2 (by omega)
    | lst g1 g2 => cases rv; obtain ⟨i2, r2, t2, _⟩ := I.list g1; simp only [eqv]; exact EqAt.bool_list _ t2.isList (by omega)
    | dk _ _ _ => simp [plain] at hq
    | dt _ _ _ => simp [plain] at hq
    | obj _ _ _ _ => simp [plain] at hq
  | int =>
    obtain ⟨t, rfl⟩ := ru
    cases g with
    | non => cases rv; simp only [eqv]; exact EqAt.int_none _ _
    | bl => cases rv; simp only [eqv]; exact EqAt.int_bool _ _ _
    | int => obtain ⟨t, rfl⟩ := rv; simp only [eqv]; exact EqAt.int_int _ _ _ _
    | str => obtain ⟨t, rfl⟩ := rv; simp only [eqv]; exact EqAt.int_str _ _ _ _
    | tup g1 g2 => cases rv; obtain ⟨i2, r2, t2, _⟩ := I.tuple g1.sq; simp only [eqv]; exact EqAt.int_tuple _ _ t2 (by omega)
    | lst g1 g2 => cases rv; obtain ⟨i2, r2, t2, _⟩ := I.list g1; simp only [eqv]; exact EqAt.int_list _ _ t2.isList (by omega)
    | dk _ _ _ => simp [plain] at hq
    | dt _ _ _ => simp [plain] at hq
    | obj _ _ _ _ => simp [plain] at hq
  | str =>
    obtain ⟨t, rfl⟩ := ru
    cases g with
    | non => cases rv; simp only [eqv]; exact EqAt.str_none _ _
    | bl => cases rv; simp only [eqv]; exact EqAt.str_bool _ _ _
    | int => obtain ⟨t, rfl⟩ := rv; simp only [eqv]; exact EqAt.str_int _ _ _ _
    | str => obtain ⟨t, rfl⟩ := rv; simp only [eqv]; exact EqAt.str_str _ _ _ _
    | tup g1 g2 => cases rv; obtain ⟨i2, r2, t2, _⟩ := I.tuple g1.sq; simp only [eqv]; exact EqAt.str_tuple _ _ t2 (by omega)
    | lst g1 g2 => cases rv; obtain ⟨i2, r2, t2, _⟩ := I.list g1; simp only [eqv]; exact EqAt.str_list _ _ t2.isList (by omega)
    | dk _ _ _ => simp [plain] at hq
    | dt _ _ _ => simp [plain] at hq
    | obj _ _ _ _ => simp [plain] at hq
  | tup _ _ => simp only [depth] at h0; omega
  | lst _ _ => simp only [depth] at h0; omega
  | dk _ _ _ => simp [plain] at hp
  | dt _ _ _ => simp [plain] at hp
  | obj _ _ _ _ => simp [plain] at hp

/-- == -/
theorem eq_at (I : Inv X pins σ H s) : ∀ (n : Nat) (p q : P) (A : Around) (x y : V) (u v : Value), depth p ≤ n → plain p = true → plain q = true → Rp X.K cad H x p → Rp X.K cad H y q → RelV x u → RelV y v → A.units + n < cLine →
    EqAt A s u v (eqv p q) := by
  intro n
  induction n with
  | zero =>
    intro p q A x y u v hd hp hq h g ru rv hu
    exact eq_atom I p q A x y u v (by omega) hp hq h g ru rv (by omega)
  | succ n ih =>
    intro p q A x y u v hd hp hq h g ru rv hu
    by_cases h0 : depth p = 0
    · exact eq_atom I p q A x y u v h0 hp hq h g ru rv (by omega)
    · have items : ∀ (ps qs : List P) (xs ys : List V) (us ws : List Value), depthL ps ≤ n → plainL ps = true → plainL qs = true → RpL X.K cad H xs ps → RpL X.K cad H ys qs → Vals xs us → Vals ys ws →
          ∀ j (h1 : j < us.length) (h2 : j < ws.length), EqAt A.in1 s us[j] ws[j] (eqv (ps.getD j .non) (qs.getD j .non)) := by
        intro ps qs xs ys us ws hdl hps hqs r1 r2 rv1 rv2 j h1 h2
        obtain ⟨xj, e1, q1⟩ := Vals.getD rv1 j h1
        obtain ⟨yj, e2, q2⟩ := Vals.getD rv2 j h2
        obtain ⟨p', e3, q3⟩ := r1.getv e1
        obtain ⟨q', e4, q4⟩ := r2.getv e2
        rw [List.getD_eq_getElem?_getD, List.getD_eq_getElem?_getD, e3, e4]
        refine ih p' q' A.in1 xj yj _ _ (Nat.le_trans (depthL_get e3) hdl) (plainL_get hps e3) (plainL_get hqs e4) q3 q4 q1 q2 ?_
        show A.units + 1 + n < cLine
        omega
      cases h with
      | non => simp [depth] at h0
      | bl => simp [depth] at h0
      | int => simp [depth] at h0
      | str => simp [depth] at h0
      | @tup a xs ps h1 h2 =>
        cases ru
        obtain ⟨i1, r1, t1, _⟩ := I.tuple h1.sq
        cases g with
        | non => cases rv; simp only [eqv]; exact EqAt.tuple_none t1 (by omega)
        | bl => cases rv; simp only [eqv]; exact EqAt.tuple_bool _ t1 (by omega)
        | int => obtain ⟨t, rfl⟩ := rv; simp only [eqv]; exact EqAt.tuple_int _ _ t1 (by omega)
        | str => obtain ⟨t, rfl⟩ := rv; simp only [eqv]; exact EqAt.tuple_str _ _ t1 (by omega)
        | @tup b ys qs g1 g2 =>
          cases rv
          by_cases hab : a = b
          · subst hab
            rw [Rp.uniq I _ _ _ hp hq (.tup h1 h2) (.tup g1 g2), eqv_refl _ hq]
            exact EqAt.same _
          obtain ⟨i2, r2, t2, _⟩ := I.tuple g1.sq
          have l1 : i1.length = ps.length := by rw [← r1.length, h2.length]
          have l2 : i2.length = qs.length := by rw [← r2.length, g2.length]
          have q := RcAt.tuples t1 t2 (e := fun j => eqv (ps.getD j .non) (qs.getD j .non)) (by omega : A.units < cLine) fun j j1 j2 => by
            have := items ps qs xs ys i1 i2 (by simp only [depth] at hd; omega) (by simpa [plain] using hp) (by simpa [plain] using hq) h2 g2 r1 r2 j (by simpa using j1) (by simpa using j2)
            simpa using this
          refine EqAt.of_refs hab ?_
          simp only [List.size_toArray, l1, l2] at q
          simp only [eqv]
          by_cases hl : ps.length = qs.length
          · rw [← all_range_eqv ps qs hl]
            rw [hl, Nat.min_self, beq_self_eq_true, Bool.and_true, ← hl] at q
            exact q
          · rw [eqvL_len hl]
            have e0 : (ps.length == qs.length) = false := beq_eq_false_iff_ne.mpr hl
            rw [e0, Bool.and_false] at q
            exact q
        | @lst b ys qs g1 g2 =>
          cases rv
          obtain ⟨i2, r2, t2, _⟩ := I.list g1
          simp only [eqv]
          exact EqAt.tuple_list t1 t2.isList (by omega)
        | dk _ _ _ => simp [plain] at hq
        | dt _ _ _ => simp [plain] at hq
        | obj _ _ _ _ => simp [plain] at hq
      | @lst a xs ps h1 h2 =>
        cases ru
        obtain ⟨i1, r1, t1, _⟩ := I.list h1
        cases g with
        | non => cases rv; simp only [eqv]; exact EqAt.list_none t1.isList (by omega)
        | bl => cases rv; simp only [eqv]; exact EqAt.list_bool _ t1.isList (by omega)
        | int => obtain ⟨t, rfl⟩ := rv; simp only [eqv]; exact EqAt.list_int _ _ t1.isList (by omega)
        | str => obtain ⟨t, rfl⟩ := rv; simp only [eqv]; exact EqAt.list_str _ _ t1.isList (by omega)
        | @tup b ys qs g1 g2 =>
          cases rv
          obtain ⟨i2, r2, t2, _⟩ := I.tuple g1.sq
          simp only [eqv]
          exact EqAt.list_tuple t1.isList t2 (by omega)
        | @lst b ys qs g1 g2 =>
          cases rv
          by_cases hab : a = b
          · subst hab
            rw [Rp.uniq I _ _ _ hp hq (.lst h1 h2) (.lst g1 g2), eqv_refl _ hq]
            exact EqAt.same _
          obtain ⟨i2, r2, t2, _⟩ := I.list g1
          have l1 : i1.length = ps.length := by rw [← r1.length, h2.length]
          have l2 : i2.length = qs.length := by rw [← r2.length, g2.length]
          refine EqAt.of_refs hab ?_
          simp only [eqv]
          by_cases hl : ps.length = qs.length
          · have q := RcAt.lists t1.isList t2.isList (e := fun j => eqv (ps.getD j .non) (qs.getD j .non)) (by simp [l1, l2, hl]) (by omega : A.units < cLine) fun j j1 j2 => by
              have := items ps qs xs ys i1 i2 (by simp only [depth] at hd; omega) (by simpa [plain] using hp) (by simpa [plain] using hq) h2 g2 r1 r2 j (by simpa using j1) (by simpa using j2)
              simpa using this
            rw [← all_range_eqv ps qs hl]
            simp only [List.size_toArray, l1] at q
            exact q
          · rw [eqvL_len hl]
            exact RcAt.lists_lengths t1.isList t2.isList (by simp [l1, l2, hl]) (by omega)
        | dk _ _ _ => simp [plain] at hq
        | dt _ _ _ => simp [plain] at hq
        | obj _ _ _ _ => simp [plain] at hq
      | dk _ _ _ => simp [plain] at hp
      | dt _ _ _ => simp [plain] at hp
      | obj _ _ _ _ => simp [plain] at hp

theorem eq_items (I : Inv X pins σ H s) (n : Nat) (ps qs : List P) (A : Around) (xs ys : List V) (us ws : List Value) (hdl : depthL ps ≤ n) (hps : plainL ps = true) (hqs : plainL qs = true) (r1 : RpL X.K cad H xs ps) (r2 : RpL X.K cad H ys qs) (rv1 : Vals xs us) (rv2 : Vals ys ws) (hu : A.units + 1 + n < cLine) :
    ∀ j (h1 : j < us.length) (h2 : j < ws.length), EqAt A.in1 s us[j] ws[j] (eqv (ps.getD j .non) (qs.getD j .non)) := by
  intro j h1 h2
  obtain ⟨xj, e1, q1⟩ := Vals.getD rv1 j h1
  obtain ⟨yj, e2, q2⟩ := Vals.getD rv2 j h2
  obtain ⟨p', e3, q3⟩ := r1.getv e1
  obtain ⟨q', e4, q4⟩ := r2.getv e2
  rw [List.getD_eq_getElem?_getD, List.getD_eq_getElem?_getD, e3, e4]
  refine eq_at I n p' q' A.in1 xj yj _ _ (Nat.le_trans (depthL_get e3) hdl) (plainL_get hps e3) (plainL_get hqs e4) q3 q4 q1 q2 ?_
  show A.units + 1 + n < cLine
  omega
theorem rc_atom (I : Inv X pins σ H s) (p q : P) (A : Around) (x y : V) (u v : Value) (h0 : depth p = 0) (hp : plain p = true) (hq : plain q = true) (h : Rp X.K cad H x p) (g : Rp X.K cad H y q) (ru : RelV x u) (rv : RelV y v) (hu : A.units < cLine) :
    RcAt A s u v (eqv p q) := by
  cases h with
  | non =>
    cases ru
    cases g with
    | non => cases rv; simp only [eqv]; exact RcAt.none_none
    | bl => cases rv; simp only [eqv]; exact RcAt.none_bool _
    | int => obtain ⟨t, rfl⟩ := rv; simp only [eqv]; exact RcAt.none_int _ _
    | str => obtain ⟨t, rfl⟩ := rv; simp only [eqv]; exact RcAt.none_str _ _
    | tup g1 g2 => cases rv; obtain ⟨i2, r2, t2, _⟩ := I.tuple g1.sq; simp only [eqv]; exact RcAt.none_tuple t2 (by omega)
    | lst g1 g2 => cases rv; obtain ⟨i2, r2, t2, _⟩ := I.list g1; simp only [eqv]; exact RcAt.none_list t2.isList (by omega)
    | dk _ _ _ => simp [plain] at hq
    | dt _ _ _ => simp [plain] at hq
    | obj _ _ _ _ => simp [plain] at hq
  | bl =>
    cases ru
    cases g with
    | non => cases rv; simp only [eqv]; exact RcAt.bool_none _
    | bl => cases rv; simp only [eqv]; exact RcAt.bool_bool _ _
    | int => obtain ⟨t, rfl⟩ := rv; simp only [eqv]; exact RcAt.bool_int _ _ _
    | str => obtain ⟨t, rfl⟩ := rv; simp only [eqv]; exact RcAt.bool_str _ _ _
    | tup g1 g2 => cases rv; obtain ⟨i2, r2, t2, _⟩ := I.tuple g1.sq; simp only [eqv]; exact RcAt.bool_tuple _ t2 (by omega)
    | lst g1 g2 => cases rv; obtain ⟨i2, r2, t2, _⟩ := I.list g1; simp only [eqv]; exact RcAt.bool_list _ t2.isList (by omega)
    | dk _ _ _ => simp [plain] at hq
    | dt _ _ _ => simp [plain] at hq
    | obj _ _ _ _ => simp [plain] at hq
  | int =>
    obtain ⟨t, rfl⟩ := ru
    cases g with
    | non => cases rv; simp only [eqv]; exact RcAt.int_none _ _
    | bl => cases rv; simp only [eqv]; exact RcAt.int_bool _ _ _
    | int => obtain ⟨t, rfl⟩ := rv; simp only [eqv]; exact RcAt.int_int _ _ _ _
    | str => obtain ⟨t, rfl⟩ := rv; simp only [eqv]; exact RcAt.int_str _ _ _ _
    | tup g1 g2 => cases rv; obtain ⟨i2, r2, t2, _⟩ := I.tuple g1.sq; simp only [eqv]; exact RcAt.int_tuple _ _ t2 (by omega)
    | lst g1 g2 => cases rv; obtain ⟨i2, r2, t2, _⟩ := I.list g1; simp only [eqv]; exact RcAt.int_list _ _ t2.isList (by omega)
    | dk _ _ _ => simp [plain] at hq
    | dt _ _ _ => simp [plain] at hq
    | obj _ _ _ _ => simp [plain] at hq
  | str =>
    obtain ⟨t, rfl⟩ := ru
    cases g with
    | non => cases rv; simp only [eqv]; exact RcAt.str_none _ _
    | bl => cases rv; simp only [eqv]; exact RcAt.str_bool _ _ _
    | int => obtain ⟨t, rfl⟩ := rv; simp only [eqv]; exact RcAt.str_int _ _ _ _
    | str => obtain ⟨t, rfl⟩ := rv; simp only [eqv]; exact RcAt.str_str _ _ _ _
    | tup g1 g2 => cases rv; obtain ⟨i2, r2, t2, _⟩ := I.tuple g1.sq; simp only [eqv]; exact RcAt.str_tuple _ _ t2 (by omega)
    | lst g1 g2 => cases rv; obtain ⟨i2, r2, t2, _⟩ := I.list g1; simp only [eqv]; exact RcAt.str_list _ _ t2.isList (by omega)
    | dk _ _ _ => simp [plain] at hq
    | dt _ _ _ => simp [plain] at hq
    | obj _ _ _ _ => simp [plain] at hq
  | tup _ _ => simp only [depth] at h0; omega
  | lst _ _ => simp only [depth] at h0; omega
  | dk _ _ _ => simp [plain] at hp
  | dt _ _ _ => simp [plain] at hp
  | obj _ _ _ _ => simp [plain] at hp


theorem rc_at (I : Inv X pins σ H s) (p q : P) (A : Around) (x y : V) (u v : Value) (hp : plain p = true) (hq : plain q = true) (h : Rp X.K cad H x p) (g : Rp X.K cad H y q) (ru : RelV x u) (rv : RelV y v) (hu : A.units + depth p + 1 < cLine) :
    RcAt A s u v (eqv p q) := by
  by_cases h0 : depth p = 0
  · exact rc_atom I p q A x y u v h0 hp hq h g ru rv (by omega)
  cases h with
  | non => simp [depth] at h0
  | bl => simp [depth] at h0
  | int => simp [depth] at h0
  | str => simp [depth] at h0
  | @tup a xs ps h1 h2 =>
    cases ru
    obtain ⟨i1, r1, t1, _⟩ := I.tuple h1.sq
    simp only [depth] at hu
    cases g with
    | non => cases rv; simp only [eqv]; exact RcAt.tuple_none t1 (by omega)
    | bl => cases rv; simp only [eqv]; exact RcAt.tuple_bool _ t1 (by omega)
    | int => obtain ⟨t, rfl⟩ := rv; simp only [eqv]; exact RcAt.tuple_int _ _ t1 (by omega)
    | str => obtain ⟨t, rfl⟩ := rv; simp only [eqv]; exact RcAt.tuple_str _ _ t1 (by omega)
    | @tup b ys qs g1 g2 =>
      cases rv
      obtain ⟨i2, r2, t2, _⟩ := I.tuple g1.sq
      have l1 : i1.length = ps.length := by rw [← r1.length, h2.length]
      have l2 : i2.length = qs.length := by rw [← r2.length, g2.length]
      have q := RcAt.tuples t1 t2 (e := fun j => eqv (ps.getD j .non) (qs.getD j .non)) (by omega : A.units < cLine) fun j j1 j2 => by
        have := eq_items I (depthL ps) ps qs A xs ys i1 i2 (Nat.le_refl _) (by simpa [plain] using hp) (by simpa [plain] using hq) h2 g2 r1 r2 (by omega) j (by simpa using j1) (by simpa using j2)
        simpa using this
      simp only [List.size_toArray, l1, l2] at q
      simp only [eqv]
      by_cases hl : ps.length = qs.length
      · rw [← all_range_eqv ps qs hl]
        rw [hl, Nat.min_self, beq_self_eq_true, Bool.and_true, ← hl] at q
        exact q
      · rw [eqvL_len hl]
        have e0 : (ps.length == qs.length) = false := beq_eq_false_iff_ne.mpr hl
        rw [e0, Bool.and_false] at q
        exact q
    | @lst b ys qs g1 g2 =>
      cases rv
      obtain ⟨i2, r2, t2, _⟩ := I.list g1
      simp only [eqv]
      exact RcAt.tuple_list t1 t2.isList (by omega)
    | dk _ _ _ => simp [plain] at hq
    | dt _ _ _ => simp [plain] at hq
    | obj _ _ _ _ => simp [plain] at hq
  | @lst a xs ps h1 h2 =>
    cases ru
    obtain ⟨i1, r1, t1, _⟩ := I.list h1
    simp only [depth] at hu
    cases g with
    | non => cases rv; simp only [eqv]; exact RcAt.list_none t1.isList (by omega)
    | bl => cases rv; simp only [eqv]; exact RcAt.list_bool _ t1.isList (by omega)
    | int => obtain ⟨t, rfl⟩ := rv; simp only [eqv]; exact RcAt.list_int _ _ t1.isList (by omega)
    | str => obtain ⟨t, rfl⟩ := rv; simp only [eqv]; exact RcAt.list_str _ _ t1.isList (by omega)
    | @tup b ys qs g1 g2 =>
      cases rv
      obtain ⟨i2, r2, t2, _⟩ := I.tuple g1.sq
      simp only [eqv]
      exact RcAt.list_tuple t1.isList t2 (by omega)
    | @lst b ys qs g1 g2 =>
      cases rv
      obtain ⟨i2, r2, t2, _⟩ := I.list g1
      have l1 : i1.length = ps.length := by rw [← r1.length, h2.length]
      have l2 : i2.length = qs.length := by rw [← r2.length, g2.length]
      simp only [eqv]
      by_cases hl : ps.length = qs.length
      · have q := RcAt.lists t1.isList t2.isList (e := fun j => eqv (ps.getD j .non) (qs.getD j .non)) (by simp [l1, l2, hl]) (by omega : A.units < cLine) fun j j1 j2 => by
          have := eq_items I (depthL ps) ps qs A xs ys i1 i2 (Nat.le_refl _) (by simpa [plain] using hp) (by simpa [plain] using hq) h2 g2 r1 r2 (by omega) j (by simpa using j1) (by simpa using j2)
          simpa using this
        rw [← all_range_eqv ps qs hl]
        simp only [List.size_toArray, l1] at q
        exact q
      · rw [eqvL_len hl]
        exact RcAt.lists_lengths t1.isList t2.isList (by simp [l1, l2, hl]) (by omega)
    | dk _ _ _ => simp [plain] at hq
    | dt _ _ _ => simp [plain] at hq
    | obj _ _ _ _ => simp [plain] at hq
  | dk _ _ _ => simp [plain] at hp
  | dt _ _ _ => simp [plain] at hp
  | obj _ _ _ _ => simp [plain] at hp

/-! ### != -/
theorem ne_atom (I : Inv X pins σ H s) (p q : P) (A : Around) (x y : V) (u v : Value) (h0 : depth p = 0) (hp : plain p = true) (hq : plain q = true) (h : Rp X.K cad H x p) (g : Rp X.K cad H y q) (ru : RelV x u) (rv : RelV y v) (hu : A.units < cLine) :
    RcNeAt A s u v (!eqv p q) := by
  cases h with
  | non =>
    cases ru
    cases g with
    | non => cases rv; simp only [eqv]; exact RcNeAt.none_none
    | bl => cases rv; simp only [eqv]; exact RcNeAt.none_bool _
    | int => obtain ⟨t, rfl⟩ := rv; simp only [eqv]; exact RcNeAt.none_int _ _
    | str => obtain ⟨t, rfl⟩ := rv; simp only [eqv]; exact RcNeAt.none_str _ _
    | tup g1 g2 => cases rv; obtain ⟨i2, r2, t2, _⟩ := I.tuple g1.sq; simp only [eqv]; exact RcNeAt.none_tuple t2 (by omega)
    | lst g1 g2 => cases rv; obtain ⟨i2, r2, t2, _⟩ := I.list g1; simp only [eqv]; exact RcNeAt.none_list t2.isList (by omega)
    | dk _ _ _ => simp [plain] at hq
    | dt _ _ _ => simp [plain] at hq
    | obj _ _ _ _ => simp [plain] at hq
  | bl =>
    cases ru
    cases g with
    | non => cases rv; simp only [eqv]; exact RcNeAt.bool_none _
    | bl => cases rv; simp only [eqv]; exact RcNeAt.bool_bool _ _
    | int => obtain ⟨t, rfl⟩ := rv; simp only [eqv]; exact RcNeAt.bool_int _ _ _
    | str => obtain ⟨t, rfl⟩ := rv; simp only [eqv]; exact RcNeAt.bool_str _ _ _
    | tup g1 g2 => cases rv; obtain ⟨i2, r2, t2, _⟩ := I.tuple g1.sq; simp only [eqv]; exact RcNeAt.bool_tuple _ t2 (by omega)
    | lst g1 g2 => cases rv; obtain ⟨i2, r2, t2, _⟩ := I.list g1; simp only [eqv]; exact RcNeAt.bool_list _ t2.isList (by omega)
    | dk _ _ _ => simp [plain] at hq
    | dt _ _ _ => simp [plain] at hq
    | obj _ _ _ _ => simp [plain] at hq
  | int =>
    obtain ⟨t, rfl⟩ := ru
    cases g with
    | non => cases rv; simp only [eqv]; exact RcNeAt.int_none _ _
    | bl => cases rv; simp only [eqv]; exact RcNeAt.int_bool _ _ _
    | int => obtain ⟨t, rfl⟩ := rv; simp only [eqv]; exact RcNeAt.int_int _ _ _ _
    | str => obtain ⟨t, rfl⟩ := rv; simp only [eqv]; exact RcNeAt.int_str _ _ _ _
    | tup g1 g2 => cases rv; obtain ⟨i2, r2, t2, _⟩ := I.tuple g1.sq; simp only [eqv]; exact RcNeAt.int_tuple _ _ t2 (by omega)
    | lst g1 g2 => cases rv; obtain ⟨i2, r2, t2, _⟩ := I.list g1; simp only [eqv]; exact RcNeAt.int_list _ _ t2.isList (by omega)
    | dk _ _ _ => simp [plain] at hq
    | dt _ _ _ => simp [plain] at hq
    | obj _ _ _ _ => simp [plain] at hq
  | str =>
    obtain ⟨t, rfl⟩ := ru
    cases g with
    | non => cases rv; simp only [eqv]; exact RcNeAt.str_none _ _
    | bl => cases rv; simp only [eqv]; exact RcNeAt.str_bool _ _ _
    | int => obtain ⟨t, rfl⟩ := rv; simp only [eqv]; exact RcNeAt.str_int _ _ _ _
    | str => obtain ⟨t, rfl⟩ := rv; simp only [eqv]; exact RcNeAt.str_str _ _ _ _
    | tup g1 g2 => cases rv; obtain ⟨i2, r2, t2, _⟩ := I.tuple g1.sq; simp only [eqv]; exact RcNeAt.str_tuple _ _ t2 (by omega)
    | lst g1 g2 => cases rv; obtain ⟨i2, r2, t2, _⟩ := I.list g1; simp only [eqv]; exact RcNeAt.str_list _ _ t2.isList (by omega)
    | dk _ _ _ => simp [plain] at hq
    | dt _ _ _ => simp [plain] at hq
    | obj _ _ _ _ => simp [plain] at hq
  | tup _ _ => simp only [depth] at h0; omega
  | lst _ _ => simp only [depth] at h0; omega
  | dk _ _ _ => simp [plain] at hp
  | dt _ _ _ => simp [plain] at hp
  | obj _ _ _ _ => simp [plain] at hp


theorem ne_at (I : Inv X pins σ H s) (p q : P) (A : Around) (x y : V) (u v : Value) (hp : plain p = true) (hq : plain q = true) (h : Rp X.K cad H x p) (g : Rp X.K cad H y q) (ru : RelV x u) (rv : RelV y v) (hu : A.units + depth p + 1 < cLine) :
    RcNeAt A s u v (!eqv p q) := by
  by_cases h0 : depth p = 0
  · exact ne_atom I p q A x y u v h0 hp hq h g ru rv (by omega)
  cases h with
  | non => simp [depth] at h0
  | bl => simp [depth] at h0
  | int => simp [depth] at h0
  | str => simp [depth] at h0
  | @tup a xs ps h1 h2 =>
    cases ru
    obtain ⟨i1, r1, t1, _⟩ := I.tuple h1.sq
    simp only [depth] at hu
    cases g with
    | non => cases rv; simp only [eqv]; exact RcNeAt.tuple_none t1 (by omega)
    | bl => cases rv; simp only [eqv]; exact RcNeAt.tuple_bool _ t1 (by omega)
    | int => obtain ⟨t, rfl⟩ := rv; simp only [eqv]; exact RcNeAt.tuple_int _ _ t1 (by omega)
    | str => obtain ⟨t, rfl⟩ := rv; simp only [eqv]; exact RcNeAt.tuple_str _ _ t1 (by omega)
    | @tup b ys qs g1 g2 =>
      cases rv
      obtain ⟨i2, r2, t2, _⟩ := I.tuple g1.sq
      have l1 : i1.length = ps.length := by rw [← r1.length, h2.length]
      have l2 : i2.length = qs.length := by rw [← r2.length, g2.length]
      have q := RcNeAt.tuples t1 t2 (e := fun j => eqv (ps.getD j .non) (qs.getD j .non)) (by omega : A.units < cLine) fun j j1 j2 => by
        have := eq_items I (depthL ps) ps qs A xs ys i1 i2 (Nat.le_refl _) (by simpa [plain] using hp) (by simpa [plain] using hq) h2 g2 r1 r2 (by omega) j (by simpa using j1) (by simpa using j2)
        simpa using this
      simp only [List.size_toArray, l1, l2] at q
      simp only [eqv]
      by_cases hl : ps.length = qs.length
      · rw [← all_range_eqv ps qs hl]
        rw [hl, Nat.min_self, beq_self_eq_true, Bool.and_true, ← hl] at q
        exact q
      · rw [eqvL_len hl]
        have e0 : (ps.length == qs.length) = false := beq_eq_false_iff_ne.mpr hl
        rw [e0, Bool.and_false] at q
        exact q
    | @lst b ys qs g1 g2 =>
      cases rv
      obtain ⟨i2, r2, t2, _⟩ := I.list g1
      simp only [eqv]
      exact RcNeAt.tuple_list t1 t2.isList (by omega)
    | dk _ _ _ => simp [plain] at hq
    | dt _ _ _ => simp [plain] at hq
    | obj _ _ _ _ => simp [plain] at hq
  | @lst a xs ps h1 h2 =>
    cases ru
    obtain ⟨i1, r1, t1, _⟩ := I.list h1
    simp only [depth] at hu
    cases g with
    | non => cases rv; simp only [eqv]; exact RcNeAt.list_none t1.isList (by omega)
    | bl => cases rv; simp only [eqv]; exact RcNeAt.list_bool _ t1.isList (by omega)
    | int => obtain ⟨t, rfl⟩ := rv; simp only [eqv]; exact RcNeAt.list_int _ _ t1.isList (by omega)
    | str => obtain ⟨t, rfl⟩ := rv; simp only [eqv]; exact RcNeAt.list_str _ _ t1.isList (by omega)
    | @tup b ys qs g1 g2 =>
      cases rv
      obtain ⟨i2, r2, t2, _⟩ := I.tuple g1.sq
      simp only [eqv]
      exact RcNeAt.list_tuple t1.isList t2 (by omega)
    | @lst b ys qs g1 g2 =>
      cases rv
      obtain ⟨i2, r2, t2, _⟩ := I.list g1
      have l1 : i1.length = ps.length := by rw [← r1.length, h2.length]
      have l2 : i2.length = qs.length := by rw [← r2.length, g2.length]
      simp only [eqv]
      by_cases hl : ps.length = qs.length
      · have q := RcNeAt.lists t1.isList t2.isList (e := fun j => eqv (ps.getD j .non) (qs.getD j .non)) (by simp [l1, l2, hl]) (by omega : A.units < cLine) fun j j1 j2 => by
          have := eq_items I (depthL ps) ps qs A xs ys i1 i2 (Nat.le_refl _) (by simpa [plain] using hp) (by simpa [plain] using hq) h2 g2 r1 r2 (by omega) j (by simpa using j1) (by simpa using j2)
          simpa using this
        rw [← all_range_eqv ps qs hl]
        simp only [List.size_toArray, l1] at q
        exact q
      · rw [eqvL_len hl]
        exact RcNeAt.lists_lengths t1.isList t2.isList (by simp [l1, l2, hl]) (by omega)
    | dk _ _ _ => simp [plain] at hq
    | dt _ _ _ => simp [plain] at hq
    | obj _ _ _ _ => simp [plain] at hq
  | dk _ _ _ => simp [plain] at hp
  | dt _ _ _ => simp [plain] at hp
  | obj _ _ _ _ => simp [plain] at hp

/-! ### < -/
theorem firstLt_eqv : ∀ (ps qs : List P), firstLt (fun j => eqv (ps.getD j .non) (qs.getD j .non)) (fun j => ltP (ps.getD j .non) (qs.getD j .non)) (decide (ps.length < qs.length)) (List.range (min ps.length qs.length)) = ltL ps qs
  | [], [] => by simp [ltL, firstLt]
  | [], q :: qs => by simp [ltL, firstLt]
  | p :: ps, [] => by simp [ltL, firstLt]
  | p :: ps, q :: qs => by
    have e : min (p :: ps).length (q :: qs).length = min ps.length qs.length + 1 := by simp only [List.length_cons]; omega
    rw [e, List.range_succ_eq_map]
    simp only [ltL]
    cases hq : eqv p q with
    | true =>
      rw [firstLt_yes (by simpa using hq), PySem.W.firstLt_map, if_pos rfl, ← firstLt_eqv ps qs]
      simp
    | false =>
      rw [firstLt_no (by simpa using hq), if_neg Bool.false_ne_true]
      simp
theorem cmpL_get : ∀ {ps qs : List P} {j : Nat} {p q : P}, cmpL ps qs = true → ps[j]? = some p → qs[j]? = some q → (∀ i < j, eqv (ps.getD i .non) (qs.getD i .non) = true) → eqv p q = false → cmpb p q = true
  | [], _, _, _, _, _, h, _, _, _ => by simp at h
  | _ :: _, [], _, _, _, _, _, h, _, _ => by simp at h
  | a :: ps, b :: qs, 0, p, q, hc, h1, h2, _, he => by
    simp at h1 h2
    subst h1 h2
    simp only [cmpL, he] at hc
    exact hc
  | a :: ps, b :: qs, j + 1, p, q, hc, h1, h2, ha, he => by
    have h0 := ha 0 (Nat.succ_pos _)
    have h0' : eqv a b = true := by simpa using h0
    simp only [cmpL, h0', if_true] at hc
    exact cmpL_get (j := j) hc (by simpa using h1) (by simpa using h2) (fun i hi => by simpa using ha (i + 1) (Nat.succ_lt_succ hi)) he
theorem cmpA_get : ∀ {ps qs : List P} {j : Nat} {p q : P}, cmpA ps qs = true → ps[j]? = some p → qs[j]? = some q → eqv p q = false → cmpb p q = true
  | [], _, _, _, _, _, h, _, _ => by simp at h
  | _ :: _, [], _, _, _, _, _, h, _ => by simp at h
  | a :: ps, b :: qs, 0, p, q, hc, h1, h2, he => by
    simp at h1 h2
    subst h1 h2
    simp only [cmpA, he, Bool.false_or] at hc
    exact (Bool.and_eq_true_iff.mp hc).1
  | a :: ps, b :: qs, j + 1, p, q, hc, h1, h2, he => by
    simp only [cmpA] at hc
    exact cmpA_get (j := j) (Bool.and_eq_true_iff.mp hc).2 (by simpa using h1) (by simpa using h2) he
end

section
open AutoSeq1 (wpAny_loadPart')
open Builtin Builtin.Tuple in
theorem tup_lt_body : Builtin.«tuple.__lt__» = fun args => (do
    let (l, [r]) ← slotArgs "__lt__" 1 args | unsupported "internal:tuple.compare"
    if !(← isInstance r (.type "tuple")) then
      return ← ret .notImplemented
    let us ← tupleItemsOf l
    let ws ← tupleItemsOf r
    for (u, v) in us.toList.zip ws.toList do
      if !(← eqBool u v) then
        rule "tuple.compare.by-the-first-pair-that-differs"
        return ← ret (← PySem.richCompare .Lt u v)
    ret (tupleCompareSizes .Lt us.size ws.size)) := rfl
/-- a < b of tuples, where < is asked at the first place alone at which they differ -/
theorem tup_lt_first (a1 a2 : Addr) (us ws : Array Value) (n1 n2 : Nat) (d1 d2 : Option Addr) (z1 z2 : Array (Option Value)) (eq lt : Nat → Bool) :
    Meets (Builtin.«tuple.__lt__» ⟨[.ref a1, .ref a2], []⟩)
      (fun B R s => s.heap.get? a1 = some { cls := .type "tuple", dict := d1, data := .seq us n1, slots := z1 } ∧
        s.heap.get? a2 = some { cls := .type "tuple", dict := d2, data := .seq ws n2, slots := z2 } ∧
        (∀ j (h1 : j < us.size) (h2 : j < ws.size), EqAt B.in1 s us[j] ws[j] (eq j)) ∧
        (∀ j (h1 : j < us.size) (h2 : j < ws.size), (∀ i, i < j → eq i = true) → eq j = false → RcLt B.in1 s us[j] ws[j] (lt j)) ∧
        R (.ok (.ret (.bool (firstLt eq lt (decide (us.size < ws.size)) (List.range (min us.size ws.size)))))) s) := by
  refine .of_wp fun prog w B R s hyp => ?_
  obtain ⟨hp, gs, dr, tk, os⟩ := s
  obtain ⟨o1, o2, hq, hl, fin⟩ := hyp
  unfold RcLt at hl
  rw [tup_lt_body]
  generalize PySem.richCompare = rc at hl ⊢
  have sub := AutoSeq1.sub_tuple_tuple
  have zl : (us.toList.zip ws.toList).length = min us.size ws.size := by simp
  wp_walk using wpAny_loadPart' o1, wpAny_loadPart' o2,
    wpAny_forIn_list _ (fun rest acc s' => acc.1 = none ∧ s' = ⟨hp, gs, dr, tk, os⟩ ∧ ∃ i, (∀ m, m < i → eq m = true) ∧ rest = (us.toList.zip ws.toList).drop i ∧
      R (.ok (.ret (.bool (firstLt eq lt (decide (us.size < ws.size)) ((List.range (min us.size ws.size)).drop i))))) ⟨hp, gs, dr, tk, os⟩) _
  case turn =>
    rintro ⟨yy, xx⟩ rest acc s' ⟨hacc, rfl, i, hall, hz, hR⟩
    have hi : i < (us.toList.zip ws.toList).length := by
      refine Nat.lt_of_not_le fun hge => ?_
      rw [List.drop_of_length_le hge] at hz
      cases hz
    have hm : i < min us.size ws.size := by rw [← zl]; exact hi
    have i1 : i < us.size := by omega
    have i2 : i < ws.size := by omega
    rw [List.drop_eq_getElem_cons hi] at hz
    injection hz with hyx hrest
    obtain rfl : yy = us[i] := by have := congrArg Prod.fst hyx; simpa using this
    obtain rfl : xx = ws[i] := by have := congrArg Prod.snd hyx; simpa using this
    have hd : (List.range (min us.size ws.size)).drop i = i :: (List.range (min us.size ws.size)).drop (i + 1) := by
      rw [List.drop_eq_getElem_cons (by simpa using hm)]
      simp
    rw [hd] at hR
    refine wpAny_bind (hq i i1 i2 prog w _ _ ?_)
    cases ei : eq i with
    | true =>
      rw [firstLt_yes ei] at hR
      wp_walk
      refine ⟨rfl, rfl, i + 1, fun m hmi => ?_, hrest, hR⟩
      by_cases h : m < i
      · exact hall m h
      · obtain rfl : m = i := by omega
        exact ei
    | false =>
      rw [firstLt_no ei] at hR
      wp_walk
      refine hl i i1 i2 hall ei prog w _ _ ?_
      wp_walk
      exact ⟨_, rfl, hR⟩
  case fin =>
    rintro ⟨c1, c2⟩ s' ⟨hacc, rfl, i, hall, hz, hR⟩
    simp only at hacc
    subst hacc
    have hge : min us.size ws.size ≤ i := by
      refine Nat.le_of_not_lt fun hlt => ?_
      rw [List.drop_eq_getElem_cons (by rw [zl]; exact hlt)] at hz
      cases hz
    rw [List.drop_of_length_le (by simpa using hge)] at hR
    wp_walk
    exact ⟨_, rfl, by simpa [Builtin.Tuple.tupleCompareSizes, firstLt] using hR⟩
  case h =>
    exact ⟨rfl, rfl, 0, (fun m hm => absurd hm (Nat.not_lt_zero m)), rfl, by simpa using fin⟩
end
section
variable {B : Around} {s : Shared}
theorem RcLt.first {a1 a2 : Addr} {us ws : Array Value} {eq lt : Nat → Bool} (t1 : s.heap.IsTuple a1 us) (t2 : s.heap.IsTuple a2 ws) (hu : B.units < cLine)
    (he : ∀ j (h1 : j < us.size) (h2 : j < ws.size), EqAt B.in1 s us[j] ws[j] (eq j))
    (hr : ∀ j (h1 : j < us.size) (h2 : j < ws.size), (∀ i, i < j → eq i = true) → eq j = false → RcLt B.in1 s us[j] ws[j] (lt j)) :
    RcLt B s (.ref a1) (.ref a2) (firstLt eq lt (decide (us.size < ws.size)) (List.range (min us.size ws.size))) := by
  intro prog w E Q h
  obtain ⟨⟨c1, d1, dt1, z1⟩, o1, k1, n1, e1⟩ := id t1
  obtain ⟨⟨c2, d2, dt2, z2⟩, o2, k2, n2, e2⟩ := id t2
  simp only at k1 e1 k2 e2
  subst k1 e1 k2 e2
  refine richCompare_meets_room (op := .Lt) ⟨_, o1, rfl⟩ ⟨_, o2, rfl⟩ F.slot_tuple_lt F.entry_tuple_lt (F.args_tuple_lt_2 _ _) (tup_lt_first a1 a2 us ws n1 n2 d1 d2 z1 z2 eq lt) ⟨o1, o2, he, hr, ?_⟩ hu
  exact ⟨fun z => (by cases z), h⟩
end
section
variable {X : Cx} {pins : List (Addr × Obj)} {σ : L2.St} {H : Hp} {s : Shared}
/-- < -/
theorem lt_at (I : Inv X pins σ H s) : ∀ (n : Nat) (p q : P) (A : Around) (x y : V) (u v : Value), depth p ≤ n → plain p = true → plain q = true → cmpb p q = true → Rp X.K cad H x p → Rp X.K cad H y q → RelV x u → RelV y v → A.units + n + 1 < cLine →
    RcLt A s u v (ltP p q) := by
  intro n
  induction n with
  | zero =>
    intro p q A x y u v hd hp hq hc h g ru rv hu
    cases h with
    | non => simp [cmpb] at hc
    | bl a =>
      cases g with
      | bl b =>
        cases ru; cases rv
        intro prog w E Q hQ
        exact PyProof.Rows.lt_bool hQ
      | _ => simp [cmpb] at hc
    | int i =>
      cases g with
      | int j =>
        obtain ⟨t, rfl⟩ := ru
        obtain ⟨t', rfl⟩ := rv
        intro prog w E Q hQ
        exact PySem.P.lt_int hQ
      | _ => simp [cmpb] at hc
    | str a =>
      cases g with
      | str b =>
        obtain ⟨t, rfl⟩ := ru
        obtain ⟨t', rfl⟩ := rv
        intro prog w E Q hQ
        exact PySem.P.lt_str hQ
      | _ => simp [cmpb] at hc
    | tup _ _ => simp only [depth] at hd; omega
    | lst _ _ => simp only [depth] at hd; omega
    | dk _ _ _ => simp [plain] at hp
    | dt _ _ _ => simp [plain] at hp
    | obj _ _ _ _ => simp [plain] at hp
  | succ n ih =>
    intro p q A x y u v hd hp hq hc h g ru rv hu
    cases h with
    | non => simp [cmpb] at hc
    | bl a =>
      cases g with
      | bl b =>
        cases ru; cases rv
        intro prog w E Q hQ
        exact PyProof.Rows.lt_bool hQ
      | _ => simp [cmpb] at hc
    | int i =>
      cases g with
      | int j =>
        obtain ⟨t, rfl⟩ := ru
        obtain ⟨t', rfl⟩ := rv
        intro prog w E Q hQ
        exact PySem.P.lt_int hQ
      | _ => simp [cmpb] at hc
    | str a =>
      cases g with
      | str b =>
        obtain ⟨t, rfl⟩ := ru
        obtain ⟨t', rfl⟩ := rv
        intro prog w E Q hQ
        exact PySem.P.lt_str hQ
      | _ => simp [cmpb] at hc
    | @tup a xs ps h1 h2 =>
      cases g with
      | @tup b ys qs g1 g2 =>
        cases ru; cases rv
        obtain ⟨i1, r1, t1, _⟩ := I.tuple h1.sq
        obtain ⟨i2, r2, t2, _⟩ := I.tuple g1.sq
        have l1 : i1.length = ps.length := by rw [← r1.length, h2.length]
        have l2 : i2.length = qs.length := by rw [← r2.length, g2.length]
        simp only [depth] at hd
        have hps : plainL ps = true := by simpa [plain] using hp
        have hqs : plainL qs = true := by simpa [plain] using hq
        simp only [cmpb] at hc
        simp only [ltP]
        have qq := RcLt.first t1 t2 (eq := fun j => eqv (ps.getD j .non) (qs.getD j .non)) (lt := fun j => ltP (ps.getD j .non) (qs.getD j .non)) (by omega : A.units < cLine) (fun j j1 j2 => by
          have := eq_items I n ps qs A xs ys i1 i2 (by omega) hps hqs h2 g2 r1 r2 (by omega) j (by simpa using j1) (by simpa using j2)
          simpa using this) (fun j j1 j2 hall hj => by
          have j1' : j < i1.length := by simpa using j1
          have j2' : j < i2.length := by simpa using j2
          obtain ⟨xj, e1, q1⟩ := Vals.getD r1 j j1'
          obtain ⟨yj, e2, q2⟩ := Vals.getD r2 j j2'
          obtain ⟨p', e3, q3⟩ := h2.getv e1
          obtain ⟨q', e4, q4⟩ := g2.getv e2
          have e5 : ps.getD j .non = p' := by rw [List.getD_eq_getElem?_getD, e3]; rfl
          have e6 : qs.getD j .non = q' := by rw [List.getD_eq_getElem?_getD, e4]; rfl
          have hj' : eqv p' q' = false := by rw [← e5, ← e6]; exact hj
          have := ih p' q' A.in1 xj yj _ _ (Nat.le_trans (depthL_get e3) (by omega)) (plainL_get hps e3) (plainL_get hqs e4) (cmpL_get hc e3 e4 hall hj') q3 q4 q1 q2 (by show A.units + 1 + n + 1 < cLine; omega)
          rw [← e5, ← e6] at this
          simpa using this)
        simp only [List.size_toArray, l1, l2] at qq
        rw [firstLt_eqv] at qq
        exact qq
      | _ => simp [cmpb] at hc
    | @lst a xs ps h1 h2 =>
      cases g with
      | @lst b ys qs g1 g2 =>
        cases ru; cases rv
        obtain ⟨i1, r1, t1, _⟩ := I.list h1
        obtain ⟨i2, r2, t2, _⟩ := I.list g1
        have l1 : i1.length = ps.length := by rw [← r1.length, h2.length]
        have l2 : i2.length = qs.length := by rw [← r2.length, g2.length]
        simp only [depth] at hd
        have hps : plainL ps = true := by simpa [plain] using hp
        have hqs : plainL qs = true := by simpa [plain] using hq
        simp only [cmpb] at hc
        simp only [ltP]
        have qq := RcLt.lists t1.isList t2.isList (e := fun j => eqv (ps.getD j .non) (qs.getD j .non)) (r := fun j => ltP (ps.getD j .non) (qs.getD j .non)) (by omega : A.units < cLine) (fun j j1 j2 => by
          have := eq_items I n ps qs A xs ys i1 i2 (by omega) hps hqs h2 g2 r1 r2 (by omega) j (by simpa using j1) (by simpa using j2)
          simpa using this) (fun j j1 j2 hj => by
          have j1' : j < i1.length := by simpa using j1
          have j2' : j < i2.length := by simpa using j2
          obtain ⟨xj, e1, q1⟩ := Vals.getD r1 j j1'
          obtain ⟨yj, e2, q2⟩ := Vals.getD r2 j j2'
          obtain ⟨p', e3, q3⟩ := h2.getv e1
          obtain ⟨q', e4, q4⟩ := g2.getv e2
          have e5 : ps.getD j .non = p' := by rw [List.getD_eq_getElem?_getD, e3]; rfl
          have e6 : qs.getD j .non = q' := by rw [List.getD_eq_getElem?_getD, e4]; rfl
          have hj' : eqv p' q' = false := by rw [← e5, ← e6]; exact hj
          have := ih p' q' A.in1 xj yj _ _ (Nat.le_trans (depthL_get e3) (by omega)) (plainL_get hps e3) (plainL_get hqs e4) (cmpA_get hc e3 e4 hj') q3 q4 q1 q2 (by show A.units + 1 + n + 1 < cLine; omega)
          rw [← e5, ← e6] at this
          simpa using this)
        simp only [List.size_toArray, l1, l2] at qq
        rw [firstLt_eqv] at qq
        exact qq
      | _ => simp [cmpb] at hc
    | dk _ _ _ => simp [plain] at hp
    | dt _ _ _ => simp [plain] at hp
    | obj _ _ _ _ => simp [plain] at hp
end
end Y

set_option linter.all false
set_option maxRecDepth 100000
set_option Elab.async false
/-! Y4: what is wanted, by the weakest wish; operators, comparisons, truth, items. -/
namespace Y
open PySem L2 PySem.SeqAt
variable {cad : En}

/-! ### the weakest wishes -/
section
variable (X : Cx)
def WE (e : Expr) : TE := fun σ H Q => ∀ pins s, Inv X pins σ H s → wpAny (model X.prog X.w) X.A (eval e X.env) (EP X pins σ Q) X.xe s
def WT (e : Expr) : TT := fun σ H Q => ∀ pins s, Inv X pins σ H s → wpAny (model X.prog X.w) X.A (isTrue e X.env (eval e X.env)) (TP X pins σ Q) X.xe s
def WA (es : List Expr) : TA := fun σ H Q => ∀ pos pins s, Inv X pins σ H s → wpAny (model X.prog X.w) X.A (spliced (backTo pos (starEach es X.env))) (AP X pins σ Q) X.xe s
def WOp (f : Value → Value → Sem Value) : R2 := fun x y H Q => ∀ pins s σ v u, Inv X pins σ H s → RelV x v → RelV y u → wpAny (model X.prog X.w) X.A (f v u) (EP X pins σ Q) X.xe s
def WUn (f : Value → Sem Value) : V → Hp → VK → Prop := fun x H Q => ∀ pins s σ v, Inv X pins σ H s → RelV x v → wpAny (model X.prog X.w) X.A (f v) (EP X pins σ Q) X.xe s
def WCall (f : Value) : List V → Hp → VK → Prop := fun xs H Q => ∀ pins s σ us, Inv X pins σ H s → Vals xs us → wpAny (model X.prog X.w) X.A (call f us) (EP X pins σ Q) X.xe s
def WTru : V → Hp → (Bool → Hp → Prop) → Prop := fun x H Q => ∀ pins s σ v, Inv X pins σ H s → RelV x v → wpAny (model X.prog X.w) X.A (truthy v) (TP X pins σ Q) X.xe s
def WSet : TSet := fun o i v H Q => ∀ pins s σ ov iv u, Inv X pins σ H s → RelV o ov → RelV i iv → RelV v u → wpAny (model X.prog X.w) X.A (PySem.setItem ov iv u) (fun _ s' => ∃ H', Inv X pins σ H' s' ∧ Q H') X.xe s
end
section
variable {X : Cx} {σ : L2.St} {H : Hp}
theorem pe (e : Expr) : PE X e (WE X e) := ⟨fun pins s σ H Q I h => h pins s I⟩
theorem pt (e : Expr) : PT X e (WT X e) := ⟨fun pins s σ H Q I h => h pins s I⟩
theorem pa (es : List Expr) : PA X es (WA X es) := ⟨fun pos pins s σ H Q I h => h pos pins s I⟩
theorem we_of {e : Expr} {t : TE} {Q : VK} (h : PE X e t) (q : t σ H Q) : WE X e σ H Q := fun pins s I => h.run pins s σ H Q I q
theorem wt_of {e : Expr} {t : TT} {Q : Bool → Hp → Prop} (h : PT X e t) (q : t σ H Q) : WT X e σ H Q := fun pins s I => h.run pins s σ H Q I q
theorem wa_of {es : List Expr} {t : TA} {Q : List V → Hp → Prop} (h : PA X es t) (q : t σ H Q) : WA X es σ H Q := fun pos pins s I => h.run pos pins s σ H Q I q
theorem wop {f : Value → Value → Sem Value} : OpR X f (WOp X f) := fun pins s σ H x y v u Q I r1 r2 h => h pins s σ v u I r1 r2
theorem wop_of {f : Value → Value → Sem Value} {r : R2} {x y : V} {Q : VK} (h : OpR X f r) (q : r x y H Q) : WOp X f x y H Q := fun pins s σ v u I r1 r2 => h pins s σ H x y v u Q I r1 r2 q
theorem wun {f : Value → Sem Value} : UnR X f (WUn X f) := fun pins s σ H x v Q I r h => h pins s σ v I r
theorem wun_of {f : Value → Sem Value} {r : V → Hp → VK → Prop} {x : V} {Q : VK} (h : UnR X f r) (q : r x H Q) : WUn X f x H Q := fun pins s σ v I r1 => h pins s σ H x v Q I r1 q
theorem wcall {f : Value} : CallR X f (WCall X f) := fun pins s σ H xs us Q I r h => h pins s σ us I r
theorem wcall_of {f : Value} {r : List V → Hp → VK → Prop} {xs : List V} {Q : VK} (h : CallR X f r) (q : r xs H Q) : WCall X f xs H Q := fun pins s σ us I r1 => h pins s σ H xs us Q I r1 q
theorem wtru_of {r : V → Hp → (Bool → Hp → Prop) → Prop} {x : V} {Q : Bool → Hp → Prop} (h : TruR X r) (q : r x H Q) : WTru X x H Q := fun pins s σ v I r1 => h pins s σ H x v Q I r1 q
theorem wset : PSet X (WSet X) := fun pins s σ H o i v ov iv u Q I r1 r2 r3 h => h pins s σ ov iv u I r1 r2 r3
theorem wset_of {r : TSet} {o i v : V} {Q : Hp → Prop} (h : PSet X r) (q : r o i v H Q) : WSet X o i v H Q := fun pins s σ ov iv u I r1 r2 r3 => h pins s σ H o i v ov iv u Q I r1 r2 r3 q
/-- the wish may be weakened -/
theorem WE.mono {e : Expr} {Q Q' : VK} (h : WE X e σ H Q) (q : ∀ v H, Q v H → Q' v H) : WE X e σ H Q' := fun pins s I => thn (h pins s I) fun u s' ⟨v, H', I', r, z⟩ => ⟨v, H', I', r, q v H' z⟩
end

/-- what we ask of the place where code runs -/
structure XOk (X : Cx) : Prop where
  calm : X.calm = true
  un : X.A.units + 200 < cLine
  nd : X.N.Nodup

/-- behind an evaluation -/
def Post (X : Cx) (cad : En) (w : Wd) (st' : Store) (x : Val) (Q : VK) : Prop := ∀ v w', Le w w' → SR X.K cad w' st' → RvW X.K cad w' v x → Q v w'.H
theorem Post.le {X : Cx} {w w' : Wd} {st : Store} {x : Val} {Q : VK} (h : Post X cad w st x Q) (l : Le w w') : Post X cad w' st x Q := fun v w2 l2 => h v w2 (l.trans l2)
theorem Post.here {X : Cx} {w : Wd} {st : Store} {x : Val} {Q : VK} {v : V} (h : Post X cad w st x Q) (s : SR X.K cad w st) (r : RvW X.K cad w v x) : Q v w.H := h v w (Le.refl w) s r

section
variable {X : Cx} {w : Wd} {st st' : Store} {x y z : Val} {a b : V} {Q : VK}
theorem sz_eq : (SZ : Nat) = sizeLine := sizeLine_eq.symm

/-- a new list, a new tuple -/
theorem mkL_ok {o : Bool} {vs : List Val} {xs : List V} (e : mkL o vs st = some (z, st')) (s : SR X.K cad w st) (r : RvLW X.K cad w xs vs) (q : Post X cad w st' z Q) : ∀ p, w.H p = none → Q (.ref p) (upd w.H p (.lst xs)) := by
  intro p hp
  cases o with
  | true =>
    simp only [mkL, if_true] at e
    cases e
    refine q (.ref p) (w.newC p (.lst xs)) (newC_le s hp) (newC_sr s hp (.lst upd_same (r.mono (Ext.refl _) ⟨[p], rfl⟩))) (.cell (newC_top s))
  | false =>
    simp only [mkL, Bool.false_eq_true, if_false] at e
    cases q1 : frzs st vs with
    | none => rw [q1] at e; cases e
    | some k =>
      obtain ⟨ps, st1⟩ := k
      rw [q1] at e
      cases e
      obtain ⟨w1, l1, e1, s1, rp⟩ := frzs_val s r q1
      have hp1 : w1.H p = none := by rw [e1]; exact hp
      have := q (.ref p) (w1.new p (.lst xs)) (l1.trans (new_le s1 hp1)) (new_sr s1 hp1) (.pu (.lst (SqL.of (new_at s1 hp1)) (RpL.mono (new_ext s1 hp1) _ _ rp)))
      rw [← e1]
      exact this
theorem mkT_ok {k : Bool} {vs : List Val} {xs : List V} (e : mkT k vs st = some (z, st')) (s : SR X.K cad w st) (r : RvLW X.K cad w xs vs) (q : Post X cad w st' z Q) : ∀ p, w.H p = none → Q (.ref p) (upd w.H p (.tup xs)) := by
  intro p hp
  cases k with
  | true =>
    simp only [mkT, if_true] at e
    have l := new_le (o := .tup xs) s hp
    cases q1 : allPu vs with
    | none =>
      rw [q1] at e
      cases e
      exact q (.ref p) (w.new p (.tup xs)) l (new_sr s hp) (.tupv (.inl (new_at s hp)) (r.le l))
    | some ps =>
      rw [q1] at e
      cases e
      exact q (.ref p) (w.new p (.tup xs)) l (new_sr s hp) (.pu (.tup (.inl (new_at s hp)) (RpL.mono l.ex _ _ (r.to_p q1))))
  | false =>
    simp only [mkT, Bool.false_eq_true, if_false] at e
    cases q1 : frzs st vs with
    | none => rw [q1] at e; cases e
    | some k =>
      obtain ⟨ps, st1⟩ := k
      rw [q1] at e
      cases e
      obtain ⟨w1, l1, e1, s1, rp⟩ := frzs_val s r q1
      have hp1 : w1.H p = none := by rw [e1]; exact hp
      have := q (.ref p) (w1.new p (.tup xs)) (l1.trans (new_le s1 hp1)) (new_sr s1 hp1) (.pu (.tup (.inl (new_at s1 hp1)) (RpL.mono (new_ext s1 hp1) _ _ rp)))
      rw [← e1]
      exact this

/-- a tuple that stands already -/
theorem mkT_same {vs : List Val} {xs : List V} {p : Addr} (e : mkT true vs st = some (z, st')) (s : SR X.K cad w st) (h : TupAt X.K cad w.F p xs) (r : RvLW X.K cad w xs vs) (q : Post X cad w st' z Q) : Q (.ref p) w.H := by
  simp only [mkT, if_true] at e
  cases q1 : allPu vs with
  | none => rw [q1] at e; cases e; exact q.here s (.tupv h r)
  | some ps => rw [q1] at e; cases e; exact q.here s (.pu (.tup h (r.to_p q1)))

/-! ### operators -/
/-- list + list, whatever holds them -/
def rCat2 (K : PySem.W.Frag) : R2 := fun x y H Q => ∃ l b xs zs, x = .ref l ∧ y = .ref b ∧ SqL K H l xs ∧ SqL K H b zs ∧ xs.length + zs.length ≤ sizeLine ∧ ∀ p, H p = none → Q (.ref p) (upd H p (.lst (xs ++ zs)))
theorem op_cat2 : OpR X (binaryOp .Add) (rCat2 X.K) := by
  intro pins s σ H x y v u Q I rx ry h
  obtain ⟨l, b, xs, zs, rfl, rfl, hl, hb, hz, q⟩ := h
  cases rx
  cases ry
  obtain ⟨i1, r1, ⟨⟨c1, d1, t1, z1⟩, n1, g1, k1, m1, j1⟩, _⟩ := I.list hl
  obtain ⟨i2, r2, ⟨⟨c2, d2, t2, z2⟩, n2, g2, k2, m2, j2⟩, _⟩ := I.list hb
  simp only at k1 j1 k2 j2
  subst k1 j1 k2 j2
  have e : i1.toArray ++ i2.toArray = (i1 ++ i2).toArray := by simp
  refine concat_meets ⟨_, g1, rfl⟩ ⟨_, g2, rfl⟩ PySem.noFill_list_add PySem.seq_list_add F.slot_list_add F.entry_list_add (F.args_list_add_2 _ _)
    (PyProof.Rows.list_addW l b i1.toArray i2.toArray n1 n2 d1 d2 z1 z2 (by simp only [List.size_toArray, ← r1.length, ← r2.length]; exact hz)) ⟨g1, g2, ?_⟩
  rw [e]
  exact ⟨.ref _, _, I.lnew (t' := s.toks) (r1.append r2) (by rw [List.length_append]; exact hz), rfl, q _ I.fresh⟩

def opOf : BOp → Operator
  | .add => .Add
  | .sub => .Sub
  | .mul => .Mult
  | .fdiv => .FloorDiv
  | .mod => .Mod
  | .pow => .Pow
theorem Post.int {i : Int} (q : Post X cad w st (.pu (.int i)) Q) (s : SR X.K cad w st) : Q (.int i) w.H := q.here s (.pu (.int i))
theorem Post.bl {i : Bool} (q : Post X cad w st (.pu (.bl i)) Q) (s : SR X.K cad w st) : Q (.bl i) w.H := q.here s (.pu (.bl i))
theorem Post.str {i : Str} (q : Post X cad w st (.pu (.str i)) Q) (s : SR X.K cad w st) : Q (.str i) w.H := q.here s (.pu (.str i))
theorem Post.non (q : Post X cad w st (.pu .non) Q) (s : SR X.K cad w st) : Q .non w.H := q.here s (.pu .non)

theorem binop_ok {o : Bool} {op : BOp} (e : binop o op x y st = some (z, st')) (s : SR X.K cad w st) (ra : RvW X.K cad w a x) (rb : RvW X.K cad w b y) (q : Post X cad w st' z Q) :
    WOp X (binaryOp (opOf op)) a b w.H Q := by
  unfold binop at e
  cases v1 : view st x with
  | none => rw [v1] at e; cases e
  | some u1 =>
    cases v2 : view st y with
    | none => rw [v1, v2] at e; cases u1 <;> cases e
    | some u2 =>
      have h1 := view_ok s ra v1
      have h2 := view_ok s rb v2
      rw [v1, v2] at e
      cases u1 with
      | int i =>
        cases u2 with
        | int j =>
          obtain rfl : a = .int i := h1
          obtain rfl : b = .int j := h2
          cases op with
          | add => cases e; exact wop_of op_add ⟨i, j, rfl, rfl, q.int s⟩
          | sub => cases e; exact wop_of op_sub ⟨i, j, rfl, rfl, q.int s⟩
          | mul =>
            simp only at e
            split at e
            · rename_i hc
              cases e
              exact wop_of op_mul ⟨i, j, rfl, rfl, hc, q.int s⟩
            · cases e
          | fdiv =>
            simp only at e
            split at e
            · rename_i hc
              cases e
              exact wop_of op_fdivN ⟨i, j, rfl, rfl, hc, q.int s⟩
            · cases e
          | mod =>
            simp only at e
            split at e
            · rename_i hc
              cases e
              exact wop_of op_modN ⟨i, j, rfl, rfl, hc, q.int s⟩
            · cases e
          | pow =>
            simp only at e
            split at e
            · rename_i hc
              cases e
              exact wop_of op_pow ⟨i, j, rfl, rfl, hc, q.int s⟩
            · cases e
        | _ => cases e
      | str i =>
        cases u2 with
        | str j =>
          obtain rfl : a = .str i := h1
          obtain rfl : b = .str j := h2
          cases op with
          | add =>
            simp only at e
            split at e
            · rename_i hc
              cases e
              exact wop_of op_add_str ⟨i, j, rfl, rfl, by rw [← sz_eq]; exact hc, q.str s⟩
            · cases e
          | _ => cases e
        | _ => cases e
      | seqL xs =>
        cases u2 with
        | seqL ys =>
          obtain ⟨l, vs, rfl, hl, rl⟩ := h1
          obtain ⟨m, ws, rfl, hm, rm⟩ := h2
          cases op with
          | add =>
            simp only at e
            split at e
            · rename_i hc
              refine wop_of op_cat2 ⟨l, m, vs, ws, rfl, rfl, hl, hm, ?_, mkL_ok e s (rl.append rm) q⟩
              rw [← sz_eq, rl.length, rm.length]; exact hc
            · cases e
          | _ => cases e
        | _ => cases e
      | seqT xs =>
        cases u2 with
        | seqT ys =>
          obtain ⟨l, vs, rfl, hl, rl⟩ := h1
          obtain ⟨m, ws, rfl, hm, rm⟩ := h2
          cases op with
          | add =>
            simp only at e
            split at e
            · rename_i hc
              refine wop_of op_catA ⟨l, m, vs, ws, rfl, rfl, (w.ext.t hl).sq, (w.ext.t hm).sq, ?_, fun h0 => ?_, fun h0 h1 => ?_, fun _ _ => mkT_ok e s (rl.append rm) q⟩
              · rw [← sz_eq, rl.length, rm.length]; exact hc
              · subst h0
                cases rl
                exact mkT_same e s hm rm q
              · subst h1
                cases rm
                rw [List.append_nil] at e
                exact mkT_same e s hl rl q
            · cases e
          | _ => cases e
        | _ => cases e
      | _ => cases e
end
end Y

set_option linter.all false
set_option maxRecDepth 100000
set_option Elab.async false
/-! Y5: dicts read and written. -/
namespace Y
open PySem L2 PySem.SeqAt
variable {cad : En}

/-- what the dict at d holds at the key u -/
def DG (X : Cx) (h : Heap) (d : Addr) (u : Value) (o : Option Value) : Prop :=
  (d == sysModules) = false ∧
  ((∃ (k : Key) (vs : List (Key × Value)), (mixKind X.prog X.w).is k u = true ∧ h.DictOf (mixKind X.prog X.w) d vs ∧ o = valueAt vs k) ∨
   ∃ (k : List Key) (b : Addr) (xs : List (List Key × Addr × Value)), u = .ref b ∧ (tupleKind (mixKind X.prog X.w)).is h k b ∧ h.DictOfH (tupleKind (mixKind X.prog X.w)) d xs ∧ o = (atKey xs k).map (·.2))

section
variable {X : Cx} {pins : List (Addr × Obj)} {σ : L2.St} {H : Hp} {s : Shared} {d : Addr} {u r : Value} {o : Option Value} {A : Around} {E : Value → Shared → Prop}
theorem dg_in {Q : Value → Shared → Prop} (hu : A.units + 1 < cLine) (g : DG X s.heap d u o) (h : ∀ t, Q (.bool o.isSome) { s with toks := t }) : wpAny (model X.prog X.w) A (compareOp .In u (.ref d)) Q E s := by
  obtain ⟨hd, ⟨k, vs, h1, h2, rfl⟩ | ⟨k, b, xs, rfl, h1, h2, rfl⟩⟩ := g
  · exact wpAny_in_of h1 hd h2.mapOf (h _)
  · refine wpAny_in_heap (tupleKind_room_in1 hu) h1 hd h2 ?_
    have := h (s.toks + (tupleKind (mixKind X.prog X.w)).draws k)
    rw [Option.isSome_map] at this
    exact this
theorem dg_nin {Q : Value → Shared → Prop} (hu : A.units + 1 < cLine) (g : DG X s.heap d u o) (h : ∀ t, Q (.bool (!o.isSome)) { s with toks := t }) : wpAny (model X.prog X.w) A (compareOp .NotIn u (.ref d)) Q E s := by
  obtain ⟨hd, ⟨k, vs, h1, h2, rfl⟩ | ⟨k, b, xs, rfl, h1, h2, rfl⟩⟩ := g
  · exact wpAny_notIn_of h1 hd h2.mapOf (h _)
  · refine PyProof.Rows.wpAny_notIn_heap (tupleKind_room_in1 hu) h1 hd h2 ?_
    have := h (s.toks + (tupleKind (mixKind X.prog X.w)).draws k)
    rw [Option.isSome_map] at this
    exact this
theorem dg_item {v : Value} {Q : Value → Shared → Prop} (hu : A.units + 1 < cLine) (g : DG X s.heap d u (some v)) (h : ∀ t, Q v { s with toks := t }) : wpAny (model X.prog X.w) A (getItem (.ref d) u) Q E s := by
  obtain ⟨hd, ⟨k, vs, h1, h2, h3⟩ | ⟨k, b, xs, rfl, h1, h2, h3⟩⟩ := g
  · exact wpAny_getItem_of h1 h2.mapOf h3.symm (h _)
  · obtain ⟨p, hp, rfl⟩ := Option.map_eq_some_iff.mp h3.symm
    exact wpAny_getItem_heap (tupleKind_room_in1 hu) h1 h2 hp (h _)
theorem dg_get1 {Q : Value → Shared → Prop} (hu : A.units + 1 < cLine) (g : DG X s.heap d u o) (h : ∀ t, Q (o.getD .none) { s with toks := t }) : wpAny (model X.prog X.w) A (call (.builtin "dict.get") [.ref d, u]) Q E s := by
  obtain ⟨hd, ⟨k, vs, h1, h2, rfl⟩ | ⟨k, b, xs, rfl, h1, h2, rfl⟩⟩ := g
  · exact call_meetsIn F.slot_dict_get h2.typeIs F.entry_dict_get (F.args_dict_get_2 _ _) (meets_dict_get (mixKind X.prog X.w) d h1 hd) ⟨_, h2.mapOf, h _⟩
  · exact call_meetsIn F.slot_dict_get h2.typeIs F.entry_dict_get (F.args_dict_get_2 _ _) (meetsH_dict_get (tupleKind (mixKind X.prog X.w)) d b hd) ⟨tupleKind_room_in1 hu, k, xs, h1, h2, h _⟩
theorem dg_get2 {Q : Value → Shared → Prop} (hu : A.units + 1 < cLine) (g : DG X s.heap d u o) (h : ∀ t, Q (o.getD r) { s with toks := t }) : wpAny (model X.prog X.w) A (call (.builtin "dict.get") [.ref d, u, r]) Q E s := by
  obtain ⟨hd, ⟨k, vs, h1, h2, rfl⟩ | ⟨k, b, xs, rfl, h1, h2, rfl⟩⟩ := g
  · exact call_meetsIn F.slot_dict_get h2.typeIs F.entry_dict_get (F.args_dict_get_3 _ _ _) (meets_dict_get_default (mixKind X.prog X.w) d h1 hd r) ⟨_, h2.mapOf, h _⟩
  · exact call_meetsIn F.slot_dict_get h2.typeIs F.entry_dict_get (F.args_dict_get_3 _ _ _) (meetsH_dict_get_default (tupleKind (mixKind X.prog X.w)) d b hd r) ⟨tupleKind_room_in1 hu, k, xs, h1, h2, h _⟩
theorem dg_type (g : DG X s.heap d u o) : s.TypeIs (.ref d) "dict" := by
  obtain ⟨hd, ⟨k, vs, h1, h2, rfl⟩ | ⟨k, b, xs, rfl, h1, h2, rfl⟩⟩ := g
  · exact h2.typeIs
  · exact h2.typeIs

/-- the empty dict is both -/
theorem empty_t {P : Program} {w : World} {h : Heap} (e : h.DictOf (mixKind P w) d []) : h.DictOfH (tupleKind (mixKind P w)) d [] := by
  obtain ⟨o, es, ep, h1, h2, h3, h4, h5, h6⟩ := e
  have : es.toList = [] := by
    cases q : es.toList with
    | nil => rfl
    | cons x xs => rw [q] at h5; cases h5
  exact ⟨o, es, ep, h1, h2, h3, this, (fun x hx => absurd hx (by simp)), List.nodup_nil⟩
theorem empty_k {P : Program} {w : World} {h : Heap} (e : h.DictOfH (tupleKind (mixKind P w)) d []) : h.DictOf (mixKind P w) d [] := by
  obtain ⟨o, es, ep, h1, h2, h3, h4, h5, h6⟩ := e
  have : es = #[] := by
    have := congrArg List.toArray h4
    simpa using this
  subst this
  exact ⟨o, #[], ep, h1, h2, h3, (fun e he => absurd he (by simp)), .nil, List.nodup_nil⟩
end

theorem pKeys_v {K : PySem.W.Frag} {H : Hp} : ∀ {ps : List P} {ks : List Key} {xs : List V}, pKeys ps = some ks → RpL K cad H xs ps → xs = ks.map kV
  | [], ks, xs, e, r => by cases e; cases r; rfl
  | p :: ps, ks, xs, e, r => by
    cases r with
    | cons r1 r2 =>
      cases q : pKey p with
      | none => simp only [pKeys, q] at e; cases e
      | some k =>
        cases q2 : pKeys ps with
        | none => simp only [pKeys, q, q2] at e; cases e
        | some ks' =>
          simp only [pKeys, q, q2] at e
          cases e
          have ih := pKeys_v q2 r2
          cases r1 with
          | int => cases q; rw [ih]; rfl
          | str => cases q; rw [ih]; rfl
          | _ => cases q
theorem pKx_v {K : PySem.W.Frag} {H : Hp} {p : P} {k : Kx} {a : V} (e : pKx p = some k) (r : Rp K cad H a p) : (∃ i, k = .k i ∧ a = kV i) ∨ ∃ ks b, k = .t ks ∧ a = .ref b ∧ TupAt K cad H b (ks.map kV) := by
  cases r with
  | int => cases e; exact .inl ⟨_, rfl, rfl⟩
  | str => cases e; exact .inl ⟨_, rfl, rfl⟩
  | @tup b xs ps h1 h2 =>
    cases q : pKeys ps with
    | none => simp only [pKx, q] at e; cases e
    | some ks =>
      simp only [pKx, q] at e
      cases e
      rw [pKeys_v q h2] at h1
      exact .inr ⟨_, _, rfl, rfl, h1⟩
  | non => cases e
  | bl => cases e
  | lst _ _ => cases e
  | dk _ _ _ => cases e
  | dt _ _ _ => cases e
  | obj _ _ _ _ => cases e
/-- a key as it stands -/
theorem keyOf_v {K : PySem.W.Frag} {w : Wd} {st : Store} {ct : List Key → Bool} {x : Val} {a : V} {k : Kx} (s : SR K cad w st) (r : RvW K cad w a x) (e : keyOf ct st x = some k) :
    (∃ i, k = .k i ∧ a = kV i) ∨ ∃ ks b, k = .t ks ∧ a = .ref b ∧ TupAt K cad w.H b (ks.map kV) ∧ ct ks = false := by
  unfold keyOf at e
  cases q : toP 0 st FU x with
  | none => rw [q] at e; cases e
  | some p =>
    rw [q] at e
    simp only at e
    cases q2 : pKx p with
    | none => rw [q2] at e; cases e
    | some k' =>
      rw [q2] at e
      rcases pKx_v q2 (toP_H s r q) with ⟨i, rfl, h⟩ | ⟨ks, b, rfl, h, h2⟩
      · cases e; exact .inl ⟨i, rfl, h⟩
      · simp only at e
        split at e
        · cases e
        · rename_i hc
          cases e
          exact .inr ⟨ks, b, rfl, h, h2, by simpa using hc⟩
def OptR (K : PySem.W.Frag) (cad : En) (w : Wd) : Option Val → Option V → Prop
  | some x, some v => RvW K cad w v x
  | none, none => True
  | _, _ => False
theorem valK_k {K : PySem.W.Frag} {w : Wd} (i : Key) : ∀ {kvs : List (Kx × Val)} {ks : List (Key × V)}, kvs.map (·.1) = ks.map (fun q => Kx.k q.1) → RvLW K cad w (ks.map (·.2)) (kvs.map (·.2)) → OptR K cad w (valK kvs (.k i)) (valV ks i)
  | [], [], _, _ => trivial
  | [], _ :: _, e, _ => by cases e
  | _ :: _, [], e, _ => by cases e
  | (k, x) :: kvs, (j, v) :: ks, e, r => by
    simp only [List.map_cons, List.cons.injEq] at e
    obtain ⟨rfl, e⟩ := e
    cases r with
    | cons r1 r2 =>
      by_cases h : j = i
      · subst h
        simpa [valK, valV, OptR] using r1
      · have ih := valK_k (w := w) i e r2
        have h1 : valK ((Kx.k j, x) :: kvs) (.k i) = valK kvs (.k i) := by simp [valK, List.find?_cons, h]
        rw [h1, valV_neg (p := (j, v)) h]
        exact ih
theorem valK_t {K : PySem.W.Frag} {w : Wd} (i : List Key) : ∀ {kvs : List (Kx × Val)} {ks : List (List Key × V)}, kvs.map (·.1) = ks.map (fun q => Kx.t q.1) → RvLW K cad w (ks.map (·.2)) (kvs.map (·.2)) → OptR K cad w (valK kvs (.t i)) (valV ks i)
  | [], [], _, _ => trivial
  | [], _ :: _, e, _ => by cases e
  | _ :: _, [], e, _ => by cases e
  | (k, x) :: kvs, (j, v) :: ks, e, r => by
    simp only [List.map_cons, List.cons.injEq] at e
    obtain ⟨rfl, e⟩ := e
    cases r with
    | cons r1 r2 =>
      by_cases h : j = i
      · subst h
        simpa [valK, valV, OptR] using r1
      · have ih := valK_t (w := w) i e r2
        have h1 : valK ((Kx.t j, x) :: kvs) (.t i) = valK kvs (.t i) := by simp [valK, List.find?_cons, h]
        rw [h1, valV_neg (p := (j, v)) h]
        exact ih
theorem kOk_k {kvs : List (Kx × Val)} {ks : List (List Key × V)} {i : Key} (h : kOk kvs (.k i) = true) (e : kvs.map (·.1) = ks.map (fun q => Kx.t q.1)) : ks = [] ∧ kvs = [] := by
  cases kvs with
  | nil => cases ks with
    | nil => exact ⟨rfl, rfl⟩
    | cons _ _ => cases e
  | cons q r => cases ks with
    | nil => cases e
    | cons p ps =>
      simp only [List.map_cons, List.cons.injEq] at e
      simp [kOk, e.1] at h
theorem kOk_t {kvs : List (Kx × Val)} {ks : List (Key × V)} {i : List Key} (h : kOk kvs (.t i) = true) (e : kvs.map (·.1) = ks.map (fun q => Kx.k q.1)) : ks = [] ∧ kvs = [] := by
  cases kvs with
  | nil => cases ks with
    | nil => exact ⟨rfl, rfl⟩
    | cons _ _ => cases e
  | cons q r => cases ks with
    | nil => cases e
    | cons p ps =>
      simp only [List.map_cons, List.cons.injEq] at e
      simp [kOk, e.1] at h

/-- what stands at a key, in the model -/
def OptV (X : Cx) (cad : En) (w : Wd) : Option Val → Option Value → Prop
  | some x, some u => ∃ v, RelV v u ∧ RvW X.K cad w v x
  | none, none => True
  | _, _ => False
theorem OptV.of {X : Cx} {w : Wd} {o : Option Val} {q : Option V} {u : Option Value} (h : OptR X.K cad w o q) (r : RelO q u) : OptV X cad w o u := by
  cases o with
  | none => cases q with
    | none => cases u with
      | none => trivial
      | some _ => exact r.elim
    | some _ => exact h.elim
  | some x => cases q with
    | none => exact h.elim
    | some v => cases u with
      | none => exact r.elim
      | some u => exact ⟨v, r, h⟩
theorem OptV.isSome {X : Cx} {w : Wd} {o : Option Val} {u : Option Value} (h : OptV X cad w o u) : u.isSome = o.isSome := by
  cases o <;> cases u <;> first | rfl | exact h.elim
section
variable {X : Cx} {pins : List (Addr × Obj)} {σ : L2.St} {s : Shared} {w : Wd} {st : Store}
theorem dg_of {ct : List Key → Bool} {x : Val} {a : V} {k : Kx} {u : Value} {d : Addr} {kvs : List (Kx × Val)} {o : Option Val} (I : Inv X pins σ w.H s) (sr : SR X.K cad w st) (dr : DicR X.K cad w d kvs) (ra : RvW X.K cad w a x) (e : keyOf ct st x = some k) (ho : dget kvs k = some o)
    (ru : RelV a u) : ∃ q, DG X s.heap d u q ∧ OptV X cad w o q := by
  unfold dget at ho
  split at ho
  rotate_left
  · cases ho
  rename_i hk
  cases ho
  rcases keyOf_v sr ra e with ⟨i, rfl, rfl⟩ | ⟨ks, b, rfl, rfl, ht, _⟩
  · rcases dr with ⟨kk, h1, h2, h3⟩ | ⟨kk, h1, h2, h3⟩
    · obtain ⟨_, hd, vs, rel, dd⟩ := dk_rd I.hok h1
      exact ⟨_, ⟨hd, .inl ⟨i, vs, kV_is ru, dd, rfl⟩⟩, .of (valK_k i h2 h3) (rel.val i)⟩
    · exact absurd (kOk_k hk h2.1).1 h2.2
  · cases (show u = Value.ref b from ru)
    obtain ⟨its, rv, tt, _⟩ := I.tuple ht.sq
    have hkey : (tupleKind (mixKind X.prog X.w)).is s.heap ks b := by
      obtain ⟨ob, h1, h2, n, h3⟩ := tt
      exact ⟨ob, its.toArray, n, h1, h2, h3, by simpa using items_are rv⟩
    rcases dr with ⟨kk, h1, h2, h3⟩ | ⟨kk, h1, h2, h3⟩
    · obtain ⟨rfl, rfl⟩ := kOk_t hk h2
      obtain ⟨_, hd, vs, rel, dd⟩ := dk_rd I.hok h1
      cases rel
      exact ⟨_, ⟨hd, .inr ⟨ks, b, [], rfl, hkey, empty_t dd, rfl⟩⟩, trivial⟩
    · obtain ⟨_, hd, xs, rel, dd⟩ := dt_rd I.hok h1
      exact ⟨_, ⟨hd, .inr ⟨ks, b, xs, rfl, hkey, dd, rfl⟩⟩, .of (valK_t ks h2.1 h3) (rel.val ks)⟩
end
end Y

set_option linter.all false
set_option maxRecDepth 100000
set_option Elab.async false
/-! Y6: comparisons, truth, items, slices, attributes, stores. -/
namespace Y
open PySem L2 PySem.SeqAt
variable {cad : En}

theorem toPs_ok {K : PySem.W.Frag} {w : Wd} {st : Store} (s : SR K cad w st) : ∀ {xs : List Val} {vs : List V} {qs : List P}, toPs st xs = some qs → RvLW K cad w vs xs → RpL K cad w.H vs qs
  | [], vs, qs, e, r => by cases e; cases r; exact .nil
  | x :: xs, vs, qs, e, r => by
    cases r with
    | cons r1 r2 =>
      cases q : toP 0 st FU x with
      | none => simp only [toPs, q] at e; cases e
      | some p =>
        cases q2 : toPs st xs with
        | none => simp only [toPs, q, q2] at e; cases e
        | some ps =>
          simp only [toPs, q, q2] at e
          cases e
          exact .cons (toP_H s r1 q) (toPs_ok s q2 r2)

section
variable {X : Cx} {w : Wd} {st st' : Store} {x y z : Val} {a b : V} {Q : VK}
theorem eqOk_of {p q : P} (h : eqOk p q = true) : plain p = true ∧ plain q = true ∧ depth p ≤ 60 ∧ depth q ≤ 60 := by
  simp only [eqOk, Bool.and_eq_true, decide_eq_true_eq] at h
  exact ⟨h.1.1.1, h.1.1.2, h.1.2, h.2⟩
open Classical in
/-- x in items: which of the values are equal to x -/
theorem in_at {pins : List (Addr × Obj)} {σ : L2.St} {H : Hp} {s : Shared} (I : Inv X pins σ H s) (A : Around) (hA : A.units + 100 < cLine) {p : P} {a : V} {u : Value} (hp : Rp X.K cad H a p) (ru : RelV a u) :
    ∃ e : Value → Bool, ∀ (qs : List P) (vs : List V) (us : List Value), RpL X.K cad H vs qs → Vals vs us → (qs.all fun q => eqOk q p) = true → (∀ y ∈ us, EqAt A s y u (e y)) ∧ us.map e = qs.map fun q => eqv q p := by
  refine ⟨fun y => decide (∃ v q, RelV v y ∧ Rp X.K cad H v q ∧ plain q = true ∧ eqv q p = true), ?_⟩
  intro qs
  induction qs with
  | nil =>
    intro vs us r rv _
    cases r
    cases rv
    exact ⟨fun y hy => absurd hy (by simp), rfl⟩
  | cons q qs ih =>
    intro vs us r rv hall
    cases r with
    | cons r1 r2 =>
      cases rv with
      | cons v1 v2 =>
        rw [List.all_cons, Bool.and_eq_true] at hall
        obtain ⟨h1, h2⟩ := ih _ _ r2 v2 hall.2
        obtain ⟨g1, g2, g3, g4⟩ := eqOk_of hall.1
        have key : ∀ {v : V} {y : Value}, Rp X.K cad H v q → RelV v y → decide (∃ v q, RelV v y ∧ Rp X.K cad H v q ∧ plain q = true ∧ eqv q p = true) = eqv q p := by
          intro v y hv ry
          by_cases hq : eqv q p = true
          · rw [hq]
            exact decide_eq_true ⟨v, q, ry, hv, g1, hq⟩
          · have : ¬ ∃ v q, RelV v y ∧ Rp X.K cad H v q ∧ plain q = true ∧ eqv q p = true := by
              rintro ⟨v', q', ry', hv', hp', hq'⟩
              cases ry.inj ry'
              exact hq (by rw [Rp.uniq I q q' _ g1 hp' hv hv']; exact hq')
            rw [decide_eq_false this]
            simpa using hq
        refine ⟨fun y hy => ?_, ?_⟩
        · rcases List.mem_cons.mp hy with rfl | hy
          · show EqAt A s _ _ (decide _)
            rw [key r1 v1]
            exact eq_at I 60 q p A _ _ _ _ g3 g1 g2 r1 hp v1 ru (by omega)
          · exact h1 y hy
        · rw [List.map_cons, List.map_cons, h2]
          congr 1
          exact key r1 v1
theorem any_of_map {us : List Value} {qs : List P} {e : Value → Bool} {f : P → Bool} (h : us.map e = qs.map f) : us.any e = qs.any f := by
  have : (us.map e).any id = (qs.map f).any id := by rw [h]
  simpa [List.any_map] using this
theorem any_toArray (us : List Value) (e : Value → Bool) : us.toArray.any e = us.any e := by simp

theorem inop_ok {vs : List Val} {r : Bool} {ys : List V} {l : Addr} (ok : XOk X) (e : inop st x vs = some r) (s : SR X.K cad w st) (ra : RvW X.K cad w a x) (rs : RvLW X.K cad w ys vs) (hl : SqL X.K w.H l ys ∨ SqT X.K w.H l ys) :
    (Q (.bl r) w.H → WOp X (compareOp .In) a (.ref l) w.H Q) ∧ (Q (.bl (!r)) w.H → WOp X (compareOp .NotIn) a (.ref l) w.H Q) := by
  unfold inop at e
  cases q : toP 0 st FU x with
  | none => rw [q] at e; cases e
  | some p =>
    cases q2 : toPs st vs with
    | none => rw [q, q2] at e; cases e
    | some qs =>
      rw [q, q2] at e
      simp only at e
      split at e
      rotate_left
      · cases e
      rename_i hall
      cases e
      have un := ok.un
      constructor
      · intro hQ pins sh σ v u I r1 r2
        cases r2
        obtain ⟨ee, hee⟩ := in_at I X.A.in1 (by show X.A.units + 1 + 100 < cLine; omega) (toP_H s ra q) r1
        rcases hl with hl | hl
        · obtain ⟨its, rv, pl, _⟩ := I.list hl
          obtain ⟨g1, g2⟩ := hee qs ys its (toPs_ok s q2 rs) rv hall
          refine in_listAt ee pl.isList (fun y hy => g1 y (by simpa using hy)) ?_
          rw [any_toArray, any_of_map g2]
          exact ⟨.bl _, w.H, I, rfl, hQ⟩
        · obtain ⟨its, rv, pl, _⟩ := I.tuple hl
          obtain ⟨g1, g2⟩ := hee qs ys its (toPs_ok s q2 rs) rv hall
          refine in_tupleAt ee pl (fun y hy => g1 y (by simpa using hy)) ?_
          rw [any_toArray, any_of_map g2]
          exact ⟨.bl _, w.H, I, rfl, hQ⟩
      · intro hQ pins sh σ v u I r1 r2
        cases r2
        obtain ⟨ee, hee⟩ := in_at I X.A.in1 (by show X.A.units + 1 + 100 < cLine; omega) (toP_H s ra q) r1
        rcases hl with hl | hl
        · obtain ⟨its, rv, pl, _⟩ := I.list hl
          obtain ⟨g1, g2⟩ := hee qs ys its (toPs_ok s q2 rs) rv hall
          refine notIn_listAt ee pl.isList (fun y hy => g1 y (by simpa using hy)) ?_
          rw [any_toArray, any_of_map g2]
          exact ⟨.bl _, w.H, I, rfl, hQ⟩
        · obtain ⟨its, rv, pl, _⟩ := I.tuple hl
          obtain ⟨g1, g2⟩ := hee qs ys its (toPs_ok s q2 rs) rv hall
          refine notIn_tupleAt ee pl (fun y hy => g1 y (by simpa using hy)) ?_
          rw [any_toArray, any_of_map g2]
          exact ⟨.bl _, w.H, I, rfl, hQ⟩

def copOf : COp → CmpOp
  | .eq => .Eq | .ne => .NotEq | .lt => .Lt | .le => .LtE | .gt => .Gt | .ge => .GtE | .isN => .Is | .notN => .IsNot | .in_ => .In | .nin => .NotIn

theorem non_of {u : Vw} (h : VwR X.K cad w a u) : decide (a = .non) = (match u with | .non => true | _ => false) := by
  cases u with
  | non => obtain rfl : a = .non := h; rfl
  | bl b => obtain rfl : a = .bl b := h; rfl
  | int b => obtain rfl : a = .int b := h; rfl
  | str b => obtain rfl : a = .str b := h; rfl
  | seqL xs => obtain ⟨l, vs, rfl, _⟩ := h; rfl
  | seqT xs => obtain ⟨l, vs, rfl, _⟩ := h; rfl
  | dic xs => obtain ⟨l, rfl, _⟩ := h; rfl
  | ins c xs => obtain ⟨l, dx, fs, rfl, _⟩ := h; rfl
/-- every value has a view -/
theorem view_some (s : SR X.K cad w st) (r : RvW X.K cad w a x) : ∃ u, view st x = some u := by
  cases r with
  | pu _ => exact ⟨_, rfl⟩
  | tupv _ _ => exact ⟨_, rfl⟩
  | @cell p n h =>
    have hn : n < st.length := by rw [← s.lt]; exact (List.getElem?_eq_some_iff.mp h).1
    cases q : st[n]? with
    | none => simp at q; omega
    | some c => cases c <;> exact ⟨_, by simp only [view, q]; rfl⟩

theorem one_sign {c : Str} (h : c.length = 1) : c = ⟨#[c.cps.getD 0 0]⟩ := by
  obtain ⟨⟨l⟩⟩ := c
  cases l with
  | nil => cases h
  | cons x l => cases l with
    | nil => rfl
    | cons y l => simp [Str.length] at h

theorem cmpop_ok {op : COp} {r : Bool} (ok : XOk X) (e : cmpop cad.ct op x y st = some r) (s : SR X.K cad w st) (ra : RvW X.K cad w a x) (rb : RvW X.K cad w b y) (q : Q (.bl r) w.H) : WOp X (compareOp (copOf op)) a b w.H Q := by
  have un := ok.un
  cases op with
  | isN =>
    simp only [cmpop] at e
    cases v2 : view st y with
    | none => rw [v2] at e; cases e
    | some u2 =>
      rw [v2] at e
      cases u2 with
      | non =>
        obtain rfl : b = .non := view_ok s rb v2
        obtain ⟨u1, v1⟩ := view_some s ra
        refine wop_of op_isN ⟨rfl, ?_⟩
        rw [non_of (view_ok s ra v1)]
        simp only [v1] at e
        cases u1 <;> cases e <;> exact q
      | _ => cases e
  | notN =>
    simp only [cmpop] at e
    cases v2 : view st y with
    | none => rw [v2] at e; cases e
    | some u2 =>
      rw [v2] at e
      cases u2 with
      | non =>
        obtain rfl : b = .non := view_ok s rb v2
        obtain ⟨u1, v1⟩ := view_some s ra
        refine wop_of op_notN ⟨rfl, ?_⟩
        rw [non_of (view_ok s ra v1)]
        simp only [v1] at e
        cases u1 <;> cases e <;> exact q
      | _ => cases e
  | eq =>
    simp only [cmpop] at e
    cases q1 : toP 0 st FU x with
    | none => rw [q1] at e; cases e
    | some p1 =>
      cases q2 : toP 0 st FU y with
      | none => rw [q1, q2] at e; cases e
      | some p2 =>
        rw [q1, q2] at e
        simp only at e
        split at e
        · rename_i h
          cases e
          obtain ⟨g1, g2, g3, g4⟩ := eqOk_of h
          intro pins sh σ v u I r1 r2
          exact rc_at I p1 p2 X.A a b v u g1 g2 (toP_H s ra q1) (toP_H s rb q2) r1 r2 (by omega) X.prog X.w X.xe _ ⟨.bl _, w.H, I, rfl, q⟩
        · cases e
  | ne =>
    simp only [cmpop] at e
    cases q1 : toP 0 st FU x with
    | none => rw [q1] at e; cases e
    | some p1 =>
      cases q2 : toP 0 st FU y with
      | none => rw [q1, q2] at e; cases e
      | some p2 =>
        rw [q1, q2] at e
        simp only at e
        split at e
        · rename_i h
          cases e
          obtain ⟨g1, g2, g3, g4⟩ := eqOk_of h
          intro pins sh σ v u I r1 r2
          exact ne_at I p1 p2 X.A a b v u g1 g2 (toP_H s ra q1) (toP_H s rb q2) r1 r2 (by omega) X.prog X.w X.xe _ ⟨.bl _, w.H, I, rfl, q⟩
        · cases e
  | lt =>
    simp only [cmpop] at e
    cases q1 : toP 0 st FU x with
    | none => rw [q1] at e; cases e
    | some p1 =>
      cases q2 : toP 0 st FU y with
      | none => rw [q1, q2] at e; cases e
      | some p2 =>
        rw [q1, q2] at e
        simp only at e
        split at e
        · rename_i h
          cases e
          rw [Bool.and_eq_true] at h
          obtain ⟨g1, g2, g3, g4⟩ := eqOk_of h.1
          intro pins sh σ v u I r1 r2
          exact lt_at I 60 p1 p2 X.A a b v u g3 g1 g2 h.2 (toP_H s ra q1) (toP_H s rb q2) r1 r2 (by omega) X.prog X.w X.xe _ ⟨.bl _, w.H, I, rfl, q⟩
        · cases e
  | le =>
    simp only [cmpop] at e
    cases q1 : toP 0 st FU x with
    | none => rw [q1] at e; cases e
    | some p1 =>
      have h1 := toP_H s ra q1
      cases q2 : toP 0 st FU y with
      | none => rw [q1, q2] at e; cases p1 <;> cases e
      | some p2 =>
        have h2 := toP_H s rb q2
        rw [q1, q2] at e
        cases p1 <;> cases p2 <;> cases e
        cases h1
        cases h2
        exact wop_of op_le ⟨_, _, rfl, rfl, q⟩
  | ge =>
    simp only [cmpop] at e
    cases q1 : toP 0 st FU x with
    | none => rw [q1] at e; cases e
    | some p1 =>
      have h1 := toP_H s ra q1
      cases q2 : toP 0 st FU y with
      | none => rw [q1, q2] at e; cases p1 <;> cases e
      | some p2 =>
        have h2 := toP_H s rb q2
        rw [q1, q2] at e
        cases p1 <;> cases p2 <;> cases e
        cases h1
        cases h2
        exact wop_of op_ge ⟨_, _, rfl, rfl, q⟩
  | gt =>
    simp only [cmpop] at e
    cases q1 : toP 0 st FU x with
    | none => rw [q1] at e; cases e
    | some p1 =>
      have h1 := toP_H s ra q1
      cases q2 : toP 0 st FU y with
      | none => rw [q1, q2] at e; cases p1 <;> cases e
      | some p2 =>
        have h2 := toP_H s rb q2
        rw [q1, q2] at e
        cases p1 <;> cases p2 <;> cases e
        · cases h1
          cases h2
          exact wop_of op_gt ⟨_, _, rfl, rfl, q⟩
        · cases h1
          cases h2
          exact wop_of op_gt_str ⟨_, _, rfl, rfl, q⟩
  | in_ =>
    simp only [cmpop] at e
    cases v2 : view st y with
    | none => rw [v2] at e; cases e
    | some u2 =>
      have h2 := view_ok s rb v2
      rw [v2] at e
      cases u2 with
      | seqL vs =>
        obtain ⟨l, ys, rfl, hl, rl⟩ := h2
        exact (inop_ok ok e s ra rl (.inl hl)).1 q
      | seqT vs =>
        obtain ⟨l, ys, rfl, hl, rl⟩ := h2
        exact (inop_ok ok e s ra rl (.inr (w.ext.t hl).sq)).1 q
      | dic kvs =>
        obtain ⟨d, rfl, dr⟩ := h2
        simp only at e
        cases q1 : keyOf cad.ct st x with
        | none => rw [q1] at e; cases e
        | some k =>
          rw [q1] at e
          cases q2 : dget kvs k with
          | none => simp only [Option.bind_some, q2] at e; cases e
          | some o =>
            simp only [Option.bind_some, q2] at e
            cases e
            intro pins sh σ v u I r1 r2
            cases r2
            obtain ⟨qo, g, ov⟩ := dg_of I s dr ra q1 q2 r1
            refine dg_in (by omega) g fun t => ?_
            rw [ov.isSome]
            exact ⟨.bl _, w.H, I.tok t, rfl, q⟩
      | str zz =>
        obtain rfl : b = .str zz := h2
        simp only at e
        cases v1 : view st x with
        | none => rw [v1] at e; cases e
        | some u1 =>
          have h1 := view_ok s ra v1
          rw [v1] at e
          cases u1 with
          | str c =>
            obtain rfl : a = .str c := h1
            simp only at e
            split at e
            · rename_i hc
              cases e
              exact wop_of op_in_sign ⟨c.cps.getD 0 0, zz, congrArg V.str (one_sign hc), rfl, q⟩
            · cases e
          | _ => cases e
      | _ => cases e
  | nin =>
    simp only [cmpop] at e
    cases v2 : view st y with
    | none => rw [v2] at e; cases e
    | some u2 =>
      have h2 := view_ok s rb v2
      rw [v2] at e
      cases u2 with
      | seqL vs =>
        obtain ⟨l, ys, rfl, hl, rl⟩ := h2
        obtain ⟨r', e', rfl⟩ := Option.map_eq_some_iff.mp e
        exact (inop_ok ok e' s ra rl (.inl hl)).2 q
      | seqT vs =>
        obtain ⟨l, ys, rfl, hl, rl⟩ := h2
        obtain ⟨r', e', rfl⟩ := Option.map_eq_some_iff.mp e
        exact (inop_ok ok e' s ra rl (.inr (w.ext.t hl).sq)).2 q
      | dic kvs =>
        obtain ⟨d, rfl, dr⟩ := h2
        simp only at e
        cases q1 : keyOf cad.ct st x with
        | none => rw [q1] at e; cases e
        | some k =>
          rw [q1] at e
          cases q2 : dget kvs k with
          | none => simp only [Option.bind_some, q2] at e; cases e
          | some o =>
            simp only [Option.bind_some, q2] at e
            cases e
            intro pins sh σ v u I r1 r2
            cases r2
            obtain ⟨qo, g, ov⟩ := dg_of I s dr ra q1 q2 r1
            refine dg_nin (by omega) g fun t => ?_
            rw [ov.isSome]
            exact ⟨.bl _, w.H, I.tok t, rfl, q⟩
      | str zz =>
        obtain rfl : b = .str zz := h2
        simp only at e
        cases v1 : view st x with
        | none => rw [v1] at e; cases e
        | some u1 =>
          have h1 := view_ok s ra v1
          rw [v1] at e
          cases u1 with
          | str c =>
            obtain rfl : a = .str c := h1
            simp only at e
            split at e
            · rename_i hc
              cases e
              exact wop_of op_notIn_sign ⟨c.cps.getD 0 0, zz, congrArg V.str (one_sign hc), rfl, q⟩
            · cases e
          | _ => cases e
      | _ => cases e

/-! ### truth -/
theorem isEmpty_r {F : Hp} {tops : List Addr} {K : PySem.W.Frag} {vs : List V} {xs : List Val} (r : RvL K cad F tops vs xs) : (!vs.isEmpty) = !xs.isEmpty := by
  cases r <;> rfl
theorem truth_ok {k : Bool} {Q : Bool → Hp → Prop} (e : truth st x = some k) (s : SR X.K cad w st) (ra : RvW X.K cad w a x) (q : Q k w.H) : WTru X a w.H Q := by
  unfold truth at e
  cases v1 : view st x with
  | none => rw [v1] at e; cases e
  | some u =>
    have h := view_ok s ra v1
    rw [v1] at e
    cases u with
    | non => obtain rfl : a = .non := h; cases e; exact wtru_of tru_ok ⟨_, rfl, q⟩
    | bl b => obtain rfl : a = .bl b := h; cases e; exact wtru_of tru_ok ⟨_, rfl, q⟩
    | int i => obtain rfl : a = .int i := h; cases e; exact wtru_of tru_ok ⟨_, rfl, q⟩
    | str t =>
      obtain rfl : a = .str t := h
      simp only at e
      split at e
      · rename_i hz
        cases e
        refine wtru_of tru_ok ⟨_, ⟨by rw [← sz_eq]; exact hz, rfl⟩, ?_⟩
        have : ((t.length : Int) != 0) = (t.length != 0) := by
          generalize t.length = n
          cases n with
          | zero => rfl
          | succ n =>
            have h : ((n + 1 : Nat) : Int) ≠ 0 := by omega
            rw [bne_iff_ne.mpr h, bne_iff_ne.mpr (Nat.succ_ne_zero n)]
        rw [this]
        exact q
      · cases e
    | seqL xs =>
      obtain ⟨l, vs, rfl, hl, rl⟩ := h
      cases e
      exact wtru_of tru_ok ⟨_, .inl ⟨vs, hl, rfl⟩, by rw [isEmpty_r rl]; exact q⟩
    | seqT xs =>
      obtain ⟨l, vs, rfl, hl, rl⟩ := h
      cases e
      exact wtru_of tru_ok ⟨_, .inr (.inl ⟨vs, (w.ext.t hl).sq, rfl⟩), by rw [isEmpty_r rl]; exact q⟩
    | _ => cases e

/-! ### items -/
def WIx (X : Cx) : R2 := fun x y H Q => ∀ (value slice : Expr) (pins : List (Addr × Obj)) (s : Shared) (σ : L2.St) (v u : Value), Inv X pins σ H s → RelV x v → RelV y u →
  subscripted slice false v u = operate [v, u] (getItem v u) → wpAny (model X.prog X.w) X.A (PyProof.Rows.subscriptTail value slice v u) (EP X pins σ Q) X.xe s
theorem wix : IxR X (WIx X) := fun value slice pins s σ H x y v u Q I r1 r2 h e => h value slice pins s σ v u I r1 r2 e
theorem wix_of {r : R2} {x y : V} {H : Hp} {Q : VK} (h : IxR X r) (q : r x y H Q) : WIx X x y H Q := fun value slice pins s σ v u I r1 r2 e => h value slice pins s σ H x y v u Q I r1 r2 q e
theorem ix_get {xs : List Val} {vs : List V} {i : Int} {z : Val} (h : at_ xs i = some z) (r : RvLW X.K cad w vs xs) : ∃ v, atI vs i = some v ∧ RvW X.K cad w v z := by
  unfold at_ ixN at h
  obtain ⟨j, h1, h2⟩ := Option.bind_eq_some_iff.mp h
  obtain ⟨v, h3, h4⟩ := r.get h2
  exact ⟨v, by unfold atI; rw [r.length, h1]; exact h3, h4⟩

theorem subop_ok (ok : XOk X) (e : subop cad.ct x y st = some z) (s : SR X.K cad w st) (ra : RvW X.K cad w a x) (rb : RvW X.K cad w b y) (q : Post X cad w st z Q) : WIx X a b w.H Q := by
  have un := ok.un
  unfold subop at e
  cases v1 : view st x with
  | none => rw [v1] at e; cases e
  | some u1 =>
    have h1 := view_ok s ra v1
    rw [v1] at e
    cases u1 with
    | seqL xs =>
      obtain ⟨l, vs, rfl, hl, rl⟩ := h1
      simp only at e
      cases v2 : view st y with
      | none => rw [v2] at e; cases e
      | some u2 =>
        have h2 := view_ok s rb v2
        rw [v2] at e
        cases u2 with
        | int i =>
          obtain rfl : b = .int i := h2
          obtain ⟨v, g1, g2⟩ := ix_get e rl
          exact wix_of (r := rIxL X.K) ix_list ⟨l, vs, i, v, rfl, rfl, hl, g1, q.here s g2⟩
        | _ => cases e
    | seqT xs =>
      obtain ⟨l, vs, rfl, hl, rl⟩ := h1
      simp only at e
      cases v2 : view st y with
      | none => rw [v2] at e; cases e
      | some u2 =>
        have h2 := view_ok s rb v2
        rw [v2] at e
        cases u2 with
        | int i =>
          obtain rfl : b = .int i := h2
          obtain ⟨v, g1, g2⟩ := ix_get e rl
          exact wix_of (r := rIxT X.K) ix_tup ⟨l, vs, i, v, rfl, rfl, (w.ext.t hl).sq, g1, q.here s g2⟩
        | _ => cases e
    | str t =>
      obtain rfl : a = .str t := h1
      simp only at e
      cases v2 : view st y with
      | none => rw [v2] at e; cases e
      | some u2 =>
        have h2 := view_ok s rb v2
        rw [v2] at e
        cases u2 with
        | int i =>
          obtain rfl : b = .int i := h2
          simp only at e
          split at e
          · rename_i hz
            obtain ⟨c, g1, g2⟩ := Option.map_eq_some_iff.mp e
            subst g2
            exact wix_of (r := rIxS) ix_str ⟨t, i, c, rfl, rfl, by rw [← sz_eq]; exact hz, g1, q.here s (.pu (.str _))⟩
          · cases e
        | _ => cases e
    | dic kvs =>
      obtain ⟨d, rfl, dr⟩ := h1
      simp only at e
      cases q1 : keyOf cad.ct st y with
      | none => rw [q1] at e; cases e
      | some k =>
        rw [q1] at e
        cases q2 : dget kvs k with
        | none => simp only [Option.bind_some, q2] at e; cases e
        | some o =>
          simp only [Option.bind_some, q2] at e
          subst e
          intro value slice pins sh σ v u I r1 r2 hs
          cases r1
          obtain ⟨qo, g, ov⟩ := dg_of I s dr rb q1 q2 r2
          cases qo with
          | none => exact ov.elim
          | some qv =>
            obtain ⟨vv, g1, g2⟩ := ov
            exact PyProof.Rows.tail_any (dg_type g) F.slot_dict_getitem.lookup (dg_item (by omega) g fun t => ⟨vv, w.H, I.tok t, g1, q.here s g2⟩) hs
    | _ => cases e

/-! ### slices -/
def WSl (X : Cx) : V → Option Int → Option Int → Hp → VK → Prop := fun x lo hi H Q => ∀ (pins : List (Addr × Obj)) (s : Shared) (σ : L2.St) (v vl vu : Value) (sl : Addr), Inv X pins σ H s → RelV x v → s.heap.IsSliceOf sl vl vu .none → IsPart vl lo → IsPart vu hi →
    ∃ T id, typeLookup (.type T) "__getitem__" = pure (some (.builtin id)) ∧ s.TypeIs v T ∧ wpAny (model X.prog X.w) X.A (getItem v (.ref sl)) (EP X pins σ Q) X.xe s
theorem wsl : SlR X (WSl X) := fun pins s σ H x v vl vu lo hi sl Q I r h1 h2 h3 h => h pins s σ v vl vu sl I r h1 h2 h3
theorem wsl_of {r : V → Option Int → Option Int → Hp → VK → Prop} {x : V} {lo hi : Option Int} {H : Hp} {Q : VK} (h : SlR X r) (q : r x lo hi H Q) : WSl X x lo hi H Q := fun pins s σ v vl vu sl I r1 h1 h2 h3 => h pins s σ H x v vl vu lo hi sl Q I r1 h1 h2 h3 q
theorem cut_r {xs : List Val} {vs : List V} (lo hi : Option Int) (r : RvLW X.K cad w vs xs) : RvLW X.K cad w (cutV vs lo hi) (cut xs lo hi) := by
  unfold cutV cut
  rw [r.length]
  exact (r.drop _).take _

theorem cut_whole {α : Type} {xs : List α} {lo hi : Option Int} (h : HT.sIx xs.length 0 lo = 0 ∧ HT.sIx xs.length xs.length hi = xs.length) : cut xs lo hi = xs := by
  unfold cut
  rw [h.1, h.2]
  simp
theorem slcop_ok {o : Bool} {lo hi : Option Int} (e : slcop o x lo hi st = some (z, st')) (s : SR X.K cad w st) (ra : RvW X.K cad w a x) (q : Post X cad w st' z Q) : WSl X a lo hi w.H Q := by
  unfold slcop at e
  cases v1 : view st x with
  | none => rw [v1] at e; cases e
  | some u1 =>
    have h1 := view_ok s ra v1
    rw [v1] at e
    cases u1 with
    | seqL xs =>
      obtain ⟨l, vs, rfl, hl, rl⟩ := h1
      exact wsl_of sl_list ⟨l, vs, rfl, hl, mkL_ok e s (cut_r lo hi rl) q⟩
    | seqT xs =>
      obtain ⟨l, vs, rfl, hl, rl⟩ := h1
      refine wsl_of sl_tupA ⟨l, vs, rfl, (w.ext.t hl).sq, fun hw => ?_, fun _ => mkT_ok e s (cut_r lo hi rl) q⟩
      have hw' : cut xs lo hi = xs := cut_whole (by rw [← rl.length]; exact hw)
      simp only at e
      rw [hw'] at e
      exact mkT_same e s hl rl q
    | _ => cases e

/-! ### attributes -/
theorem getF_r {f : Str} : ∀ {gs : List (Str × Val)} {fs : List (Str × V)} {z : Val}, gs.map (·.1) = fs.map (·.1) → RvLW X.K cad w (fs.map (·.2)) (gs.map (·.2)) → gs.lookup f = some z → ∃ v, fs.lookup f = some v ∧ RvW X.K cad w v z
  | [], [], _, _, _, h => by simp at h
  | [], _ :: _, _, e, _, _ => by cases e
  | _ :: _, [], _, e, _, _ => by cases e
  | (g, x) :: gs, (g', v) :: fs, z, e, r, h => by
    simp only [List.map_cons, List.cons.injEq] at e
    obtain ⟨rfl, e⟩ := e
    cases r with
    | cons r1 r2 =>
      rw [List.lookup_cons] at h ⊢
      cases hb : f == g with
      | true => rw [hb] at h; cases h; exact ⟨v, rfl, r1⟩
      | false => rw [hb] at h; exact getF_r e r2 h
theorem getF_n {f : Str} : ∀ {gs : List (Str × Val)} {fs : List (Str × V)}, gs.map (·.1) = fs.map (·.1) → gs.lookup f = none → fs.lookup f = none
  | [], [], _, _ => rfl
  | [], _ :: _, e, _ => by cases e
  | _ :: _, [], e, _ => by cases e
  | (g, x) :: gs, (g', v) :: fs, e, h => by
    simp only [List.map_cons, List.cons.injEq] at e
    obtain ⟨rfl, e⟩ := e
    rw [List.lookup_cons] at h ⊢
    cases hb : f == g with
    | true => rw [hb] at h; cases h
    | false => rw [hb] at h; exact getF_n e h
theorem putF_r {f : Str} {z : Val} {v : V} (rz : RvW X.K cad w v z) : ∀ {gs : List (Str × Val)} {fs : List (Str × V)}, gs.map (·.1) = fs.map (·.1) → RvLW X.K cad w (fs.map (·.2)) (gs.map (·.2)) →
    (putF f z gs).map (·.1) = (L2.putF f v fs).map (·.1) ∧ RvLW X.K cad w ((L2.putF f v fs).map (·.2)) ((putF f z gs).map (·.2))
  | [], [], _, _ => ⟨rfl, .cons rz .nil⟩
  | [], _ :: _, e, _ => by cases e
  | _ :: _, [], e, _ => by cases e
  | (g, x) :: gs, (g', u) :: fs, e, r => by
    simp only [List.map_cons, List.cons.injEq] at e
    obtain ⟨rfl, e⟩ := e
    cases r with
    | cons r1 r2 =>
      by_cases h : g = f
      · subst h
        simp only [putF, L2.putF, if_true, List.map_cons]
        exact ⟨by rw [e], .cons rz r2⟩
      · obtain ⟨i1, i2⟩ := putF_r rz e r2
        simp only [putF, L2.putF, if_neg h, List.map_cons]
        exact ⟨by rw [i1], .cons r1 i2⟩
theorem getFld_ok {f : Str} (e : getFld x f st = some z) (s : SR X.K cad w st) (ra : RvW X.K cad w a x) (na : ∀ c, Cls X.K (cad.cl c) ∧ NoAttr X.K (cad.cl c) f) (q : Post X cad w st z Q) :
    ∃ p C dx fs v, a = .ref p ∧ w.H p = some (.ins C dx fs) ∧ Cls X.K C ∧ NoAttr X.K C f ∧ fs.lookup f = some v ∧ Q v w.H := by
  unfold getFld at e
  cases v1 : view st x with
  | none => rw [v1] at e; cases e
  | some u1 =>
    have h1 := view_ok s ra v1
    rw [v1] at e
    cases u1 with
    | ins c gs =>
      obtain ⟨p, dx, fs, rfl, h2, h3, h4⟩ := h1
      obtain ⟨v, g1, g2⟩ := getF_r h3 h4 e
      exact ⟨p, _, dx, fs, v, rfl, h2, (na c).1, (na c).2, g1, q.here s g2⟩
    | _ => cases e
/-- a cell that is no dead one -/
theorem cell_at {n : Nat} {c : CellC} (s : SR X.K cad w st) (ra : RvW X.K cad w a (.cell n)) (e : st[n]? = some c) : ∃ p own, a = .ref p ∧ w.tops[n]? = some p ∧ w.owns[n]? = some own ∧ Ce X.K cad w.H w.F w.tops p own c := by
  cases ra with
  | cell h =>
    obtain ⟨p, own, h1, h2, h3⟩ := s.cl n c e
    rw [h] at h1
    cases h1
    exact ⟨_, own, rfl, h, h2, h3⟩
theorem setFld_ok {f : Str} {v : V} {y : Val} {Q : Hp → Prop} (e : setFld x y f st = some st') (s : SR X.K cad w st) (ra : RvW X.K cad w a x) (rv : RvW X.K cad w v y) (na : ∀ c, Cls X.K (cad.cl c) ∧ NoAttr X.K (cad.cl c) f)
    (q : ∀ w', Le w w' → SR X.K cad w' st' → Q w'.H) :
    ∃ p C dx fs, a = .ref p ∧ w.H p = some (.ins C dx fs) ∧ Cls X.K C ∧ NoAttr X.K C f ∧ fs.length < 1000 ∧ Q (upd w.H p (.ins C dx (L2.putF f v fs))) := by
  unfold setFld at e
  cases x with
  | cell n =>
    simp only at e
    cases hn : st[n]? with
    | none => rw [hn] at e; cases e
    | some c =>
      rw [hn] at e
      cases c with
      | ins c gs =>
        simp only at e
        split at e
        · rename_i hl
          cases e
          obtain ⟨p, own, rfl, h1, h2, h3⟩ := cell_at s ra hn
          cases h3 with
          | @ins dx _ fs _ g1 g2 g3 g4 =>
            obtain ⟨i1, i2⟩ := putF_r rv g3 g4
            have hne : dx ≠ p := by
              rintro rfl
              rw [g1] at g2; cases g2
            obtain ⟨l, s'⟩ := write_ok s (o := .ins (cad.cl c) dx (L2.putF f v fs)) h1 h2 (by simp) hn (.ins upd_same ((upd_ne hne).trans g2) i1 i2)
            have hl2 := congrArg List.length g3
            rw [List.length_map, List.length_map] at hl2
            exact ⟨p, _, dx, fs, rfl, g1, (na c).1, (na c).2, by omega, q _ l s'⟩
        · cases e
      | _ => cases e
  | _ => cases e

/-! ### dicts written -/
theorem putK_k {i : Key} {v : V} {y : Val} (rv : RvW X.K cad w v y) {kvs : List (Kx × Val)} {ks : List (Key × V)} (h : kvs.map (·.1) = ks.map (fun q => Kx.k q.1)) (r : RvLW X.K cad w (ks.map (·.2)) (kvs.map (·.2))) :
    (putK kvs (.k i) y).map (·.1) = (L2.putK ks i v).map (fun q => Kx.k q.1) ∧ RvLW X.K cad w ((L2.putK ks i v).map (·.2)) ((putK kvs (.k i) y).map (·.2)) := by
  have hs := valK_k (w := w) (K := X.K) i h r
  have hb : (valK kvs (.k i)).isSome = (valV ks i).isSome := by
    revert hs
    cases valK kvs (.k i) <;> cases valV ks i <;> intro hs <;> first | rfl | exact hs.elim
  unfold putK L2.putK
  rw [hb, L2.valV_any]
  split
  · rename_i hsome
    clear hs hb hsome
    induction kvs generalizing ks with
    | nil => cases ks with
      | nil => exact ⟨rfl, .nil⟩
      | cons _ _ => cases h
    | cons p kvs ih => cases ks with
      | nil => cases h
      | cons q ks =>
        simp only [List.map_cons, List.cons.injEq] at h
        cases r with
        | cons r1 r2 =>
          obtain ⟨i1, i2⟩ := ih h.2 r2
          obtain ⟨pk, pv⟩ := p
          obtain ⟨qk, qv⟩ := q
          simp only at h
          obtain ⟨rfl, h⟩ := h
          by_cases hk : qk = i
          · subst hk
            simp only [List.map_cons, if_true]
            exact ⟨by rw [i1], .cons rv i2⟩
          · have hk' : ¬ (Kx.k qk = Kx.k i) := fun z => hk (by cases z; rfl)
            simp only [List.map_cons, if_neg hk, if_neg hk']
            exact ⟨by rw [i1], .cons r1 i2⟩
  · simp only [List.map_append, List.map_cons, List.map_nil]
    exact ⟨by rw [h], r.append (.cons rv .nil)⟩
theorem putK_t {i : List Key} {v : V} {y : Val} (rv : RvW X.K cad w v y) {kvs : List (Kx × Val)} {ks : List (List Key × V)} (h : kvs.map (·.1) = ks.map (fun q => Kx.t q.1)) (r : RvLW X.K cad w (ks.map (·.2)) (kvs.map (·.2))) :
    (putK kvs (.t i) y).map (·.1) = (L2.putK ks i v).map (fun q => Kx.t q.1) ∧ RvLW X.K cad w ((L2.putK ks i v).map (·.2)) ((putK kvs (.t i) y).map (·.2)) := by
  have hs := valK_t (w := w) (K := X.K) i h r
  have hb : (valK kvs (.t i)).isSome = (valV ks i).isSome := by
    revert hs
    cases valK kvs (.t i) <;> cases valV ks i <;> intro hs <;> first | rfl | exact hs.elim
  unfold putK L2.putK
  rw [hb, L2.valV_any]
  split
  · rename_i hsome
    clear hs hb hsome
    induction kvs generalizing ks with
    | nil => cases ks with
      | nil => exact ⟨rfl, .nil⟩
      | cons _ _ => cases h
    | cons p kvs ih => cases ks with
      | nil => cases h
      | cons q ks =>
        simp only [List.map_cons, List.cons.injEq] at h
        cases r with
        | cons r1 r2 =>
          obtain ⟨i1, i2⟩ := ih h.2 r2
          obtain ⟨pk, pv⟩ := p
          obtain ⟨qk, qv⟩ := q
          simp only at h
          obtain ⟨rfl, h⟩ := h
          by_cases hk : qk = i
          · subst hk
            simp only [List.map_cons, if_true]
            exact ⟨by rw [i1], .cons rv i2⟩
          · have hk' : ¬ (Kx.t qk = Kx.t i) := fun z => hk (by cases z; rfl)
            simp only [List.map_cons, if_neg hk, if_neg hk']
            exact ⟨by rw [i1], .cons r1 i2⟩
  · simp only [List.map_append, List.map_cons, List.map_nil]
    exact ⟨by rw [h], r.append (.cons rv .nil)⟩
theorem putK_ne {κ : Type} [DecidableEq κ] {ks : List (κ × V)} {k : κ} {v : V} : L2.putK ks k v ≠ [] := by
  unfold L2.putK
  split
  · rename_i h
    intro e
    have : ks = [] := by simpa using e
    subst this
    simp at h
  · simp
/-- the empty dict turns -/
theorem swap_k {pins : List (Addr × Obj)} {σ : L2.St} {H : Hp} {s : Shared} {d : Addr} (I : Inv X pins σ H s) (e : H d = some (.dT [])) : Inv X pins σ (upd H d (.dK [])) s := by
  obtain ⟨z, hd, xs, rel, dd⟩ := dt_of I.hok e
  cases rel
  have he : ∃ q, s.heap.get? d = some q := let ⟨q, _, _, hq, _⟩ := dd; ⟨q, hq⟩
  exact d_write (h' := s.heap) (t' := s.toks) I (by rw [e]; exact True.intro) ⟨rfl, fun _ _ => rfl⟩ he (dk_new (Nat.zero_le _) hd .nil (empty_k dd))
theorem swap_t {pins : List (Addr × Obj)} {σ : L2.St} {H : Hp} {s : Shared} {d : Addr} (I : Inv X pins σ H s) (e : H d = some (.dK [])) : Inv X pins σ (upd H d (.dT [])) s := by
  obtain ⟨z, hd, xs, rel, dd⟩ := dk_of I.hok e
  cases rel
  have he : ∃ q, s.heap.get? d = some q := let ⟨q, _, _, hq, _⟩ := dd; ⟨q, hq⟩
  exact d_write (h' := s.heap) (t' := s.toks) (ob := .dT []) I (by rw [e]; exact True.intro) ⟨rfl, fun _ _ => rfl⟩ he ⟨Nat.zero_le _, hd, [], .nil, by obtain ⟨o, es, ep, h1, h2, h3, h4, _, h6⟩ := empty_t dd; exact ⟨o, es, ep, h1, h2, h3, h4, h6⟩⟩
theorem upd_upd {H : Hp} {a : Addr} {o u : HO} : upd (upd H a o) a u = upd H a u := by
  funext b
  by_cases h : b = a
  · subst h; rw [upd_same, upd_same]
  · rw [upd_ne h, upd_ne h, upd_ne h]
/-- a dict's cell is written at a key -/
theorem dput_ok {n : Nat} {d : Addr} {kvs : List (Kx × Val)} {k : Kx} {i v : V} {yi yv : Val} {own : List Addr} {Q : Hp → Prop} (hn : st[n]? = some (.dct kvs)) (s : SR X.K cad w st) (h1 : w.tops[n]? = some d) (h2 : w.owns[n]? = some own) (h3 : Ce X.K cad w.H w.F w.tops d own (.dct kvs))
    (ri : RvW X.K cad w i yi) (rv : RvW X.K cad w v yv) (ek : keyOf cad.ct st yi = some k) (ok : kOk kvs k = true) (hl : kvs.length < SZ) (q : ∀ w', Le w w' → SR X.K cad w' (st.set n (.dct (putK kvs k yv))) → Q w'.H) :
    ∀ pins σ sh, Inv X pins σ w.H sh → ∃ H' H2, Inv X pins σ H' sh ∧ DPut H' d i v H2 ∧ Q H2 := by
  intro pins σ sh I
  have hlen : ∀ {α : Type} {ks : List α} {f : α → Kx}, kvs.map (·.1) = ks.map f → ks.length < sizeLine := by
    intro α ks f e
    have := congrArg List.length e
    rw [List.length_map, List.length_map] at this
    rw [← sz_eq, ← this]; exact hl
  rcases keyOf_v s ri ek with ⟨j, rfl, rfl⟩ | ⟨js, b, rfl, rfl, ht, hc⟩
  · cases h3 with
    | @dk ks _ g1 g2 g3 =>
      obtain ⟨i1, i2⟩ := putK_k (i := j) rv g2 g3
      obtain ⟨l, s'⟩ := write_ok s (o := .dK (L2.putK ks j v)) h1 h2 (by simp) hn (.dk upd_same i1 i2)
      exact ⟨w.H, _, I, .k g1 (hlen g2), q _ l s'⟩
    | @dt ks _ g1 g2 g3 =>
      exact absurd (kOk_k ok g2.1).1 g2.2
  · have hb : w.H b = some (.tup (js.map kV)) := by
      rcases ht with h | h
      · exact h
      · rw [h.2 js rfl] at hc; cases hc
    cases h3 with
    | @dt ks _ g1 g2 g3 =>
      obtain ⟨i1, i2⟩ := putK_t (i := js) rv g2.1 g3
      obtain ⟨l, s'⟩ := write_ok s (o := .dT (L2.putK ks js v)) h1 h2 (by simp) hn (.dt upd_same ⟨i1, putK_ne⟩ i2)
      exact ⟨w.H, _, I, .t g1 hb (hlen g2.1), q _ l s'⟩
    | @dk ks _ g1 g2 g3 =>
      obtain ⟨rfl, rfl⟩ := kOk_t ok g2
      obtain ⟨i1, i2⟩ := putK_t (X := X) (cad := cad) (w := w) (i := js) (kvs := []) (ks := []) rv rfl .nil
      obtain ⟨l, s'⟩ := write_ok s (o := .dT (L2.putK [] js v)) h1 h2 (by simp) hn (.dt upd_same ⟨i1, putK_ne⟩ i2)
      have hne : b ≠ d := by
        rintro rfl
        rw [g1] at hb; cases hb
      refine ⟨_, _, swap_t I g1, .t upd_same ((upd_ne hne).trans hb) (by rw [← sz_eq]; decide), ?_⟩
      rw [upd_upd]
      exact q _ l s'
theorem setItem_ok {kk : Bool} {o i v : V} {xo xi xv : Val} {Q : Hp → Prop} (ok : XOk X) (e : setItem cad.ct kk xo xi xv st = some st') (s : SR X.K cad w st) (ro : RvW X.K cad w o xo) (ri : RvW X.K cad w i xi) (rv : RvW X.K cad w v xv)
    (q : ∀ w', Le w w' → SR X.K cad w' st' → Q w'.H) : WSet X o i v w.H Q := by
  have un := ok.un
  unfold setItem at e
  cases xo with
  | cell n =>
    simp only at e
    cases hn : st[n]? with
    | none => rw [hn] at e; cases e
    | some c =>
      rw [hn] at e
      obtain ⟨p, own, rfl, h1, h2, h3⟩ := cell_at s ro hn
      cases c with
      | lst xs =>
        simp only at e
        cases v1 : view st xi with
        | none => rw [v1] at e; cases e
        | some u1 =>
          have hi := view_ok s ri v1
          rw [v1] at e
          cases u1 with
          | int j =>
            obtain rfl : i = .int j := hi
            simp only at e
            cases hm : ixN xs.length j with
            | none => rw [hm] at e; cases e
            | some m =>
              rw [hm] at e
              cases e
              cases h3 with
              | @lst vs _ g1 g2 =>
                obtain ⟨l, s'⟩ := write_ok s (o := .lst (vs.set m v)) h1 h2 (by simp) hn (.lst upd_same (g2.set m rv))
                exact wset_of set_list ⟨p, vs, j, m, rfl, rfl, g1, by rw [g2.length]; exact hm, q _ l s'⟩
          | _ => cases e
      | dct kvs =>
        simp only at e
        cases ek : keyOf cad.ct st xi with
        | none => rw [ek] at e; cases e
        | some k =>
          rw [ek] at e
          simp only [Bool.and_eq_true, decide_eq_true_eq] at e
          split at e
          · rename_i hc
            cases e
            intro pins sh σ ov iv u I r1 r2 r3
            cases r1
            obtain ⟨H', H2, I', dp, qq⟩ := dput_ok hn s h1 h2 h3 ri rv ek hc.1 hc.2 q pins σ sh I
            exact d_setItem (by omega) I' dp r2 r3 fun s' I2 => ⟨H2, I2, qq⟩
          · cases e
      | _ => cases e
  | _ => cases e
end
end Y

set_option linter.all false
set_option maxRecDepth 100000
set_option Elab.async false
/-! Y7: the order of data as an order of rows of numbers; sorted. -/
namespace Y
open PySem L2 PySem.SeqAt
variable {cad : En}

/-! ### data as rows of numbers -/
mutual
def enc : P → List Int
  | .non => [0]
  | .bl b => [1, if b then 1 else 0]
  | .int i => [1, i]
  | .str s => 2 :: ((s.cps.toList.map fun c : Nat => (c : Int) + 1) ++ [0])
  | .tup xs => 3 :: encL xs
  | .lst xs => 4 :: encL xs
  | .dct _ _ => [5]
  | .obj _ _ _ => [5]
def encL : List P → List Int
  | [] => [0]
  | x :: xs => 1 :: (enc x ++ encL xs)
end
/-- the rows part at a place; there they stand as b says -/
def Dif (a b : List Int) (lt : Option Bool) : Prop := ∃ c i j r s, a = c ++ i :: r ∧ b = c ++ j :: s ∧ i ≠ j ∧ ∀ k, lt = some k → decide (i < j) = k
theorem Dif.pre {a b : List Int} {k : Option Bool} (c : List Int) (h : Dif a b k) : Dif (c ++ a) (c ++ b) k := by
  obtain ⟨d, i, j, r, s, e1, e2, h⟩ := h
  exact ⟨c ++ d, i, j, r, s, by rw [e1, List.append_assoc], by rw [e2, List.append_assoc], h⟩
theorem Dif.app {a b : List Int} {k : Option Bool} (x y : List Int) (h : Dif a b k) : Dif (a ++ x) (b ++ y) k := by
  obtain ⟨d, i, j, r, s, e1, e2, h⟩ := h
  exact ⟨d, i, j, r ++ x, s ++ y, by rw [e1, List.append_assoc]; rfl, by rw [e2, List.append_assoc]; rfl, h⟩
theorem Dif.weak {a b : List Int} {k k' : Option Bool} (h : Dif a b k) (w : ∀ z, k' = some z → k = some z) : Dif a b k' := by
  obtain ⟨d, i, j, r, s, e1, e2, h1, h2⟩ := h
  exact ⟨d, i, j, r, s, e1, e2, h1, fun z e => h2 z (w z e)⟩
theorem lex_of {c r s : List Int} {i j : Int} (h : i ≠ j) : decide ((c ++ i :: r) < (c ++ j :: s)) = decide (i < j) := by
  induction c with
  | nil =>
    simp only [List.nil_append]
    congr 1
    rw [List.cons_lt_cons_iff]
    simp [h]
  | cons x c ih =>
    rw [← ih]
    congr 1
    simp only [List.cons_append]
    rw [List.cons_lt_cons_iff]
    simp [Int.lt_irrefl]
theorem Dif.lt {a b : List Int} {k : Bool} (h : Dif a b (some k)) : decide (a < b) = k := by
  obtain ⟨d, i, j, r, s, e1, e2, h1, h2⟩ := h
  rw [e1, e2, lex_of h1]
  exact h2 k rfl
theorem dif_str : ∀ (l m : List Nat), l ≠ m → Dif ((l.map fun c : Nat => (c : Int) + 1) ++ [0]) ((m.map fun c : Nat => (c : Int) + 1) ++ [0]) (some (decide (l < m)))
  | [], [], h => absurd rfl h
  | [], b :: m, _ => ⟨[], 0, (b : Int) + 1, [], _, rfl, rfl, by omega, fun k e => by
      cases e
      have h1 : (0 : Int) < (b : Int) + 1 := by omega
      simp [h1]⟩
  | a :: l, [], _ => ⟨[], (a : Int) + 1, 0, _, [], rfl, rfl, by omega, fun k e => by
      cases e
      have h1 : ¬ ((a : Int) + 1 < 0) := by omega
      simp [h1]⟩
  | a :: l, b :: m, h => by
    by_cases hab : a = b
    · subst hab
      have ih := dif_str l m (fun z => h (by rw [z]))
      have h2 := ih.pre [(a : Int) + 1]
      refine Dif.weak h2 fun z e => ?_
      cases e
      congr 1
      simp [List.cons_lt_cons_iff]
    · refine ⟨[], (a : Int) + 1, (b : Int) + 1, _, _, rfl, rfl, by omega, fun k e => ?_⟩
      cases e
      have h1 : ((a : Int) + 1 < (b : Int) + 1) ↔ a < b := by omega
      simp [List.cons_lt_cons_iff, hab, h1]
def cb (c : Bool) (b : Bool) : Option Bool := if c then some b else none
theorem dif_head {i j : Int} {r s : List Int} {b : Bool} (h : i ≠ j) : Dif (i :: r) (j :: s) (cb false b) := ⟨[], i, j, r, s, rfl, rfl, h, fun k e => by cases e⟩
mutual
theorem eqv_enc : ∀ p q : P, plain p = true → plain q = true → eqv p q = true → enc p = enc q ∧ ltP p q = false
  | .non, q, _, hq, h => by cases q <;> first | exact ⟨rfl, rfl⟩ | (simp [eqv] at h)
  | .bl a, q, _, hq, h => by
    cases q with
    | bl b => have e : a = b := by simpa [eqv] using h
              subst e; exact ⟨rfl, by simp [ltP]⟩
    | int j => cases a <;> simp [eqv] at h <;> subst h <;> exact ⟨rfl, rfl⟩
    | _ => simp [eqv] at h
  | .int i, q, _, hq, h => by
    cases q with
    | bl b => cases b <;> simp [eqv] at h <;> subst h <;> exact ⟨rfl, rfl⟩
    | int j => have e : i = j := by simpa [eqv] using h
               subst e; exact ⟨rfl, by simp [ltP]⟩
    | _ => simp [eqv] at h
  | .str x, q, _, hq, h => by
    cases q with
    | str y => have e : x = y := by simpa [eqv] using h
               subst e; exact ⟨rfl, by simp [ltP, List.lt_irrefl]⟩
    | _ => simp [eqv] at h
  | .tup xs, q, hp, hq, h => by
    cases q with
    | tup ys =>
      obtain ⟨e1, e2⟩ := eqvL_enc xs ys (by simpa [plain] using hp) (by simpa [plain] using hq) (by simpa [eqv] using h)
      exact ⟨by rw [enc, enc, e1], by simpa [ltP] using e2⟩
    | _ => simp [eqv] at h
  | .lst xs, q, hp, hq, h => by
    cases q with
    | lst ys =>
      obtain ⟨e1, e2⟩ := eqvL_enc xs ys (by simpa [plain] using hp) (by simpa [plain] using hq) (by simpa [eqv] using h)
      exact ⟨by rw [enc, enc, e1], by simpa [ltP] using e2⟩
    | _ => simp [eqv] at h
  | .dct _ _, q, hp, hq, h => by simp [plain] at hp
  | .obj _ _ _, q, hp, hq, h => by simp [plain] at hp
theorem eqvL_enc : ∀ ps qs : List P, plainL ps = true → plainL qs = true → eqvL ps qs = true → encL ps = encL qs ∧ ltL ps qs = false
  | [], [], _, _, _ => ⟨rfl, rfl⟩
  | [], _ :: _, _, _, h => by simp [eqvL] at h
  | _ :: _, [], _, _, h => by simp [eqvL] at h
  | p :: ps, q :: qs, hp, hq, h => by
    simp only [eqvL, Bool.and_eq_true] at h
    simp only [plainL, Bool.and_eq_true] at hp hq
    obtain ⟨e1, _⟩ := eqv_enc p q hp.1 hq.1 h.1
    obtain ⟨e2, e3⟩ := eqvL_enc ps qs hp.2 hq.2 h.2
    exact ⟨by rw [encL, encL, e1, e2], by rw [ltL, if_pos h.1, e3]⟩
end
mutual
theorem dif_enc : ∀ p q : P, plain p = true → plain q = true → eqv p q = false → Dif (enc p) (enc q) (cb (cmpb p q) (ltP p q))
  | .non, q, _, hq, h => by
    cases q with
    | non => simp [eqv] at h
    | dct _ _ => simp [plain] at hq
    | obj _ _ _ => simp [plain] at hq
    | _ => exact dif_head (by decide)
  | .bl a, q, _, hq, h => by
    cases q with
    | bl b =>
      have hne : a ≠ b := by simpa [eqv] using h
      refine ⟨[1], _, _, [], [], rfl, rfl, ?_, fun k e => ?_⟩
      · cases a <;> cases b <;> simp_all
      · have e' : some (ltP (.bl a) (.bl b)) = some k := e
        cases e'
        rfl
    | int j =>
      refine ⟨[1], _, j, [], [], rfl, rfl, ?_, fun k e => by cases e⟩
      rintro rfl
      simp [eqv] at h
    | dct _ _ => simp [plain] at hq
    | obj _ _ _ => simp [plain] at hq
    | _ => exact dif_head (by decide)
  | .int i, q, _, hq, h => by
    cases q with
    | bl b =>
      refine ⟨[1], i, _, [], [], rfl, rfl, ?_, fun k e => by cases e⟩
      rintro rfl
      simp [eqv] at h
    | int j =>
      have hne : i ≠ j := by simpa [eqv] using h
      refine ⟨[1], i, j, [], [], rfl, rfl, hne, fun k e => ?_⟩
      have e' : some (ltP (.int i) (.int j)) = some k := e
      cases e'
      rfl
    | dct _ _ => simp [plain] at hq
    | obj _ _ _ => simp [plain] at hq
    | _ => exact dif_head (by decide)
  | .str x, q, _, hq, h => by
    cases q with
    | str y =>
      have hne : x.cps.toList ≠ y.cps.toList := fun z => by
        have : x = y := by cases x; cases y; simp at z; rw [z]
        subst this; simp [eqv] at h
      exact (dif_str _ _ hne).pre [2]
    | dct _ _ => simp [plain] at hq
    | obj _ _ _ => simp [plain] at hq
    | _ => exact dif_head (by decide)
  | .tup xs, q, hp, hq, h => by
    cases q with
    | tup ys =>
      have ih := (difL_enc xs ys (by simpa [plain] using hp) (by simpa [plain] using hq) (by simpa [eqv] using h)).pre [3]
      refine ih.weak fun z e => ?_
      rw [← e]
      simp [cmpb, ltP]
    | dct _ _ => simp [plain] at hq
    | obj _ _ _ => simp [plain] at hq
    | _ => exact dif_head (by decide)
  | .lst xs, q, hp, hq, h => by
    cases q with
    | lst ys =>
      have ih := (difL_enc xs ys (by simpa [plain] using hp) (by simpa [plain] using hq) (by simpa [eqv] using h)).pre [4]
      refine ih.weak fun z e => ?_
      by_cases hc : cmpA xs ys = true
      · rw [← e]
        have hc2 : cmpL xs ys = true := cmpA_L xs ys hc
        simp [cmpb, ltP, hc, hc2]
      · have e' : cb (cmpA xs ys) (ltL xs ys) = some z := by simpa [cmpb, ltP] using e
        rw [cb, if_neg hc] at e'
        cases e'
    | dct _ _ => simp [plain] at hq
    | obj _ _ _ => simp [plain] at hq
    | _ => exact dif_head (by decide)
  | .dct _ _, q, hp, hq, h => by simp [plain] at hp
  | .obj _ _ _, q, hp, hq, h => by simp [plain] at hp
theorem difL_enc : ∀ ps qs : List P, plainL ps = true → plainL qs = true → eqvL ps qs = false → Dif (encL ps) (encL qs) (cb (cmpL ps qs) (ltL ps qs))
  | [], [], _, _, h => by simp [eqvL] at h
  | [], _ :: _, _, _, h => ⟨[], 0, 1, [], _, rfl, rfl, by decide, fun k e => by
      have e' : some true = some k := e
      cases e'; rfl⟩
  | _ :: _, [], _, _, h => ⟨[], 1, 0, _, [], rfl, rfl, by decide, fun k e => by
      have e' : some false = some k := e
      cases e'; rfl⟩
  | p :: ps, q :: qs, hp, hq, h => by
    simp only [plainL, Bool.and_eq_true] at hp hq
    cases he : eqv p q with
    | true =>
      have h2 : eqvL ps qs = false := by simpa [eqvL, he] using h
      have ih := difL_enc ps qs hp.2 hq.2 h2
      obtain ⟨e1, _⟩ := eqv_enc p q hp.1 hq.1 he
      have := (ih.pre (enc q)).pre [1]
      rw [encL, encL, e1, cmpL, ltL, if_pos he, if_pos he]
      exact this
    | false =>
      have ih := dif_enc p q hp.1 hq.1 he
      have := (ih.app (encL ps) (encL qs)).pre [1]
      rw [encL, encL, cmpL, ltL, he]
      exact this
theorem cmpA_L : ∀ ps qs : List P, cmpA ps qs = true → cmpL ps qs = true
  | [], _, _ => by simp [cmpL]
  | _ :: _, [], _ => by simp [cmpL]
  | p :: ps, q :: qs, h => by
    simp only [cmpA, Bool.and_eq_true, Bool.or_eq_true] at h
    rw [cmpL]
    cases he : eqv p q with
    | true => simp [cmpA_L ps qs h.2]
    | false => rw [he] at h; simpa using h.1
end
theorem ltP_enc {p q : P} (hp : plain p = true) (hq : plain q = true) (c : cmpb p q = true) : ltP p q = decide (enc p < enc q) := by
  cases he : eqv p q with
  | true =>
    obtain ⟨e1, e2⟩ := eqv_enc p q hp hq he
    rw [e1, e2]
    simp [List.lt_irrefl]
  | false =>
    have h := dif_enc p q hp hq he
    rw [c] at h
    exact h.lt.symm
end Y

set_option linter.all false
set_option maxRecDepth 100000
set_option Elab.async false
/-! Y8: sorted. -/
namespace Y
open PySem L2 PySem.SeqAt PyProof.Rows
variable {cad : En}

/-! ### the order -/
theorem lt_asym {a b : List Int} (h : a < b) : ¬ b < a := List.lt_asymm h
theorem nlt_trans {a b c : List Int} (h1 : ¬ b < a) (h2 : ¬ c < b) : ¬ c < a := by
  have h1' : a ≤ b := List.not_lt.mp h1
  have h2' : b ≤ c := List.not_lt.mp h2
  exact List.not_lt.mpr (List.le_trans h1' h2')
theorem swo_by {α : Type} (f : α → List Int) : SrtO.Swo fun x y => decide (f x < f y) := by
  refine ⟨fun x y h => ?_, fun x y z h1 h2 => ?_⟩
  · have h' := of_decide_eq_true h
    exact decide_eq_false (lt_asym h')
  · have a := of_decide_eq_false h1
    have b := of_decide_eq_false h2
    exact decide_eq_false (nlt_trans a b)
theorem total_by {α : Type} (f : α → List Int) : PySem.W.TotalLe fun x y : α => !decide (f y < f x) := by
  refine ⟨fun a b c h1 h2 => ?_, fun a b => ?_⟩
  · have a' : ¬ f b < f a := by simpa using h1
    have b' : ¬ f c < f b := by simpa using h2
    have : ¬ f c < f a := nlt_trans a' b'
    simp [this]
  · by_cases h : f b < f a
    · right
      simp [lt_asym h]
    · left
      simp [h]

/-! ### values as data -/
section
variable {X : Cx} {pins : List (Addr × Obj)} {σ : L2.St} {H F : Hp} {s : Shared}
def IsP (K : PySem.W.Frag) (cad : En) (H : Hp) (u : Value) (p : P) : Prop := ∃ x, RelV x u ∧ plain p = true ∧ Rp K cad H x p
open Classical in
noncomputable def pv (K : PySem.W.Frag) (cad : En) (H : Hp) (u : Value) : P := if h : ∃ p, IsP K cad H u p then Classical.choose h else .non
theorem pv_of (I : Inv X pins σ H s) (ex : Ext F H) {u : Value} {p : P} (h : IsP X.K cad F u p) : pv X.K cad F u = p := by
  have hx : ∃ p, IsP X.K cad F u p := ⟨p, h⟩
  unfold pv
  rw [dif_pos hx]
  obtain ⟨x, r1, p1, g1⟩ := Classical.choose_spec hx
  obtain ⟨y, r2, p2, g2⟩ := h
  obtain rfl := r1.inj r2
  exact Rp.uniq I _ _ _ p1 p2 (g1.mono ex) (g2.mono ex)
theorem isP_all : ∀ {xs : List V} {us : List Value} {ps : List P}, Vals xs us → RpL X.K cad H xs ps → (∀ p ∈ ps, plain p = true) → ∀ u ∈ us, ∃ p, p ∈ ps ∧ IsP X.K cad H u p
  | [], us, ps, r, g, _ => by cases r; intro u hu; simp at hu
  | x :: xs, us, ps, r, g, hp => by
    cases r with
    | cons r1 r2 =>
      cases g with
      | cons g1 g2 =>
        intro u hu
        rcases List.mem_cons.mp hu with rfl | hu
        · exact ⟨_, List.mem_cons_self, x, r1, hp _ List.mem_cons_self, g1⟩
        · obtain ⟨p, h1, h2⟩ := isP_all r2 g2 (fun q hq => hp q (List.mem_cons_of_mem _ hq)) u hu
          exact ⟨p, List.mem_cons_of_mem _ h1, h2⟩
theorem pv_map (I : Inv X pins σ H s) (ex : Ext F H) : ∀ {xs : List V} {us : List Value} {ps : List P}, Vals xs us → RpL X.K cad F xs ps → (∀ p ∈ ps, plain p = true) → us.map (pv X.K cad F) = ps
  | [], us, ps, r, g, _ => by cases r; cases g; rfl
  | x :: xs, us, ps, r, g, hp => by
    cases r with
    | cons r1 r2 =>
      cases g with
      | cons g1 g2 =>
        rw [List.map_cons, pv_of I ex ⟨x, r1, hp _ List.mem_cons_self, g1⟩, pv_map I ex r2 g2 fun q hq => hp q (List.mem_cons_of_mem _ hq)]
theorem vals_back (K : PySem.W.Frag) : ∀ {out : List Value}, (∀ u ∈ out, ∃ p, IsP K cad H u p ∧ pv K cad H u = p) → ∃ xs, Vals xs out ∧ RpL K cad H xs (out.map (pv K cad H))
  | [], _ => ⟨[], .nil, .nil⟩
  | u :: out, h => by
    obtain ⟨xs, h1, h2⟩ := vals_back K fun v hv => h v (List.mem_cons_of_mem _ hv)
    obtain ⟨p, ⟨x, r, _, g⟩, e⟩ := h u List.mem_cons_self
    exact ⟨x :: xs, .cons r h1, by rw [List.map_cons, e]; exact .cons g h2⟩

/-! ### two items compare -/
theorem oneLt_of {c : Bool} {p q : P} {x y : V} {u v : Value} {A : Around} {Q : Bool → Shared → Prop} {E : Value → Shared → Prop} {prog : Program} {w : World} (I : Inv X pins σ H s) (hd : depth p ≤ 60) (hp : plain p = true) (hq : plain q = true) (hc : cmpb p q = true) (g : Rp X.K cad H x p) (g' : Rp X.K cad H y q) (r : RelV x u) (r' : RelV y v) (hu : A.units + 70 < cLine)
    (hcase : c = false ∨ (isI p = true ∧ isI q = true) ∨ (isS p = true ∧ isS q = true)) (h : Q (ltP p q) s) : wpAny (model prog w) A (oneLt' c u v) Q E s := by
  cases c with
  | false => exact PySem.W.kat_one u v (lt_at I 60 p q A x y u v hd hp hq hc g g' r r' (by omega) prog w E _ (by exact h))
  | true =>
    rcases hcase with e | ⟨h1, h2⟩ | ⟨h1, h2⟩
    · cases e
    · cases g <;> first | (simp [isI] at h1; done) | skip
      cases g' <;> first | (simp [isI] at h2; done) | skip
      obtain ⟨t, rfl⟩ := r
      obtain ⟨t', rfl⟩ := r'
      exact oneLt_int (by simpa [ltP] using h)
    · cases g <;> first | (simp [isS] at h1; done) | skip
      cases g' <;> first | (simp [isS] at h2; done) | skip
      obtain ⟨t, rfl⟩ := r
      obtain ⟨t', rfl⟩ := r'
      exact oneLt_str (by simpa [ltP] using h)
theorem katLex_of {A : Around} {Q : Bool → Shared → Prop} {prog : Program} {w : World} {fin : Bool} (I : Inv X pins σ H s) (hu : A.units + 130 < cLine) : ∀ (ps qs : List P) (xs ys : List V) (us vs : List Value) (i : Nat), RpL X.K cad H xs ps → RpL X.K cad H ys qs → Vals xs us → Vals ys vs → plainL ps = true → plainL qs = true →
    depthL ps ≤ 60 → cmpL ps qs = true → (i = 0 → ∀ p q ps' qs', ps = p :: ps' → qs = q :: qs' → (isI p = true ∧ isI q = true) ∨ (isS p = true ∧ isS q = true)) → (fin = decide (us.length < vs.length)) → Q (ltL ps qs) s →
    PySem.W.KatLex prog w A true fin Q (us.zip vs) i s
  | [], qs, xs, ys, us, vs, i, g, g', r, r', hp, hq, hd, hc, hf, hfin, h => by
    cases g
    cases r
    cases qs with
    | nil => cases g'; cases r'; exact PySem.W.kat_nil (by rw [hfin]; exact h)
    | cons q qs => cases g' with
      | cons _ _ => cases r' with
        | cons _ _ => exact PySem.W.kat_nil (by rw [hfin]; simpa [ltL] using h)
  | p :: ps, [], xs, ys, us, vs, i, g, g', r, r', hp, hq, hd, hc, hf, hfin, h => by
    cases g'
    cases r'
    cases g with
    | cons _ _ => cases r with
      | cons _ _ => exact PySem.W.kat_nil (by rw [hfin]; simpa [ltL] using h)
  | p :: ps, q :: qs, xs, ys, us, vs, i, g, g', r, r', hp, hq, hd, hc, hf, hfin, h => by
    cases g with
    | cons g1 g2 => cases r with
      | cons r1 r2 => cases g' with
        | cons g3 g4 => cases r' with
          | cons r3 r4 =>
            simp only [plainL, Bool.and_eq_true] at hp hq
            simp only [depthL] at hd
            refine PySem.W.kat_cons (eq_at I 60 p q A _ _ _ _ (by omega) hp.1 hq.1 g1 g3 r1 r3 (by omega) prog w _ _ ?_)
            refine PySem.W.kat_go (fun e => ?_) (fun e => ?_)
            · refine PySem.W.kat_yes (katLex_of I hu ps qs _ _ _ _ (i + 1) g2 g4 r2 r4 hp.2 hq.2 (by omega) ?_ (fun z => by omega) ?_ ?_)
              · rw [cmpL, if_pos e] at hc; exact hc
              · rw [hfin]; simp
              · rw [ltL, if_pos e] at h; exact h
            · refine PySem.W.kat_no (oneLt_of I (by omega) hp.1 hq.1 ?_ g1 g3 r1 r3 (by omega) ?_ ?_)
              · rw [cmpL, e] at hc; simpa using hc
              · by_cases hi : i = 0
                · exact .inr (hf hi p q ps qs rfl rfl)
                · exact .inl (by simp [hi])
              · rw [ltL, e] at h; simpa using h
/-- the order of the items -/
noncomputable def ltv (K : PySem.W.Frag) (cad : En) (H : Hp) (v u : Value) : Bool := decide (enc (pv K cad H v) < enc (pv K cad H u))
structure SortAt (ps : List P) : Prop where
  cmp : ∀ p ∈ ps, ∀ q ∈ ps, cmpb p q = true
  pl : ∀ p ∈ ps, plain p = true
  dp : ∀ p ∈ ps, depth p ≤ 60
  kind : (∀ p ∈ ps, isI p = true) ∨ (∀ p ∈ ps, isS p = true) ∨ (∀ p ∈ ps, fst_ isI p = true) ∨ ∀ p ∈ ps, fst_ isS p = true
theorem sortAt {ps : List P} (h : sortOk ps = true) : SortAt ps := by
  unfold sortOk at h
  simp only [Bool.and_eq_true, Bool.or_eq_true, List.all_eq_true, decide_eq_true_eq] at h
  obtain ⟨⟨h1, h2⟩, h3⟩ := h
  refine ⟨h1, fun p hp => (h2 p hp).1, fun p hp => (h2 p hp).2, ?_⟩
  rcases h3 with ((h | h) | h) | h
  · exact .inl h
  · exact .inr (.inl h)
  · exact .inr (.inr (.inl h))
  · exact .inr (.inr (.inr h))
theorem ints_of : ∀ {xs : List V} {us : List Value} {ps : List P}, Vals xs us → RpL X.K cad H xs ps → (∀ p ∈ ps, isI p = true) → ∃ ns, IntsAre us ns
  | [], us, ps, r, g, _ => by cases r; exact ⟨[], .nil⟩
  | x :: xs, us, ps, r, g, hp => by
    cases r with
    | cons r1 r2 =>
      cases g with
      | cons g1 g2 =>
        obtain ⟨ns, ih⟩ := ints_of r2 g2 fun q hq => hp q (List.mem_cons_of_mem _ hq)
        have h1 := hp _ List.mem_cons_self
        cases g1 <;> first | (simp [isI] at h1; done) | skip
        obtain ⟨t, rfl⟩ := r1
        exact ⟨_ :: ns, .cons _ t ih⟩
theorem strs_of : ∀ {xs : List V} {us : List Value} {ps : List P}, Vals xs us → RpL X.K cad H xs ps → (∀ p ∈ ps, isS p = true) → ∃ ns, StrsAre us ns
  | [], us, ps, r, g, _ => by cases r; exact ⟨[], .nil⟩
  | x :: xs, us, ps, r, g, hp => by
    cases r with
    | cons r1 r2 =>
      cases g with
      | cons g1 g2 =>
        obtain ⟨ns, ih⟩ := strs_of r2 g2 fun q hq => hp q (List.mem_cons_of_mem _ hq)
        have h1 := hp _ List.mem_cons_self
        cases g1 <;> first | (simp [isS] at h1; done) | skip
        obtain ⟨t, rfl⟩ := r1
        exact ⟨_ :: ns, .cons _ t ih⟩
theorem tups_of (I : Inv X pins σ H s) (sh : Nat → Bool) (hs : sh 0 = f) : ∀ {xs : List V} {us : List Value} {ps : List P}, Vals xs us → RpL X.K cad H xs ps → (∀ p ∈ ps, fst_ (if f then isS else isI) p = true) → ∃ fs, fs.length = us.length ∧ TupsOf s.heap sh us fs
  | [], us, ps, r, g, _ => by cases r; exact ⟨[], rfl, .nil⟩
  | x :: xs, us, ps, r, g, hp => by
    cases r with
    | cons r1 r2 =>
      cases g with
      | cons g1 g2 =>
        obtain ⟨fs, hl, ih⟩ := tups_of I sh hs r2 g2 fun q hq => hp q (List.mem_cons_of_mem _ hq)
        have h1 := hp _ List.mem_cons_self
        cases g1 with
        | @tup a xs' ps' k1 k2 =>
          cases k2 with
          | nil => simp [fst_] at h1
          | cons m1 m2 =>
            obtain ⟨its, rv, tt, _⟩ := I.tuple k1.sq
            obtain ⟨ob, o1, o2, n, o3⟩ := tt
            cases r1
            cases rv with
            | @cons _ w _ ws q1 q2 =>
              refine ⟨w :: fs, by simp [hl], .cons ⟨a, ob, _, n, rfl, o1, o2, o3, by simp, fun e => ?_, fun e => ?_⟩ ih⟩
              · have ef : f = false := hs.symm.trans e
                subst ef
                cases m1 <;> first | (simp [fst_, isI] at h1; done) | skip
                obtain ⟨t, rfl⟩ := q1
                exact ⟨_, t, rfl⟩
              · have ef : f = true := hs.symm.trans e
                subst ef
                cases m1 <;> first | (simp [fst_, isS] at h1; done) | skip
                obtain ⟨t, rfl⟩ := q1
                exact ⟨_, t, rfl⟩
        | _ => simp [fst_] at h1
theorem sortable (I : Inv X pins σ H s) (ex : Ext F H) {xs : List V} {us : List Value} {ps : List P} {a : Addr} {A : Around} (r : Vals xs us) (g0 : RpL X.K cad F xs ps) (ok : SortAt ps) (h2 : 2 ≤ us.length) (hu : A.units + 140 < cLine)
    (ha : ∀ b o, s.heap.get? b = some o → b ≠ a) (prog : Program) (w : World) (h1 : Heap) (k1 : ∀ b o, s.heap.get? b = some o → h1.get? b = some o) : SrtO.SortableO prog w A { s with heap := h1 } a us (ltv X.K cad F) := by
  intro h' keep
  have g := RpL.mono ex _ _ g0
  have J : Inv X pins σ H { s with heap := h' } := I.kept (t' := s.toks) fun b o e => keep b o (ha b o e) (k1 b o e)
  have hcmp : ∀ p q : Value × Value, p.1 ∈ us → q.1 ∈ us → ∃ x y pp qq, RelV x p.1 ∧ RelV y q.1 ∧ Rp X.K cad H x pp ∧ Rp X.K cad H y qq ∧ pp ∈ ps ∧ qq ∈ ps ∧ ltP pp qq = ltv X.K cad F p.1 q.1 := by
    intro p q hp hq
    obtain ⟨pp, m1, i1⟩ := isP_all r g0 ok.pl _ hp
    obtain ⟨qq, m2, i2⟩ := isP_all r g0 ok.pl _ hq
    have e1 := pv_of I ex i1
    have e2 := pv_of I ex i2
    obtain ⟨x, rx, _, gx⟩ := i1
    obtain ⟨y, ry, _, gy⟩ := i2
    refine ⟨x, y, pp, qq, rx, ry, gx.mono ex, gy.mono ex, m1, m2, ?_⟩
    unfold ltv
    rw [e1, e2]
    exact ltP_enc (ok.pl _ m1) (ok.pl _ m2) (ok.cmp _ m1 _ m2)
  have tupc : ∀ f : Bool, (∀ p ∈ ps, fst_ (if f then isS else isI) p = true) → SrtO.Cmp prog w A { s with heap := h' } (tuples' true) (fun p => p.1 ∈ us) (SrtO.lt2 (ltv X.K cad F)) := by
    intro f hf p q hp hq
    obtain ⟨x, y, pp, qq, rx, ry, gx, gy, m1, m2, e⟩ := hcmp p q hp hq
    have f1 := hf _ m1
    have f2 := hf _ m2
    have c := ok.cmp _ m1 _ m2
    have d1 := ok.dp _ m1
    have l1 := ok.pl _ m1
    have l2 := ok.pl _ m2
    show wpAny (model prog w) A (keyLt' (tuples' true) p.1 q.1) (fun r s' => s' = { s with heap := h' } ∧ r = ltv X.K cad F p.1 q.1) (fun _ _ => False) { s with heap := h' }
    rw [← e]
    cases gx with
    | @tup a1 xs1 ps1 k1 k2 =>
      cases gy with
      | @tup a2 xs2 ps2 k3 k4 =>
        obtain ⟨i1, v1, ⟨o1, t1, _, n1, t2⟩, _⟩ := J.tuple k1.sq
        obtain ⟨i2, v2, ⟨o2, t3, _, n2, t4⟩, _⟩ := J.tuple k3.sq
        rw [show p.1 = Value.ref a1 from rx, show q.1 = Value.ref a2 from ry]
        refine PySem.W.kat_lt t1 t2 t3 t4 ?_
        simp only [List.size_toArray, List.toList_toArray]
        refine katLex_of J (by omega) ps1 ps2 xs1 xs2 i1 i2 0 k2 k4 v1 v2 (by simpa [plain] using l1) (by simpa [plain] using l2) ?_ (by simpa [cmpb] using c) ?_ rfl ⟨rfl, by simp [ltP]⟩
        · have : depthL ps1 + 1 ≤ 60 := by simpa [depth] using d1
          omega
        · intro _ p' q' ps' qs' e1 e2
          subst e1 e2
          cases f with
          | true => exact .inr ⟨by simpa [fst_] using f1, by simpa [fst_] using f2⟩
          | false => exact .inl ⟨by simpa [fst_] using f1, by simpa [fst_] using f2⟩
      | _ => simp [fst_] at f2
    | _ => simp [fst_] at f1
  have one : (∀ p ∈ ps, isI p = true) ∨ (∀ p ∈ ps, isS p = true) → SrtO.Cmp prog w A { s with heap := h' } oneType' (fun p => p.1 ∈ us) (SrtO.lt2 (ltv X.K cad F)) := by
    intro hf p q hp hq
    obtain ⟨x, y, pp, qq, rx, ry, gx, gy, m1, m2, e⟩ := hcmp p q hp hq
    show wpAny (model prog w) A (keyLt' oneType' p.1 q.1) (fun r s' => s' = { s with heap := h' } ∧ r = ltv X.K cad F p.1 q.1) (fun _ _ => False) { s with heap := h' }
    rw [← e, keyLt'_oneType]
    refine oneLt_of J (ok.dp _ m1) (ok.pl _ m1) (ok.pl _ m2) (ok.cmp _ m1 _ m2) gx gy rx ry (by omega) ?_ ⟨rfl, rfl⟩
    rcases hf with h | h
    · exact .inr (.inl ⟨h _ m1, h _ m2⟩)
    · exact .inr (.inr ⟨h _ m1, h _ m2⟩)
  rcases ok.kind with hk | hk | hk | hk
  · refine ⟨oneType', fun Q E hq => ?_, one (.inl hk)⟩
    obtain ⟨ns, hi⟩ := ints_of r g hk
    match us, hi, h2 with
    | u1 :: u2 :: rest, hi, _ => rw [keyKind_ints hi]; exact wpAny_pure hq
    | [], _, h => exact absurd h (by decide)
    | [_], _, h => exact absurd h (by simp)
  · refine ⟨oneType', fun Q E hq => ?_, one (.inr hk)⟩
    obtain ⟨ns, hi⟩ := strs_of r g hk
    match us, hi, h2 with
    | u1 :: u2 :: rest, hi, _ => rw [keyKind_strs hi]; exact wpAny_pure hq
    | [], _, h => exact absurd h (by decide)
    | [_], _, h => exact absurd h (by simp)
  · refine ⟨tuples' true, fun Q E hq => ?_, tupc false (by simpa using hk)⟩
    obtain ⟨fs, hl, ht⟩ := tups_of (f := false) J (fun _ => false) rfl r g (by simpa using hk)
    exact tup_kind (s := { s with heap := h' }) (by omega) ht hq
  · refine ⟨tuples' true, fun Q E hq => ?_, tupc true (by simpa using hk)⟩
    obtain ⟨fs, hl, ht⟩ := tups_of (f := true) J (fun _ => true) rfl r g (by simpa using hk)
    exact tup_kind (s := { s with heap := h' }) (by omega) ht hq
theorem sorted_is (I : Inv X pins σ H s) (ex : Ext F H) {xs : List V} {us out : List Value} {ps : List P} (r : Vals xs us) (g : RpL X.K cad F xs ps) (ok : SortAt ps) (h1 : SrtO.Srtd (ltv X.K cad F) out) (h2 : SrtO.Stb (ltv X.K cad F) out us) :
    ∃ xs', Vals xs' out ∧ RpL X.K cad F xs' (sortP ps) := by
  have hm : ∀ u ∈ out, ∃ p, IsP X.K cad F u p ∧ pv X.K cad F u = p := fun u hu => by
    obtain ⟨p, _, i⟩ := isP_all r g ok.pl u (h2.perm.mem_iff.mp hu)
    exact ⟨p, i, pv_of I ex i⟩
  obtain ⟨xs', v, gg⟩ := vals_back X.K hm
  refine ⟨xs', v, ?_⟩
  have eq : out = us.mergeSort fun x y => !decide (enc (pv X.K cad F y) < enc (pv X.K cad F x)) := by
    refine PySem.W.sort_unique (total_by fun u => enc (pv X.K cad F u)) ?_ fun c => ?_
    · refine h1.imp fun {x y} h => ?_
      have h' : decide (enc (pv X.K cad F y) < enc (pv X.K cad F x)) = false := h
      rw [h']; rfl
    · have h3 := h2.cls c
      have : SrtO.eqv (ltv X.K cad F) c = PySem.W.sameRank (fun x y => !decide (enc (pv X.K cad F y) < enc (pv X.K cad F x))) c := by
        funext u
        unfold SrtO.eqv PySem.W.sameRank ltv
        rw [Bool.and_comm]
      rw [this] at h3
      exact h3
  have e2 : out.map (pv X.K cad F) = sortP ps := by
    rw [eq]
    unfold sortP
    rw [← pv_map I ex r g ok.pl]
    refine PySem.W.sort_maps (pv X.K cad F) fun a ha b hb => ?_
    obtain ⟨p, m1, i1⟩ := isP_all r g ok.pl a ha
    obtain ⟨q, m2, i2⟩ := isP_all r g ok.pl b hb
    rw [pv_of I ex i1, pv_of I ex i2, ltP_enc (ok.pl _ m2) (ok.pl _ m1) (ok.cmp _ m2 _ m1)]
  rw [e2] at gg
  exact gg
/-- sorted(l) -/
theorem cr_sortP (hu : X.A.units + 200 < cLine) : CallR X (.builtin "sorted") (fun vs H Q => ∃ (a : Addr) (xs : List V) (ps : List P) (F : Hp), Ext F H ∧ vs = [V.ref a] ∧ SqL X.K H a xs ∧ RpL X.K cad F xs ps ∧ sortOk ps = true ∧
    ∀ (xs' : List V) (p : Addr), RpL X.K cad F xs' (sortP ps) → H p = none → Q (.ref p) (upd H p (.lst xs'))) := by
  intro pins s σ H vs us Q I r h
  obtain ⟨a, xs, ps, F, ex, rfl, hs, g, ok, q⟩ := h
  obtain ⟨its, rv, hl, hz⟩ := I.list hs
  rw [Vals.ref1 r]
  have ok' := sortAt ok
  refine SrtO.sorted_ord (swo_by fun u => enc (pv X.K cad F u)) hl.isList (by rw [← rv.length]; exact hz) (fun h2 h1 a' _ k => ?_) fun out h1 h2 => ?_
  · exact sortable I ex rv g ok' h2 (by show X.A.units + 1 + 1 + 140 < cLine; omega) (fun b o e => (k b o e).1) _ _ h1 fun b o e => (k b o e).2
  · obtain ⟨xs', v, gg⟩ := sorted_is I ex rv g ok' h1 h2
    obtain ⟨ep, he'⟩ := PyProof.Rows.sortedAll_at s.heap its out.toArray
    have hlen : xs'.length ≤ sizeLine := by
      rw [v.length, h2.perm.length_eq, ← rv.length]; exact hz
    exact ⟨.ref _, _, I.laid (t' := s.toks) (o := .lst xs') (fun _ _ => PyProof.Rows.sortedAll_old) (Nat.le_succ _) ⟨hlen, out, ep, v, he'⟩, rfl, q xs' _ gg (I.hok.fresh (Nat.le_succ _))⟩
end
end Y

set_option linter.all false
set_option maxRecDepth 100000
set_option Elab.async false
/-! Y9: repr of data. -/
namespace Y
open PySem L2 PySem.SeqAt
variable {cad : En}

/-- the module list of the import system is among the known objects -/
def SysK (K : PySem.W.Frag) : Prop := ∃ o, K.lookup sysModules = some o ∧ o.cls = .type "dict"
section
variable {X : Cx} {pins : List (Addr × Obj)} {σ : L2.St} {H : Hp} {s : Shared}
theorem key_reads {h : Heap} {k : Key} {u : Value} (r : keyIs k u = true) : Reads h u (keyD k) [] := by
  rcases keyIs_shape r with ⟨i, t, rfl, rfl⟩ | ⟨x, t, rfl, rfl⟩
  · exact .int i t
  · exact .str x t
theorem items_reads {prog : Program} {w : World} {h : Heap} : ∀ {ks : List Key} {us : List Value}, ItemsAre (mixKind prog w) ks us → ReadsAll h us (ks.map keyD) []
  | _, _, .nil => .nil
  | _, _, .cons h t => .cons (as := []) (bs := []) (key_reads h) (items_reads t)
theorem pairs_keys {prog : Program} {w : World} {h : Heap} : ∀ {es : List DictEntry} {kvs : List (Key × Value)}, Pairs (mixKind prog w) es kvs → ReadsAll h (es.map (·.key)) (kvs.map fun q => keyD q.1) []
  | _, _, .nil => .nil
  | _, _, .cons h _ t => .cons (as := []) (bs := []) (key_reads h) (pairs_keys t)
theorem pairs_vals {prog : Program} {w : World} : ∀ {es : List DictEntry} {kvs : List (Key × Value)}, Pairs (mixKind prog w) es kvs → es.map (·.val) = kvs.map (·.2)
  | _, _, .nil => rfl
  | _, _, .cons _ e t => by rw [List.map_cons, List.map_cons, e, pairs_vals t]
theorem kv_fst : ∀ {kvs : List (Key × V)} {vs : List (Key × Value)}, KV kvs vs → vs.map (·.1) = kvs.map (·.1) ∧ Vals (kvs.map (·.2)) (vs.map (·.2))
  | _, _, .nil => ⟨rfl, .nil⟩
  | _, _, .cons h t => by
    obtain ⟨h1, h2⟩ := kv_fst t
    exact ⟨by rw [List.map_cons, List.map_cons, h1, h.1], .cons h.2 h2⟩
theorem kt_fst : ∀ {kvs : List (List Key × V)} {vs : List (List Key × Addr × Value)}, KT H kvs vs → vs.map (·.1) = kvs.map (·.1) ∧ Vals (kvs.map (·.2)) (vs.map (·.2.2))
  | _, _, .nil => ⟨rfl, .nil⟩
  | _, _, .cons h t => by
    obtain ⟨h1, h2⟩ := kt_fst t
    exact ⟨by rw [List.map_cons, List.map_cons, h1, h.1], .cons h.2.2 h2⟩
theorem kt_keys {prog : Program} {w : World} {h : Heap} : ∀ {xs : List (List Key × Addr × Value)}, (∀ x ∈ xs, (tupleKind (mixKind prog w)).is h x.1 x.2.1) → ReadsAll h (xs.map fun x => Value.ref x.2.1) (xs.map fun x => kxD (.t x.1)) []
  | [], _ => .nil
  | x :: xs, hx => by
    obtain ⟨o, its, n, h1, h2, h3, h4⟩ := hx x List.mem_cons_self
    exact .cons (as := []) (bs := []) (.tuple h1 h2 h3 (items_reads h4)) (kt_keys fun y hy => hx y (List.mem_cons_of_mem _ hy))
theorem toDs_map : ∀ ps : List P, toDs ps = ps.map toD
  | [] => rfl
  | p :: ps => by rw [toDs, toDs_map ps]; rfl
theorem zip_fst {α β : Type} : ∀ (xs : List α) (ys : List β), xs.length = ys.length → (xs.zip ys).map (·.1) = xs := map_zip_fst
theorem no_sys (I : Inv X pins σ H s) (sm : SysK X.K) {a : Addr} {o : Obj} {T : Value} (h : s.heap.get? a = some o) (hc : o.cls = T) (hT : T ≠ .type "dict") : sysModules ≠ a := by
  rintro rfl
  obtain ⟨o', h1, h2⟩ := sm
  have := I.kIn _ _ h1
  rw [h] at this
  cases this
  exact hT (hc.symm.trans h2)
mutual
theorem reads_of (I : Inv X pins σ H s) (sm : SysK X.K) : ∀ (p : P) (x : V) (u : Value), flatD p = true → Rp X.K cad H x p → RelV x u → ∃ as, Reads s.heap u (toD p) as ∧ sysModules ∉ as
  | .non, x, u, _, g, r => by cases g; cases r; exact ⟨_, .none, by simp⟩
  | .bl b, x, u, _, g, r => by cases g; cases r; exact ⟨_, .bool b, by simp⟩
  | .int i, x, u, _, g, r => by cases g; obtain ⟨t, rfl⟩ := r; exact ⟨_, .int i t, by simp⟩
  | .str z, x, u, _, g, r => by cases g; obtain ⟨t, rfl⟩ := r; exact ⟨_, .str z t, by simp⟩
  | .tup ps, x, u, hf, g, r => by
    cases g with
    | tup h1 h2 =>
      cases r
      obtain ⟨its, rv, ⟨o, o1, o2, n, o3⟩, _⟩ := I.tuple h1.sq
      obtain ⟨as, h3, h4⟩ := readsL_of I sm ps _ its (by simpa [flatD] using hf) h2 rv
      exact ⟨as, by rw [toD]; exact .tuple o1 o2 o3 (by simpa using h3), h4⟩
  | .lst ps, x, u, hf, g, r => by
    cases g with
    | lst h1 h2 =>
      cases r
      obtain ⟨its, rv, pl, _⟩ := I.list h1
      obtain ⟨o, o1, o2, n, o3⟩ := pl.isList
      obtain ⟨as, h3, h4⟩ := readsL_of I sm ps _ its (by simpa [flatD] using hf) h2 rv
      refine ⟨_, by rw [toD]; exact .list o1 o2 o3 (by simpa using h3), ?_⟩
      rw [List.mem_cons]
      rintro (h | h)
      · exact no_sys I sm o1 o2 (by decide) h
      · exact h4 h
  | .dct ks ps, x, u, hf, g, r => by
    rw [flatD, Bool.and_eq_true, decide_eq_true_eq] at hf
    obtain ⟨hlen, hf⟩ := hf
    cases g with
    | @dk a kvs _ _ h1 h2 h3 =>
      cases r
      obtain ⟨_, hd, vs, rel, ⟨o, es, ep, o1, o2, o3, _, o5, _⟩⟩ := dk_rd I.hok h1
      obtain ⟨e1, e2⟩ := kv_fst rel
      obtain ⟨as, h4, h5⟩ := readsL_of I sm ps _ _ hf h3 e2
      have k1 : ks.map kxD = vs.map fun q => keyD q.1 := by
        rw [h2, List.map_map]
        have : vs.map (fun q => keyD q.1) = (vs.map (·.1)).map keyD := by rw [List.map_map]; rfl
        rw [this, e1, List.map_map]; rfl
      have hl : (ks.map kxD).length = (toDs ps).length := by rw [List.length_map, toDs_map, List.length_map]; exact hlen
      rw [toD]
      refine ⟨_, .dict (as := []) (bs := as) o1 o2.1 o3 ?_ ?_, ?_⟩
      · rw [map_zip_fst _ _ hl, k1]; exact pairs_keys o5
      · rw [map_zip_snd _ _ hl, pairs_vals o5]; exact h4
      · rw [List.cons_append, List.mem_cons]
        rintro (h | h)
        · rw [← h] at hd; simp at hd
        · exact h5 h
    | @dt a kvs _ _ h1 h2 h3 =>
      obtain ⟨h2, _⟩ := h2
      cases r
      obtain ⟨_, hd, vs, rel, ⟨o, es, ep, o1, o2, o3, o4, o5, _⟩⟩ := dt_rd I.hok h1
      obtain ⟨e1, e2⟩ := kt_fst rel
      obtain ⟨as, h4, h5⟩ := readsL_of I sm ps _ _ hf h3 e2
      have k1 : ks.map kxD = vs.map fun q => kxD (.t q.1) := by
        rw [h2, List.map_map]
        have : vs.map (fun q => kxD (.t q.1)) = (vs.map (·.1)).map fun z => kxD (.t z) := by rw [List.map_map]; rfl
        rw [this, e1, List.map_map]; rfl
      have hl : (ks.map kxD).length = (toDs ps).length := by rw [List.length_map, toDs_map, List.length_map]; exact hlen
      have k2 : es.toList.map (·.key) = vs.map fun x => Value.ref x.2.1 := by rw [o4, List.map_map]; rfl
      have k3 : es.toList.map (·.val) = vs.map (·.2.2) := by rw [o4, List.map_map]; rfl
      rw [toD]
      refine ⟨_, .dict (as := []) (bs := as) o1 o2.1 o3 ?_ ?_, ?_⟩
      · rw [map_zip_fst _ _ hl, k1, k2]; exact kt_keys o5
      · rw [map_zip_snd _ _ hl, k3]; exact h4
      · rw [List.cons_append, List.mem_cons]
        rintro (h | h)
        · rw [← h] at hd; simp at hd
        · exact h5 h
  | .obj _ _ _, x, u, hf, g, r => by simp [flatD] at hf
theorem readsL_of (I : Inv X pins σ H s) (sm : SysK X.K) : ∀ (ps : List P) (xs : List V) (us : List Value), flatDs ps = true → RpL X.K cad H xs ps → Vals xs us → ∃ as, ReadsAll s.heap us (toDs ps) as ∧ sysModules ∉ as
  | [], xs, us, _, g, r => by cases g; cases r; exact ⟨_, .nil, by simp⟩
  | p :: ps, xs, us, hf, g, r => by
    cases g with
    | cons g1 g2 =>
      cases r with
      | cons r1 r2 =>
        rw [flatDs, Bool.and_eq_true] at hf
        obtain ⟨as, h1, h2⟩ := reads_of I sm p _ _ hf.1 g1 r1
        obtain ⟨bs, h3, h4⟩ := readsL_of I sm ps _ _ hf.2 g2 r2
        refine ⟨_, by rw [toDs]; exact .cons h1 h3, ?_⟩
        rw [List.mem_append]
        rintro (h | h)
        · exact h2 h
        · exact h4 h
end
/-- repr(x) -/
theorem cr_repr (sm : SysK X.K) (hg : X.A.guards = some []) (hu : X.A.units + 200 < cLine) : CallR X (.builtin "repr") (fun vs H Q => ∃ (x : V) (p : P) (z : Str), vs = [x] ∧ Rp X.K cad H x p ∧ reprP p = some z ∧ Q (.str z) H) := by
  intro pins s σ H vs us Q I r h
  obtain ⟨x, p, z, rfl, g, e, q⟩ := h
  obtain ⟨u, rfl, ru⟩ := vals1 r
  unfold reprP at e
  split at e
  rotate_left
  · cases e
  rename_i hc
  cases e
  simp only [Bool.and_eq_true, decide_eq_true_eq] at hc
  obtain ⟨⟨⟨h1, h2⟩, h3⟩, h4⟩ := hc
  rw [sz_eq] at h4
  have ex : ∀ t tk, EP X pins σ Q (.str (toD p).shown t) { s with toks := tk } := fun t tk => ⟨.str (toD p).shown, H, I.tok _, ⟨t, rfl⟩, q⟩
  obtain ⟨as, rd, hm⟩ := reads_of I sm p x u h1 g ru
  cases u with
  | ref a =>
    exact repr_of_reads' rd h2 (fun _ => hm) hg (by omega) (fun _ _ e => e) (fun h' t tk hk => ⟨.str (toD p).shown, H, I.kept (t' := tk) hk, ⟨t, rfl⟩, q⟩) h4
  | _ =>
    cases g with
    | non => cases ru <;> exact PySem.P.repr_of_none (ex _ _)
    | bl b => cases ru <;> exact PySem.P.repr_of_bool (ex _ _)
    | int i => obtain ⟨t, e⟩ := ru; cases e <;> exact PySem.P.repr_of_int (by simpa [toD, PyData.showable] using h2) (ex _ _)
    | str z => obtain ⟨t, e⟩ := ru; cases e <;> exact PySem.P.repr_of_str (ex _ _) h4
    | _ => cases ru
end
end Y

set_option linter.all false
set_option maxRecDepth 100000
set_option Elab.async false
/-! YR: sets of texts (of ints) made of a list, and sorted. -/
namespace Y.St
open PySem PySem.Spec PyProof.Rows L2
section
variable {P : Program} {w : World} {K : Type} [DecidableEq K] {knd : KeyKind P w K} {kf : Int × Value → K}
/-- the set at a holds just the keys l, each once; it can be walked -/
structure Has (knd : KeyKind P w K) (kf : Int × Value → K) (h : Heap) (a : Addr) (l : List K) (o : Obj) (zs : Array (Int × Value)) (ep : Nat) (t : SetTable) : Prop where
  ob : h.get? a = some o
  ex : o.ExactSet
  dt : o.data = .set zs ep t
  el : ElemsOf knd zs.toList
  pm : (zs.toList.map kf).Perm l
  nd : l.Nodup
  ft : t.fits zs.size = true
  ri : Ris t.place.toList
  ld : w.params.followText "set-order" = true ∨ t.led = true
def HasS (knd : KeyKind P w K) (kf : Int × Value → K) (h : Heap) (a : Addr) (l : List K) : Prop := ∃ o zs ep t, Has knd kf h a l o zs ep t
/-- the key of a member -/
def Kf (knd : KeyKind P w K) (kf : Int × Value → K) : Prop := ∀ e k, knd.is k e.2 = true → kf e = k
variable {A : Around} {E : Value → Shared → Prop} {s : Shared} {a : Addr} {l : List K} {o : Obj} {zs : Array (Int × Value)} {ep : Nat} {t : SetTable}
theorem Has.size {h : Heap} (R : Has knd kf h a l o zs ep t) : zs.size = l.length := by
  have := R.pm.length_eq
  rwa [List.length_map, Array.length_toList] at this
theorem HasS.keep {h h' : Heap} (R : HasS knd kf h a l) (k : ∀ u, h.get? a = some u → h'.get? a = some u) : HasS knd kf h' a l := by
  obtain ⟨o, zs, ep, t, R⟩ := R
  exact ⟨o, zs, ep, t, k o R.ob, R.ex, R.dt, R.el, R.pm, R.nd, R.ft, R.ri, R.ld⟩
/-- what follows the laying of a new member -/
theorem tail_ok {rl : Bool → Sem Unit} (hrl : ∀ (b : Bool) (s₁ : Shared) (F : Unit → Shared → Prop), F () s₁ → wpAny (model P w) A (rl b) F E s₁)
    {zs1 : Array (Int × Value)} {t2 : SetTable} (ho : s.heap.get? a = some o) (hx : o.ExactSet) (hd : o.data = .set zs ep t) (h1 : ElemsOf knd zs1.toList) (h2 : (zs1.toList.map kf).Perm l) (h3 : l.Nodup) (hb : l.length < scanBound)
    (h4 : t2.fits zs1.size = true) (h5 : Ris t2.place.toList) (h6 : w.params.followText "set-order" = true ∨ t2.led = true) {full : Bool} {G : Option Bool → Shared → Prop}
    (q : ∀ h', Heap.SameBut a s.heap h' → HasS knd kf h' a l → G (some true) { s with heap := h' }) :
    wpAny (model P w) A (do
        storeSet a zs1 t2
        if (!full && t2.tooFull) = true then do
            rl (relayAll t2 zs1 (SetTable.grown zs1.size)).2.2
            storeSet a (relayAll t2 zs1 (SetTable.grown zs1.size)).1 (relayAll t2 zs1 (SetTable.grown zs1.size)).2.1
            pure (some true)
          else pure (some true)) G E s := by
  have z1 : zs1.size = l.length := by have := h2.length_eq; rwa [List.length_map, Array.length_toList] at this
  refine wpAny_bind (wpAny_storeSet_of ho hd ?_ (fits_of_scanBound (z1 ▸ hb)))
  have at1 := store_at (es' := zs1) (t' := t2) ho hd
  have sb := Heap.SameBut.update s.heap a (Obj.putSet zs1 t2)
  by_cases c : (!full && t2.tooFull) = true
  · rw [if_pos c]
    have p1 := relayAll_perm t2 zs1 (SetTable.grown zs1.size)
    have p2 := relayAll_fits t2 zs1 (SetTable.grown zs1.size)
    have p3 := relayAll_ris t2 zs1 (SetTable.grown zs1.size)
    have p4 := relayAll_led t2 zs1 (SetTable.grown zs1.size)
    generalize relayAll t2 zs1 (SetTable.grown zs1.size) = Zr at p1 p2 p3 p4 ⊢
    obtain ⟨zs2, t3, gv⟩ := Zr
    dsimp only at p1 p2 p3 p4 ⊢
    have z2 : zs2.size = l.length := by rw [← z1, ← Array.length_toList, p1.length_eq, Array.length_toList]
    refine wpAny_bind (hrl _ _ _ (wpAny_bind (wpAny_storeSet_of at1 rfl ?_ (fits_of_scanBound (z2 ▸ hb)))))
    have at2 := store_at (es' := zs2) (t' := t3) at1 rfl
    exact wpAny_pure (q _ (sb.trans (Heap.SameBut.update _ a _)) ⟨_, zs2, _, t3, at2, hx, rfl, h1.perm p1, (p1.map kf).trans h2, h3, p2, p3, h6.imp id fun z => p4.trans z⟩)
  · rw [if_neg c]
    exact wpAny_pure (q _ sb ⟨_, zs1, _, t2, at1, hx, rfl, h1, h2, h3, h4, h5, h6⟩)
/-- a member more -/
theorem add_ok (hk : Kf knd kf) {k : K} {v : Value} (hv : knd.is k v = true) (hs : v.scannable = true) {F : Bool → Shared → Prop} (R : HasS knd kf s.heap a l) (room : l.length + 1 < scanBound)
    (q : ∀ b h', Heap.SameBut a s.heap h' → HasS knd kf h' a (if k ∈ l then l else k :: l) → F b { s with heap := h' }) : wpAny (model P w) A (setAddHashed a v (knd.hash k)) F E s := by
  obtain ⟨o, zs, ep, t, R⟩ := R
  have z := R.size
  have hb : zs.size < scanBound := by omega
  have mem : k ∈ l ↔ ∃ e ∈ zs.toList, knd.is k e.2 = true := by
    rw [← R.pm.mem_iff, List.mem_map]
    constructor
    · rintro ⟨e, he, rfl⟩
      obtain ⟨⟨k1, h1, _⟩, _⟩ := R.el e he
      exact ⟨e, he, by rw [hk e k1 h1]; exact h1⟩
    · rintro ⟨e, he, h1⟩
      exact ⟨e, he, hk e k h1⟩
  unfold setAddHashed setAddHashedIn
  refine wpAny_holding (wpAny_bind (wpAny_setState_of R.ob R.dt R.ft ?_))
  dsimp only
  rw [byScan_of hs hb R.el]
  simp only [↓reduceIte]
  unfold setAddByScan
  refine wpAny_bind (wpAny_bind (wpAny_rule (wpAny_bind (wpAny_setScan_of hv R.ob R.dt R.ft R.el ?_))))
  cases fd : List.findIdx? (fun e => knd.is k e.2) zs.toList with
  | some j =>
    obtain ⟨h1, h2, _⟩ := List.findIdx?_eq_some_iff_getElem.mp fd
    have hm : k ∈ l := mem.mpr ⟨_, List.getElem_mem h1, h2⟩
    refine wpAny_pure (wpAny_pure ?_)
    exact q _ s.heap (Heap.SameBut.refl a s.heap) (by rw [if_pos hm]; exact ⟨o, zs, ep, t, R⟩)
  | none =>
    have hm : k ∉ l := fun hm => by
      obtain ⟨e, he, h1⟩ := mem.mp hm
      have := List.findIdx?_eq_none_iff.mp fd e he
      rw [h1] at this
      cases this
    rw [if_neg hm] at q
    have rule_ok : ∀ (b : Bool) (s₁ : Shared) (G : Unit → Shared → Prop), G () s₁ → wpAny (model P w) A (match b with | true => rule "set.scan.the-table-gave-way" | false => pure ()) G E s₁ := fun b s₁ G g => by
      cases b
      · exact wpAny_pure g
      · exact wpAny_rule g
    have p1 := layNew_perm t zs (knd.hash k) v
    have p2 := layNew_fits t zs (knd.hash k) v
    have p3 := layNew_ris t zs (knd.hash k) v R.ri
    have p4 := layNew_led t zs (knd.hash k) v
    generalize layNew t zs (knd.hash k) v = Zr at p1 p2 p3 p4 ⊢
    obtain ⟨zs1, t1, full, gv⟩ := Zr
    dsimp only at p1 p2 p3 p4 ⊢
    rw [Array.toList_push] at p1
    have e1 : ElemsOf knd zs1.toList := (R.el.push hv hs).perm p1
    have m1 : (zs1.toList.map kf).Perm (k :: l) := by
      refine (p1.map kf).trans ?_
      rw [List.map_append, List.map_singleton, hk (knd.hash k, v) k hv]
      exact (List.perm_append_singleton k _).trans (R.pm.cons k)
    have d1 : (k :: l).Nodup := List.nodup_cons.mpr ⟨hm, R.nd⟩
    have l1 : w.params.followText "set-order" = true ∨ t1.led = true := R.ld.imp id fun z => p4.trans z
    refine wpAny_bind (rule_ok _ _ _ ?_)
    by_cases hp : t1.plain = true
    · rw [if_pos hp]
      refine wpAny_bind ?_
      rw [hashByValue_scannable 8 hs]
      refine wpAny_pure ?_
      refine tail_ok (l := k :: l) ?_ R.ob R.ex R.dt e1 m1 d1 room ?_ ?_ ?_ ?_
      · intro b s₁ G g
        cases b <;> first | exact wpAny_pure g | exact wpAny_rule g
      · first | exact p2 | (split <;> first | exact p2 | exact SetTable.fits_plain_off p2)
      · first | exact p3 | (split <;> exact p3)
      · first | exact l1 | (split <;> exact l1)
      · intro h' sb r
        exact wpAny_pure (q _ h' sb r)
    · rw [if_neg hp]
      refine wpAny_bind (wpAny_pure ?_)
      simp only [↓reduceIte]
      refine tail_ok (l := k :: l) ?_ R.ob R.ex R.dt e1 m1 d1 room p2 p3 l1 ?_
      · intro b s₁ G g
        cases b <;> first | exact wpAny_pure g | exact wpAny_rule g
      · intro h' sb r
        exact wpAny_pure (q _ h' sb r)
/-- the members so far -/
def ins [DecidableEq K] (l : List K) (k : K) : List K := if k ∈ l then l else k :: l
theorem ins_mem {l : List K} {k x : K} : x ∈ ins l k ↔ x ∈ l ∨ x = k := by
  unfold ins
  split
  · rename_i h
    exact ⟨.inl, fun z => z.elim id fun e => e ▸ h⟩
  · rw [List.mem_cons, or_comm]
theorem ins_nd {l : List K} {k : K} (h : l.Nodup) : (ins l k).Nodup := by
  unfold ins
  split
  · exact h
  · rename_i hn
    exact List.nodup_cons.mpr ⟨hn, h⟩
theorem fold_mem {x : K} : ∀ (ks l : List K), x ∈ ks.foldl ins l ↔ x ∈ l ∨ x ∈ ks
  | [], l => by simp
  | k :: ks, l => by
    rw [List.foldl_cons, fold_mem ks, ins_mem, List.mem_cons]
    constructor
    · rintro ((h | h) | h)
      · exact .inl h
      · exact .inr (.inl h)
      · exact .inr (.inr h)
    · rintro (h | h | h)
      · exact .inl (.inl h)
      · exact .inl (.inr h)
      · exact .inr h
theorem fold_nd : ∀ (ks l : List K), l.Nodup → (ks.foldl ins l).Nodup
  | [], _, h => h
  | k :: ks, l, h => fold_nd ks _ (ins_nd h)
theorem ins_le {l : List K} {k : K} : (ins l k).length ≤ l.length + 1 := by
  unfold ins
  split
  · exact Nat.le_succ _
  · exact Nat.le_refl _
theorem fold_le : ∀ (ks l : List K), (ks.foldl ins l).length ≤ l.length + ks.length
  | [], l => Nat.le_refl _
  | k :: ks, l => by
    have h1 := fold_le ks (ins l k)
    have h2 := ins_le (l := l) (k := k)
    rw [List.foldl_cons, List.length_cons]
    omega
/-- set.update's turns -/
theorem turns {C : Result → Shared → Prop} {I : Addr} {fp wr : List Addr} {G : Array GenState → Array GenState → Prop} {n : Nat} {Pv : Nat → Value → Prop} {T : Nat → Shared → Prop}
    (hk : Kf knd kf) (W : WalksS P w A.in1 I fp wr G n Pv T) (S : Addr) (hS : S ∉ fp) (ks : List K) (hn : ks.length = n) (hb : n + 1 < scanBound) (hv : ∀ i v, Pv i v → ∃ k, ks[i]? = some k ∧ knd.is k v = true ∧ v.scannable = true) :
    ∀ (m i : Nat) (s : Shared), n - i = m → i ≤ n → T i s → HasS knd kf s.heap S ((ks.take i).foldl ins []) →
      (∀ s', Moved (S :: wr) G s s' → HasS knd kf s'.heap S (ks.foldl ins []) → C (.ok (.ret .none)) s') →
      codeAny (model P w) A (.builtin "set.update.loop" ⟨[.ref S, .ref I], []⟩) C s := by
  have hw : S ∉ wr := fun z => hS (W.sub _ z)
  have hsb : ∀ b ∈ wr, b ∈ S :: wr := fun b z => List.mem_cons_of_mem _ z
  intro m
  induction m with
  | zero =>
    intro i s e1 e2 st R c
    obtain rfl : i = n := by omega
    refine codeAny_builtin PyProof.Rows.F.entry_set_update_loop ?_
    rw [Around.under_plainId PyProof.Rows.F.plain_set_update_loop _]
    refine wpAny_bind (m := pyNext (.ref I)) (W.done s _ _ st fun s' mv => ?_)
    rw [List.take_of_length_le (Nat.le_of_eq hn)] at R
    show wpAny _ A.in1 (ret Value.none) _ _ s'
    exact wpAny_pure (c s' (mv.mono hsb) (R.keep fun u z => mv.heap S u hw z))
  | succ m ih =>
    intro i s e1 e2 st R c
    have lt : i < n := by omega
    refine codeAny_builtin PyProof.Rows.F.entry_set_update_loop ?_
    rw [Around.under_plainId PyProof.Rows.F.plain_set_update_loop _]
    refine wpAny_bind (m := pyNext (.ref I)) (W.item i s _ _ lt st fun v s' pv st' mv => ?_)
    obtain ⟨k, hki, hkv, hsc⟩ := hv i v pv
    have R' := R.keep fun u z => mv.heap S u hw z
    have tk : (ks.take (i + 1)).foldl ins [] = ins ((ks.take i).foldl ins []) k := by
      rw [List.take_add_one, hki, List.foldl_append]
      rfl
    show wpAny _ A.in1 (holding [v] (setAdd S v) >>= _) _ _ s'
    refine wpAny_bind (wpAny_holding ?_)
    unfold setAdd
    refine wpAny_holding (wpAny_bind (knd.pyHash hkv ?_))
    refine add_ok (s := { s' with toks := s'.toks + 1 }) hk hkv hsc R' ?_ fun b h' sb R2 => ?_
    · have := fold_le (ks.take i) []
      rw [List.length_take] at this
      simp only [List.length_nil] at this
      omega
    refine wpAny_pure ⟨plainId_quiet PyProof.Rows.F.plain_set_update_loop _, ih (i + 1) _ (by omega) lt (W.frame _ s' _ _ st' (Nat.le_succ _) fun b hb o e => ?_) (by rw [tk]; exact R2) fun s2 mv2 R3 => c s2 ?_ R3⟩
    · exact (sb.2 b fun (z : b = S) => hS (z ▸ hb)).trans e
    · exact Moved.trans W.gtrans ((mv.mono hsb).then_heap (Nat.le_succ _) fun b o hb e => (sb.2 b fun (z : b = S) => hb (z ▸ List.mem_cons_self)).trans e) mv2
abbrev set0 (w : World) : Obj := { cls := .type "set", dict := none, data := .set #[] 0 (.fresh 0 0 (!w.params.followText "set-order")) }
theorem fresh_ok {h : Heap} {a : Addr} (ho : h.get? a = some (set0 w)) : HasS knd kf h a [] := by
  refine ⟨_, #[], 0, _, ho, ⟨rfl, rfl, rfl⟩, rfl, fun e he => (by cases he), List.Perm.nil, List.nodup_nil, rfl, List.Pairwise.nil, ?_⟩
  cases e : w.params.followText "set-order"
  · exact .inr rfl
  · exact .inl rfl
set_option maxHeartbeats 3200000 in
/-- set(xs) of a list -/
theorem call_set {L : Addr} {its : Array Value} {F : Value → Shared → Prop} (hk : Kf knd kf) (hh : A.handled = none) (hL : s.heap.IsList L its) (ks : List K) (hn : ks.length = its.size) (hb : its.size + 1 < scanBound)
    (hv : ∀ (i : Nat) (v : Value), its[i]? = some v → ∃ k, ks[i]? = some k ∧ knd.is k v = true ∧ v.scannable = true)
    (q : ∀ (h' : Heap) (tk : Nat), HasS knd kf h' s.heap.objs.size (ks.foldl ins []) → (∀ b u, s.heap.get? b = some u → h'.get? b = some u) → F (.ref s.heap.objs.size) { s with heap := h', toks := tk }) :
    wpAny (model P w) A (call (.type "set") [.ref L]) F E s := by
  obtain ⟨cc, tl0, hmro⟩ := PySem.F.called_set.mro
  have q1 := PySem.F.called_set.made
  have q2 := PySem.F.called_set.sub
  refine wpAny_call (codeAny_of_tree ?_)
  show wpAny _ _ (callAny (.type "set") _) _ _ _
  refine wpAny_pure ⟨Code.quiet_builtin _ (by decide +kernel), codeAny_builtin PySem.F.entry_type_call ?_⟩
  rw [Around.under_plain (weight_type_call_type "set" [.ref L] []) rfl]
  have q3 := PySem.F.called_set.notType
  have q4 := PySem.F.called_set.canCreate
  have q5 := PySem.F.typeCall_set_1 (.ref L)
  repeat (any_goals (first | assumption | wp_step))
  refine codeAny_mono (code_set_led1 (.ref L) (E := E) (Q₁ := fun b z => b = .ref s.heap.objs.size ∧ z = { s with heap := s.heap.push (set0 w) }) ⟨rfl, rfl⟩) fun r s1 g => ?_
  have newAt : (s.heap.push (set0 w)).get? s.heap.objs.size = some (set0 w) := Heap.get?_push_size _ rfl
  match r, g with
  | .error e, g => exact g
  | .ok .next, g => exact g.elim
  | .ok .brk, g => exact g.elim
  | .ok .cont, g => exact g.elim
  | .ok (.ret b), g =>
    obtain ⟨rfl, rfl⟩ := g
    have tyS : Shared.TypeIs { s with heap := s.heap.push (set0 w) } (.ref s.heap.objs.size) "set" := ⟨_, newAt, rfl⟩
    have q6 := PySem.F.called_set.init.lookup
    have q7 := PySem.F.called_set.init.bind (.ref s.heap.objs.size)
    repeat (any_goals (first | assumption | wp_step))
    refine codeAny_mono (codeAny_call_builtin (R := wants (fun r z => r = .none ∧ ∃ h' tk, z = { s with heap := h', toks := tk } ∧ HasS knd kf h' s.heap.objs.size (ks.foldl ins []) ∧ (∀ b u, s.heap.get? b = some u → h'.get? b = some u)) E) PySem.F.called_set.init.plain PySem.F.entry_set_init (check_set_init_1 tyS ?_)) fun r2 s2 g2 => ?_
    · obtain ⟨u, at0, cl0, n0, dt0⟩ := hL
      obtain ⟨uc, ud, ue, uf⟩ := u
      simp only at cl0 dt0
      subst cl0
      subst dt0
      have at1 : (s.heap.push (set0 w)).get? L = some { cls := .type "list", dict := ud, data := .seq its n0, slots := uf } := Heap.get?_push_of_some _ at0
      have q8 := PySem.F.sub_list_set
      have q9 := PySem.F.sub_list_frozenset
      have q10 : (Value.type "list" == Value.type "dict") = false := by decide
      have lst1 : (s.heap.push (set0 w)).IsList L its := ⟨_, at1, rfl, n0, rfl⟩
      unfold Builtin.«set.__init__» noKeywords Builtin.Frozenset.updateFrom
      generalize ePI : pyIter = PI
      wp_walk
      subst ePI
      refine wpAny_pyIter_list lst1 (wpAny_bind (wpAny_runValue ?_))
      have ltL : L < s.heap.objs.size := Heap.lt_size at0
      have sz1 : (s.heap.push (set0 w)).objs.size = s.heap.objs.size + 1 := Heap.size_push ..
      refine turns (A := A.in1.in1) hk ((Walks.list (by simp [hh]) _ L (by rw [sz1]; exact Nat.ne_of_lt (Nat.lt_succ_of_lt ltL)) its).toS) s.heap.objs.size ?n1 ks hn hb hv (its.size - 0) 0 _ (by omega) (Nat.zero_le _) ⟨⟨_, Heap.get?_push_size _ rfl, rfl, rfl⟩, lst1.push _⟩ (fresh_ok (w := w) (Heap.get?_push_of_some _ newAt)) fun s2 mv R => ?_
      case n1 =>
        rw [sz1]
        simp only [List.mem_cons, List.not_mem_nil, or_false, not_or]
        exact ⟨Nat.ne_of_lt (Nat.lt_succ_self _), Nat.ne_of_gt ltL⟩
      obtain ⟨h2, g2, d2, t2, o2⟩ := s2
      obtain rfl : g2 = s.gens := mv.gens
      obtain rfl : d2 = s.drawn := mv.drawn
      obtain rfl : o2 = s.os := mv.os
      show wpAny _ _ _ _ _ _
      refine wpAny_pure ?_
      show wpAny _ _ (ret Value.none) _ _ _
      refine wpAny_pure ⟨rfl, h2, t2, rfl, R, fun b u e => ?_⟩
      have ltb : b < s.heap.objs.size := Heap.lt_size e
      refine mv.heap b u ?_ (Heap.get?_push_of_some _ (Heap.get?_push_of_some _ e))
      rw [sz1]
      simp only [List.mem_cons, List.not_mem_nil, or_false, not_or]
      exact ⟨Nat.ne_of_lt ltb, Nat.ne_of_lt (Nat.lt_succ_of_lt ltb)⟩
    · match r2, g2 with
      | .error e, g2 => exact g2
      | .ok .next, g2 => exact g2.elim
      | .ok .brk, g2 => exact g2.elim
      | .ok .cont, g2 => exact g2.elim
      | .ok (.ret b), g2 =>
        obtain ⟨rfl, h', tk, rfl, R, kp⟩ := g2
        repeat (any_goals (first | assumption | wp_step))
        exact q h' tk R kp
end
end Y.St

set_option linter.all false
set_option maxRecDepth 100000
set_option Elab.async false
/-! YS: sorted(set(xs)) of texts and of ints. -/
namespace Y.St
open PySem PySem.Spec PyProof.Rows L2
def kS (e : Int × Value) : Str := strOf e.2
def intOf (v : Value) : Int := match v with
  | .int i _ => i
  | _ => 0
def kI (e : Int × Value) : Int := intOf e.2
section
variable {P : Program} {w : World}
theorem str_is {k : Str} {v : Value} (h : (PySem.strKind P w).is k v = true) : ∃ t, v = .str k t := by
  have h : Value.isStrOf k v = true := h
  cases v with
  | str x t =>
    have : x = k := by simpa [Value.isStrOf] using h
    exact ⟨t, by rw [this]⟩
  | _ => simp [Value.isStrOf] at h
theorem kS_ok : Kf (PySem.strKind P w) kS := fun e k h => by
  obtain ⟨t, h2⟩ := str_is h
  unfold kS
  rw [h2]
  rfl
theorem int_is {k : Int} {v : Value} (h : (PySem.intKind P w).is k v = true) : ∃ t, v = .int k t := by
  cases v with
  | int i t =>
    have h : (i == k) = true := h
    exact ⟨t, by rw [beq_iff_eq.mp h]⟩
  | _ => cases h
theorem kI_ok : Kf (PySem.intKind P w) kI := fun e k h => by
  obtain ⟨t, h2⟩ := int_is h
  unfold kI
  rw [h2]
  rfl
variable {A : Around} {E : Value → Shared → Prop} {s : Shared} {a : Addr}
/-- the new list is sorted in its place -/
theorem sorted_of {K : Type} [DecidableEq K] {knd : PySem.KeyKind P w K} {kf : Int × Value → K} {l : List K} {F : Value → Shared → Prop} (R : HasS knd kf s.heap a l) (hh : A.handled = none) (hz : l.length < scanBound)
    (Srt : List Value → Array Value → Prop)
    (srt : ∀ (s1 : Shared) (b : Addr) (vs : List Value) (G : PySem.Fin → Shared → Prop) (A1 : Around), s1.heap.get? b = some (seqObj "list" vs.toArray 0) → vs.length ≤ sizeLine → (∃ zs : List (Int × Value), ElemsOf knd zs ∧ (zs.map kf).Perm l ∧ vs.Perm (zs.map (·.2))) →
      (∀ out, Srt vs out → G (.done (.ret .none)) { s1 with heap := sortedHeap s1.heap b vs out }) → wpAny (model P w) A1 (Builtin.«list.sort» ⟨[.ref b], []⟩) G E s1)
    (q : ∀ s' p (out : Array Value) (c : Nat) (vs : List Value) (zs : List (Int × Value)), (∀ b u, s.heap.get? b = some u → s'.heap.get? b = some u) → s'.gens = s.gens → s'.os = s.os → s.heap.objs.size ≤ p →
      s'.heap.get? p = some (seqObj "list" out c) → ElemsOf knd zs → (zs.map kf).Perm l → vs.Perm (zs.map (·.2)) → Srt vs out → F (.ref p) s') :
    wpAny (model P w) A (call (.builtin "sorted") [.ref a]) F E s := by
  obtain ⟨o, zs, ep, t, R⟩ := R
  have z0 : zs.size < scanBound := by rw [R.size]; exact hz
  refine Calls.call_function_entry kind_sorted plain_sorted entry_sorted (args_sorted1 _) ?_
  unfold Builtin.«sorted»
  refine wpAny_bind (m := checkCount "sorted" 1 1 _) (wpAny_pure (wpAny_bind ?_))
  refine collect_set (A := A.in1) hh ⟨o, R.ob, R.ex.1, R.dt⟩ R.ft z0 R.ri R.ld fun s1 vs k1 k2 k3 k4 pm => ?_
  have zv : vs.length ≤ sizeLine := by
    rw [pm.length_eq, List.length_map, Array.length_toList]
    exact fits_of_scanBound z0
  refine wpAny_bind (wpAny_newList ?_ zv)
  have at1 : (s1.heap.push (seqObj "list" vs.toArray 0)).get? s1.heap.objs.size = some (seqObj "list" vs.toArray 0) := Heap.get?_push_size _ rfl
  refine wpAny_bind (wpAny_holding (wpAny_call_entry slot_list_sort ⟨_, at1, rfl⟩ entry_list_sort (srt _ _ vs _ _ at1 zv ⟨zs.toList, R.el, R.pm, pm⟩ fun out so => ⟨_, rfl, ?_⟩) (args_list_sort _)))
  obtain ⟨c, at2⟩ := sortedHeap_at (vs := vs) (out := out) at1
  refine wpAny_pure ⟨_, rfl, q _ s1.heap.objs.size out c vs zs.toList (fun b u e => ?_) k3 k4 k2 at2 R.el R.pm pm so⟩
  have e1 := k1 b u e
  have lt1 := Heap.lt_size e1
  show (sortedHeap (s1.heap.push (seqObj "list" vs.toArray 0)) s1.heap.objs.size vs out).get? b = some u
  rw [sortedHeap_old (Nat.ne_of_lt lt1) (by rw [size_push']; exact Nat.lt_succ_of_lt lt1)]
  exact Heap.get?_push_of_some _ e1
theorem strs_of {zs : List (Int × Value)} {vs : List Value} {l : List Str} (h1 : ElemsOf (PySem.strKind P w) zs) (h2 : (zs.map kS).Perm l) (h3 : vs.Perm (zs.map (·.2))) : StrsAre vs (vs.map strOf) ∧ (vs.map strOf).Perm l := by
  refine ⟨strsAre_map vs fun v hv => ?_, ?_⟩
  · obtain ⟨e, he, rfl⟩ := List.mem_map.mp (h3.mem_iff.mp hv)
    obtain ⟨⟨k, hk, _⟩, _⟩ := h1 e he
    obtain ⟨t, e2⟩ := str_is hk
    exact ⟨k, t, e2⟩
  · have := h3.map strOf
    rw [List.map_map] at this
    exact this.trans h2
/-- sorted(set), texts -/
theorem sortedS {l : List Str} {F : Value → Shared → Prop} (R : HasS (PySem.strKind P w) kS s.heap a l) (hh : A.handled = none) (hz : l.length < scanBound)
    (q : ∀ s' p (out : Array Value) (c : Nat) (ys : List Str), (∀ b u, s.heap.get? b = some u → s'.heap.get? b = some u) → s'.gens = s.gens → s'.os = s.os → s.heap.objs.size ≤ p → s'.heap.get? p = some (seqObj "list" out c) →
      StrsAre out.toList ys → ys.Perm l → PyProof.Rows.sortedS ys = true → F (.ref p) s') : wpAny (model P w) A (call (.builtin "sorted") [.ref a]) F E s := by
  refine sorted_of R hh hz (fun vs out => ∃ ys, StrsAre out.toList ys ∧ ys.Perm (vs.map strOf) ∧ PyProof.Rows.sortedS ys = true) ?_ fun s' p out c vs zs k1 k2 k3 k4 k5 e1 e2 e3 ⟨ys, y1, y2, y3⟩ => q s' p out c ys k1 k2 k3 k4 k5 y1 (y2.trans (strs_of e1 e2 e3).2) y3
  rintro s1 b vs G A1 at1 zv ⟨zs, e1, e2, e3⟩ g
  have hS := (strs_of e1 e2 e3).1
  refine list_sort_treeKAny strKind_oneLt at1 hS.keysOf (fun v₁ v₂ rest e => keyKind_strs (by rw [← e]; exact hS)) zv fun st' hp hs => ?_
  exact g _ (sorted_out_str hS hp hs)
theorem ints_of2 {zs : List (Int × Value)} {vs : List Value} {l : List Int} (h1 : ElemsOf (PySem.intKind P w) zs) (h2 : (zs.map kI).Perm l) (h3 : vs.Perm (zs.map (·.2))) : IntsAre vs (vs.map intOf) ∧ (vs.map intOf).Perm l := by
  constructor
  · have : ∀ us : List Value, (∀ v ∈ us, ∃ i t, v = Value.int i t) → IntsAre us (us.map intOf) := by
      intro us
      induction us with
      | nil => intro _; exact .nil
      | cons v us ih =>
        intro h
        obtain ⟨i, t, rfl⟩ := h v List.mem_cons_self
        exact .cons i t (ih fun u hu => h u (List.mem_cons_of_mem _ hu))
    refine this vs fun v hv => ?_
    obtain ⟨e, he, rfl⟩ := List.mem_map.mp (h3.mem_iff.mp hv)
    obtain ⟨⟨k, hk, _⟩, _⟩ := h1 e he
    obtain ⟨t, e2⟩ := int_is hk
    exact ⟨k, t, e2⟩
  · have := h3.map intOf
    rw [List.map_map] at this
    exact this.trans h2
/-- sorted(set), ints -/
theorem sortedI {l : List Int} {F : Value → Shared → Prop} (R : HasS (PySem.intKind P w) kI s.heap a l) (hh : A.handled = none) (hz : l.length < scanBound)
    (q : ∀ s' p (out : Array Value) (c : Nat) (ys : List Int), (∀ b u, s.heap.get? b = some u → s'.heap.get? b = some u) → s'.gens = s.gens → s'.os = s.os → s.heap.objs.size ≤ p → s'.heap.get? p = some (seqObj "list" out c) →
      IntsAre out.toList ys → ys.Perm l → ys.Pairwise (· ≤ ·) → F (.ref p) s') : wpAny (model P w) A (call (.builtin "sorted") [.ref a]) F E s := by
  refine sorted_of R hh hz (fun vs out => ∃ ys, IntsAre out.toList ys ∧ ys.Perm (vs.map intOf) ∧ ys.Pairwise (· ≤ ·)) ?_ fun s' p out c vs zs k1 k2 k3 k4 k5 e1 e2 e3 ⟨ys, y1, y2, y3⟩ => q s' p out c ys k1 k2 k3 k4 k5 y1 (y2.trans (ints_of2 e1 e2 e3).2) y3
  rintro s1 b vs G A1 at1 zv ⟨zs, e1, e2, e3⟩ g
  exact list_sort_treeAny at1 (ints_of2 e1 e2 e3).1 zv fun out ns h1 h2 h3 => g out ⟨ns, h1, h2, h3⟩
end
end Y.St

set_option linter.all false
set_option maxRecDepth 100000
set_option Elab.async false
/-! YT: min and max of two texts. -/
namespace Y.St
open PySem PySem.Spec PyProof.Rows L2
section
variable {P : Program} {w : World} {A : Around} {E : Value → Shared → Prop} {s : Shared}
def two2 (x y : Str) (i : Nat) : Str := if i = 0 then x else y
theorem cmp_lt {Pv : Nat → Value → Prop} (val : Nat → Str) (hv : ∀ i v, Pv i v → ∃ t, v = .str (val i) t) : CmpOf P w A .Lt Pv (fun i j => decide ((val i).cps.toList < (val j).cps.toList)) := fun i j vi vj s Q E hi hj h => by
  obtain ⟨t, rfl⟩ := hv i vi hi
  obtain ⟨u, rfl⟩ := hv j vj hj
  exact richCompare_gives (op := .Lt) (typeIs_str s _ t) (typeIs_str s _ u) F.slot_str_lt F.entry_str_lt (F.args_str_lt_2 _ _) (gives_str_lt _ _ t u) (fun x => nomatch x) h
theorem cmp_gt {Pv : Nat → Value → Prop} (val : Nat → Str) (hv : ∀ i v, Pv i v → ∃ t, v = .str (val i) t) : CmpOf P w A .Gt Pv (fun i j => decide ((val j).cps.toList < (val i).cps.toList)) := fun i j vi vj s Q E hi hj h => by
  obtain ⟨t, rfl⟩ := hv i vi hi
  obtain ⟨u, rfl⟩ := hv j vj hj
  exact richCompare_gives (op := .Gt) (typeIs_str s _ t) (typeIs_str s _ u) F.slot_str_gt F.entry_str_gt (F.args_str_gt_2 _ _) (gives_str_gt _ _ t u) (fun x => nomatch x) h
theorem min_strs {x y : Str} {t u : Tok} {F : Value → Shared → Prop} (hh : A.handled = none) (h : ∀ h' tk, (∀ c o, s.heap.get? c = some o → h'.get? c = some o) → F (if (y.cps.toList < x.cps.toList) then .str y u else .str x t) { s with heap := h', toks := tk }) :
    wpAny (model P w) A (call (.builtin "min") [.str x t, .str y u]) F E s := by
  have tu : (s.heap.push { cls := .type "tuple", data := .seq #[.str x t, .str y u] }).IsTuple s.heap.objs.size #[.str x t, .str y u] := ⟨_, Heap.get?_push_size _ rfl, rfl, 0, rfl⟩
  have z1 : (s.heap.push { cls := .type "tuple", data := .seq #[.str x t, .str y u] }).objs.size = s.heap.objs.size + 1 := Heap.size_push ..
  have at2 : ∀ (i : Nat) (v : Value), (#[Value.str x t, .str y u] : Array Value)[i]? = some v → ∃ t, v = .str (two2 x y i) t := fun i v e => by
    match i with
    | 0 => exact ⟨t, (Option.some.inj (show some (Value.str x t) = some v from e)).symm⟩
    | 1 => exact ⟨u, (Option.some.inj (show some (Value.str y u) = some v from e)).symm⟩
    | i + 2 => simp at e
  refine call_min_two (wpAny_pyIter_tuple tu ⟨_, [_, s.heap.objs.size], [_], _, _, _, _, rfl, Walks.tuple (A := A.in1) hh _ s.heap.objs.size (by rw [z1]; exact Nat.ne_of_lt (Nat.lt_succ_self _)) _, ⟨⟨_, Heap.get?_push_size _ rfl, rfl, rfl⟩, tu.push _⟩, fun c hc => ?_, (by decide : 0 < 2), cmp_lt (two2 x y) at2, fun v h' tk pv kp => ?_⟩)
  · show c < ((s.heap.push _).push _).objs.size
    rw [Heap.size_push, z1]
    simp only [List.mem_cons, List.not_mem_nil, or_false] at hc
    rcases hc with rfl | rfl
    · rw [z1]; exact Nat.lt_succ_self _
    · exact Nat.lt_succ_of_lt (Nat.lt_succ_self _)
  · have old : ∀ c o, s.heap.get? c = some o → h'.get? c = some o := fun c o e => by
      refine kp c o (fun hm => ?_) (Heap.get?_push_of_some _ (Heap.get?_push_of_some _ e))
      have l1 := Heap.lt_size e
      rw [List.mem_singleton.mp hm, z1] at l1
      exact Nat.lt_irrefl _ (Nat.lt_of_succ_lt l1)
    have g := h h' tk old
    refine Eq.mp (congrArg (fun v => F v _) ?_) g
    have e1 : (#[Value.str x t, .str y u] : Array Value)[argBest (fun i j => decide ((two2 x y i).cps.toList < (two2 x y j).cps.toList)) 1]? = some v := pv
    by_cases c : (y.cps.toList < x.cps.toList)
    · rw [show argBest (fun i j => decide ((two2 x y i).cps.toList < (two2 x y j).cps.toList)) 1 = 1 by simp [argBest, two2, c]] at e1
      rw [if_pos c]
      simpa using e1
    · rw [show argBest (fun i j => decide ((two2 x y i).cps.toList < (two2 x y j).cps.toList)) 1 = 0 by simp [argBest, two2, c]] at e1
      rw [if_neg c]
      simpa using e1
theorem max_strs {x y : Str} {t u : Tok} {F : Value → Shared → Prop} (hh : A.handled = none) (h : ∀ h' tk, (∀ c o, s.heap.get? c = some o → h'.get? c = some o) → F (if (x.cps.toList < y.cps.toList) then .str y u else .str x t) { s with heap := h', toks := tk }) :
    wpAny (model P w) A (call (.builtin "max") [.str x t, .str y u]) F E s := by
  have tu : (s.heap.push { cls := .type "tuple", data := .seq #[.str x t, .str y u] }).IsTuple s.heap.objs.size #[.str x t, .str y u] := ⟨_, Heap.get?_push_size _ rfl, rfl, 0, rfl⟩
  have z1 : (s.heap.push { cls := .type "tuple", data := .seq #[.str x t, .str y u] }).objs.size = s.heap.objs.size + 1 := Heap.size_push ..
  have at2 : ∀ (i : Nat) (v : Value), (#[Value.str x t, .str y u] : Array Value)[i]? = some v → ∃ t, v = .str (two2 x y i) t := fun i v e => by
    match i with
    | 0 => exact ⟨t, (Option.some.inj (show some (Value.str x t) = some v from e)).symm⟩
    | 1 => exact ⟨u, (Option.some.inj (show some (Value.str y u) = some v from e)).symm⟩
    | i + 2 => simp at e
  refine call_max_two (wpAny_pyIter_tuple tu ⟨_, [_, s.heap.objs.size], [_], _, _, _, _, rfl, Walks.tuple (A := A.in1) hh _ s.heap.objs.size (by rw [z1]; exact Nat.ne_of_lt (Nat.lt_succ_self _)) _, ⟨⟨_, Heap.get?_push_size _ rfl, rfl, rfl⟩, tu.push _⟩, fun c hc => ?_, (by decide : 0 < 2), cmp_gt (two2 x y) at2, fun v h' tk pv kp => ?_⟩)
  · show c < ((s.heap.push _).push _).objs.size
    rw [Heap.size_push, z1]
    simp only [List.mem_cons, List.not_mem_nil, or_false] at hc
    rcases hc with rfl | rfl
    · rw [z1]; exact Nat.lt_succ_self _
    · exact Nat.lt_succ_of_lt (Nat.lt_succ_self _)
  · have old : ∀ c o, s.heap.get? c = some o → h'.get? c = some o := fun c o e => by
      refine kp c o (fun hm => ?_) (Heap.get?_push_of_some _ (Heap.get?_push_of_some _ e))
      have l1 := Heap.lt_size e
      rw [List.mem_singleton.mp hm, z1] at l1
      exact Nat.lt_irrefl _ (Nat.lt_of_succ_lt l1)
    have g := h h' tk old
    refine Eq.mp (congrArg (fun v => F v _) ?_) g
    have e1 : (#[Value.str x t, .str y u] : Array Value)[argBest (fun i j => decide ((two2 x y j).cps.toList < (two2 x y i).cps.toList)) 1]? = some v := pv
    by_cases c : (x.cps.toList < y.cps.toList)
    · rw [show argBest (fun i j => decide ((two2 x y j).cps.toList < (two2 x y i).cps.toList)) 1 = 1 by simp [argBest, two2, c]] at e1
      rw [if_pos c]
      simpa using e1
    · rw [show argBest (fun i j => decide ((two2 x y j).cps.toList < (two2 x y i).cps.toList)) 1 = 0 by simp [argBest, two2, c]] at e1
      rw [if_neg c]
      simpa using e1
end
variable {X : Cx}
theorem cr_min2S (hc : X.calm = true) : CallR X (.builtin "min") (fun xs H Q => ∃ i j, xs = [V.str i, .str j] ∧ Q (.str (if j.cps.toList < i.cps.toList then j else i)) H) := by
  intro pins s σ H xs us Q I r h
  obtain ⟨i, j, rfl, q⟩ := h
  obtain ⟨u, v, rfl, ⟨t, rfl⟩, ⟨t', rfl⟩⟩ := vals2 r
  refine min_strs (I.ok.hd hc) fun h' tk k => ⟨_, H, I.kept k, ?_, q⟩
  split
  · exact ⟨_, rfl⟩
  · exact ⟨_, rfl⟩
theorem cr_max2S (hc : X.calm = true) : CallR X (.builtin "max") (fun xs H Q => ∃ i j, xs = [V.str i, .str j] ∧ Q (.str (if i.cps.toList < j.cps.toList then j else i)) H) := by
  intro pins s σ H xs us Q I r h
  obtain ⟨i, j, rfl, q⟩ := h
  obtain ⟨u, v, rfl, ⟨t, rfl⟩, ⟨t', rfl⟩⟩ := vals2 r
  refine max_strs (I.ok.hd hc) fun h' tk k => ⟨_, H, I.kept k, ?_, q⟩
  split
  · exact ⟨_, rfl⟩
  · exact ⟨_, rfl⟩
end Y.St

set_option linter.all false
set_option maxRecDepth 100000
set_option Elab.async false
/-! YU: sorted lists without repetition are one. -/
namespace Y
open PySem
theorem str_ext {a b : Str} (h : a.cps.toList = b.cps.toList) : a = b := by
  cases a; cases b
  exact congrArg Str.mk (Array.toList_inj.mp h)
/-- a strict order -/
structure Ord {α : Type} (lt : α → α → Bool) : Prop where
  as : ∀ a b, lt a b = true → lt b a = false
  tr : ∀ a b c, lt b a = false → lt c b = false → lt c a = false
  eq : ∀ a b, lt a b = false → lt b a = false → a = b
theorem sorted_one {α : Type} {lt : α → α → Bool} (O : Ord lt) : ∀ {xs ys : List α}, xs.Perm ys → xs.Pairwise (fun a b => lt b a = false) → ys.Pairwise (fun a b => lt b a = false) → xs = ys
  | [], ys, p, _, _ => by rw [List.nil_perm.mp p]
  | x :: xs, [], p, _, _ => absurd p.length_eq (by simp)
  | x :: xs, y :: ys, p, h1, h2 => by
    rw [List.pairwise_cons] at h1 h2
    have e : x = y := by
      have m1 : x ∈ y :: ys := p.mem_iff.mp List.mem_cons_self
      have m2 : y ∈ x :: xs := p.mem_iff.mpr List.mem_cons_self
      rcases List.mem_cons.mp m1 with e | m1
      · exact e
      rcases List.mem_cons.mp m2 with e | m2
      · exact e.symm
      exact O.eq x y (h2.1 x m1) (h1.1 y m2)
    subst e
    rw [sorted_one O (List.Perm.cons_inv p) h1.2 h2.2]
def ltS (a b : Str) : Bool := decide (a.cps.toList < b.cps.toList)
theorem ordS : Ord ltS where
  as := fun a b h => decide_eq_false (fun h2 => List.lt_irrefl _ (List.lt_trans (of_decide_eq_true h) h2))
  tr := fun a b c h1 h2 => by
    have h1 := of_decide_eq_false h1
    have h2 := of_decide_eq_false h2
    exact decide_eq_false (List.not_lt.mpr (List.le_trans (List.not_lt.mp h1) (List.not_lt.mp h2)))
  eq := fun a b h1 h2 => by
    have h1 := of_decide_eq_false h1
    have h2 := of_decide_eq_false h2
    exact str_ext (List.le_antisymm (List.not_lt.mp h2) (List.not_lt.mp h1))
def ltI (a b : Int) : Bool := decide (a < b)
theorem ordI : Ord ltI where
  as := fun a b h => decide_eq_false (by have := of_decide_eq_true h; omega)
  tr := fun a b c h1 h2 => decide_eq_false (by have h1 := of_decide_eq_false h1; have h2 := of_decide_eq_false h2; omega)
  eq := fun a b h1 h2 => by have h1 := of_decide_eq_false h1; have h2 := of_decide_eq_false h2; omega
theorem sortP_of {α : Type} {lt : α → α → Bool} (O : Ord lt) {f : α → P} (hf : ∀ a b, ltP (f a) (f b) = lt a b) (as : List α) : ∃ bs : List α, sortP (as.map f) = bs.map f ∧ bs.Perm as ∧ bs.Pairwise (fun a b => lt b a = false) := by
  refine ⟨as.mergeSort fun a b => !lt b a, ?_, List.mergeSort_perm .., ?_⟩
  · unfold sortP
    rw [List.map_mergeSort]
    intro a _ b _
    rw [hf]
  · refine (List.pairwise_mergeSort ?_ ?_ as).imp fun h => by simpa using h
    · intro a b c h1 h2
      rw [Bool.not_eq_true'] at h1 h2 ⊢
      exact O.tr a b c h1 h2
    · intro a b
      rw [Bool.or_eq_true, Bool.not_eq_true', Bool.not_eq_true']
      cases h : lt b a with
      | false => exact .inl rfl
      | true => exact .inr (O.as _ _ h)
theorem dedup_of {α : Type} [DecidableEq α] {f : α → P} (he : ∀ a b, eqv (f a) (f b) = decide (a = b)) : ∀ as : List α, ∃ bs : List α, dedup (as.map f) = bs.map f ∧ bs.Nodup ∧ ∀ x, x ∈ bs ↔ x ∈ as
  | [] => ⟨[], rfl, List.nodup_nil, fun x => Iff.rfl⟩
  | a :: as => by
    obtain ⟨bs, h1, h2, h3⟩ := dedup_of he as
    refine ⟨a :: bs.filter (fun b => !decide (b = a)), ?_, ?_, fun x => ?_⟩
    · rw [List.map_cons, dedup, h1, List.filter_map, List.map_cons]
      congr 2
      refine List.filter_congr fun b _ => ?_
      show (!eqv (f b) (f a)) = _
      rw [he]
    · rw [List.nodup_cons]
      exact ⟨fun h => by simp at h, h2.sublist List.filter_sublist⟩
    · rw [List.mem_cons, List.mem_cons, List.mem_filter, h3]
      by_cases e : x = a
      · simp [e]
      · simp [e]
/-- the one sorted list of these, each once -/
theorem sset_one {α : Type} [DecidableEq α] {lt : α → α → Bool} (O : Ord lt) {f : α → P} (hf : ∀ a b, ltP (f a) (f b) = lt a b) (he : ∀ a b, eqv (f a) (f b) = decide (a = b)) {as ys : List α} (h1 : ys.Nodup) (h2 : ∀ x, x ∈ ys ↔ x ∈ as) (h3 : ys.Pairwise (fun a b => lt b a = false)) : sortP (dedup (as.map f)) = ys.map f := by
  obtain ⟨bs, b1, b2, b3⟩ := dedup_of he as
  obtain ⟨cs, c1, c2, c3⟩ := sortP_of O hf bs
  rw [b1, c1]
  congr 1
  refine sorted_one O ((c2.trans ((List.perm_ext_iff_of_nodup b2 h1).mpr fun x => ?_))) c3 h3
  rw [b3, h2]
theorem ltP_str (a b : Str) : ltP (.str a) (.str b) = ltS a b := rfl
theorem eqv_str (a b : Str) : eqv (.str a) (.str b) = decide (a = b) := rfl
theorem ltP_int (a b : Int) : ltP (.int a) (.int b) = ltI a b := rfl
theorem eqv_int (a b : Int) : eqv (.int a) (.int b) = decide (a = b) := rfl
theorem sortedS_pw : ∀ (l : List Str), PyProof.Rows.sortedS l = true → l.Pairwise (fun a b => ltS b a = false)
  | [], _ => .nil
  | x :: r, h => by
    suffices z : ∀ (r : List Str) (x : Str), PyProof.Rows.risingS x r = true → (x :: r).Pairwise (fun a b => ltS b a = false) from z r x h
    clear h r x
    intro r
    induction r with
    | nil => intro x _; simp
    | cons y r ih =>
      intro x h
      rw [PyProof.Rows.risingS, Bool.and_eq_true, PyProof.Rows.ltCps_eq] at h
      have h1 : ltS y x = false := by simpa [ltS] using h.1
      have h2 := ih y h.2
      rw [List.pairwise_cons]
      refine ⟨fun z hz => ?_, h2⟩
      rcases List.mem_cons.mp hz with rfl | hz
      · exact h1
      · exact ordS.tr _ _ _ h1 ((List.pairwise_cons.mp h2).1 z hz)
end Y

set_option linter.all false
set_option maxRecDepth 100000
set_option Elab.async false
/-! YA: built-in functions. -/
namespace Y
open PySem L2 PySem.SeqAt
variable {cad : En}

/-- what we ask of the place where code runs, more -/
structure XOk2 (X : Cx) : Prop extends XOk X where
  gd : X.A.guards = some []
  sm : SysK X.K

def biV : Bi → Value
  | .len => .builtin "len"
  | .int => .type "int"
  | .str => .type "str"
  | .repr => .builtin "repr"
  | .list => .type "list"
  | .tuple => .type "tuple"
  | .dict => .type "dict"
  | .sorted => .builtin "sorted"
  | .min2 => .builtin "min"
  | .max2 => .builtin "max"
  | .sum => .builtin "sum"
  | .abs => .builtin "abs"
  | .isInt => .builtin "isinstance"
  | .isList => .builtin "isinstance"
  | .any => .builtin "any"
  | .all => .builtin "all"
  | .minL => .builtin "min"
  | .maxL => .builtin "max"
/-- the argument that the call writes more -/
def biX : Bi → List V
  | .isInt => [.ty "int"]
  | .isList => [.ty "list"]
  | _ => []
section
variable {X : Cx} {w : Wd} {st st' : Store} {x y z : Val} {a b : V} {Q : VK}
theorem rvl1 {K : PySem.W.Frag} {F : Hp} {tops : List Addr} {xs : List V} {x : Val} (r : RvL K cad F tops xs [x]) : ∃ v, xs = [v] ∧ Rv K cad F tops v x := by
  cases r with
  | cons r1 r2 => cases r2; exact ⟨_, rfl, r1⟩
theorem rvl2 {K : PySem.W.Frag} {F : Hp} {tops : List Addr} {xs : List V} {x y : Val} (r : RvL K cad F tops xs [x, y]) : ∃ v u, xs = [v, u] ∧ Rv K cad F tops v x ∧ Rv K cad F tops u y := by
  cases r with
  | cons r1 r2 =>
    obtain ⟨u, rfl, r3⟩ := rvl1 r2
    exact ⟨_, u, rfl, r1, r3⟩
theorem dic_len {K : PySem.W.Frag} {d : Addr} {kvs : List (Kx × Val)} (h : DicR K cad w d kvs) : (∃ ks : List (Key × V), Rd w.H d (.dK ks) ∧ ks.length = kvs.length) ∨ ∃ ks : List (List Key × V), Rd w.H d (.dT ks) ∧ ks.length = kvs.length := by
  rcases h with ⟨ks, h1, h2, _⟩ | ⟨ks, h1, ⟨h2, _⟩, _⟩
  · exact .inl ⟨ks, h1, by have := congrArg List.length h2; simpa using this.symm⟩
  · exact .inr ⟨ks, h1, by have := congrArg List.length h2; simpa using this.symm⟩
/-- a dict without tuples for keys -/
theorem dic_flat {K : PySem.W.Frag} {d : Addr} {kvs : List (Kx × Val)} (h : DicR K cad w d kvs) (hf : (kvs.all fun q => flatK q.1) = true) : ∃ ks : List (Key × V), Rd w.H d (.dK ks) ∧ kvs.map (·.1) = ks.map (fun q => Kx.k q.1) ∧ RvLW K cad w (ks.map (·.2)) (kvs.map (·.2)) := by
  rcases h with h | ⟨ks, h1, ⟨h2, h4⟩, h3⟩
  · exact h
  · cases kvs with
    | nil => cases ks with
      | nil => exact absurd rfl h4
      | cons _ _ => cases h2
    | cons q r => cases ks with
      | nil => cases h2
      | cons p ps =>
        simp only [List.map_cons, List.cons.injEq] at h2
        simp [h2.1, flatK] at hf
theorem sum_ints : ∀ {ps : List P} {is : List Int} {xs : List V} {K : PySem.W.Frag} {H : Hp}, intsOf ps = some is → RpL K cad H xs ps → xs = is.map V.int
  | [], is, xs, K, H, e, r => by cases e; cases r; rfl
  | p :: ps, is, xs, K, H, e, r => by
    cases r with
    | cons r1 r2 =>
      cases r1 with
      | int i =>
        obtain ⟨js, h1, h2⟩ := Option.map_eq_some_iff.mp (show (intsOf ps).map (i :: ·) = some is from e)
        subst h2
        rw [sum_ints h1 r2]; rfl
      | _ => cases e
theorem bls_of : ∀ {ps : List P} {is : List Bool} {xs : List V} {K : PySem.W.Frag} {H : Hp}, blsOf ps = some is → RpL K cad H xs ps → xs = is.map V.bl
  | [], is, xs, K, H, e, r => by cases e; cases r; rfl
  | p :: ps, is, xs, K, H, e, r => by
    cases r with
    | cons r1 r2 =>
      cases r1 with
      | bl i =>
        obtain ⟨js, h1, h2⟩ := Option.map_eq_some_iff.mp (show (blsOf ps).map (i :: ·) = some is from e)
        subst h2
        rw [bls_of h1 r2]; rfl
      | _ => cases e
theorem min_fold : ∀ (is : List Int) (i m : Int), m ∈ i :: is → (∀ y, y ∈ i :: is → m ≤ y) → is.foldl (fun a b => if b < a then b else a) i = m
  | [], i, m, h1, _ => by simp at h1; exact h1.symm
  | j :: is, i, m, h1, h2 => by
    rw [List.foldl_cons]
    have a1 := h2 i (by simp)
    have a2 := h2 j (by simp)
    refine min_fold is _ m ?_ fun y hy => ?_
    · simp only [List.mem_cons] at h1 ⊢
      rcases h1 with rfl | rfl | h1
      · left; rw [if_neg (by omega)]
      · left; by_cases c : m < i
        · rw [if_pos c]
        · rw [if_neg c]; omega
      · exact .inr h1
    · rcases List.mem_cons.mp hy with rfl | hy
      · split <;> assumption
      · exact h2 y (by simp [hy])
theorem max_fold : ∀ (is : List Int) (i m : Int), m ∈ i :: is → (∀ y, y ∈ i :: is → y ≤ m) → is.foldl (fun a b => if b > a then b else a) i = m
  | [], i, m, h1, _ => by simp at h1; exact h1.symm
  | j :: is, i, m, h1, h2 => by
    rw [List.foldl_cons]
    have a1 := h2 i (by simp)
    have a2 := h2 j (by simp)
    refine max_fold is _ m ?_ fun y hy => ?_
    · simp only [List.mem_cons] at h1 ⊢
      rcases h1 with rfl | rfl | h1
      · left; rw [if_neg (by omega)]
      · left; by_cases c : m > i
        · rw [if_pos c]
        · rw [if_neg c]; omega
      · exact .inr h1
    · rcases List.mem_cons.mp hy with rfl | hy
      · split <;> assumption
      · exact h2 y (by simp [hy])
/-- isinstance -/
theorem isi_ok {T : String} {k : Bool} {t : Value} {Pr : Heap → Prop} (hp : ∀ (s : Shared) (pins : List (Addr × Obj)) (σ : L2.St), Inv X pins σ w.H s → ∀ u, RelV a u → PySem.W.KitX X.K u t Pr ∧ Pr s.heap ∧ u ≠ .builtin "__main__.__loader__#opaque") (e : PySem.W.kitOne X.K t (.type T) = some k) (q : Q (.bl k) w.H) :
    WCall X (.builtin "isinstance") [a, .ty T] w.H Q := by
  intro pins s σ us I r
  obtain ⟨u1, u2, rfl, r1, r2⟩ := vals2 r
  cases r2
  obtain ⟨P1, Z, n⟩ := hp s pins σ I u1 r1
  exact PySem.W.kia_one P1 I.kIn Z e n fun tk => ⟨.bl k, w.H, I.tok tk, rfl, q⟩
theorem kit_seqL {l : Addr} {vs : List V} (h : SqL X.K w.H l vs) : ∀ (s : Shared) (pins : List (Addr × Obj)) (σ : L2.St), Inv X pins σ w.H s → ∀ u, RelV (.ref l) u → PySem.W.KitX X.K u (.type "list") (fun hp => ∃ o, hp.get? l = some o ∧ o.cls = .type "list") ∧ (∃ o, s.heap.get? l = some o ∧ o.cls = .type "list") ∧ u ≠ .builtin "__main__.__loader__#opaque" := by
  intro s pins σ I u r
  cases r
  obtain ⟨_, _, pl, _⟩ := I.list h
  obtain ⟨o, h1, h2, _⟩ := pl.isList
  exact ⟨PySem.W.kitx_list, ⟨o, h1, h2⟩, fun z => nomatch z⟩
theorem kit_seqT {l : Addr} {vs : List V} (h : SqT X.K w.H l vs) : ∀ (s : Shared) (pins : List (Addr × Obj)) (σ : L2.St), Inv X pins σ w.H s → ∀ u, RelV (.ref l) u → PySem.W.KitX X.K u (.type "tuple") (fun hp => ∃ o, hp.get? l = some o ∧ o.cls = .type "tuple") ∧ (∃ o, s.heap.get? l = some o ∧ o.cls = .type "tuple") ∧ u ≠ .builtin "__main__.__loader__#opaque" := by
  intro s pins σ I u r
  cases r
  obtain ⟨_, _, ⟨o, h1, h2, _⟩, _⟩ := I.tuple h
  exact ⟨PySem.W.kitx_tuple, ⟨o, h1, h2⟩, fun z => nomatch z⟩
theorem kit_dic {l : Addr} {kvs : List (Kx × Val)} (h : DicR X.K cad w l kvs) : ∀ (s : Shared) (pins : List (Addr × Obj)) (σ : L2.St), Inv X pins σ w.H s → ∀ u, RelV (.ref l) u → PySem.W.KitX X.K u (.type "dict") (fun hp => ∃ o, hp.get? l = some o ∧ o.cls = .type "dict") ∧ (∃ o, s.heap.get? l = some o ∧ o.cls = .type "dict") ∧ u ≠ .builtin "__main__.__loader__#opaque" := by
  intro s pins σ I u r
  cases r
  refine ⟨PySem.W.kitx_dict, ?_, fun z => nomatch z⟩
  rcases h with ⟨ks, h1, _⟩ | ⟨ks, h1, _⟩
  · obtain ⟨_, _, _, _, o, _, _, h1, h2, _⟩ := dk_rd I.hok h1
    exact ⟨o, h1, h2.1⟩
  · obtain ⟨_, _, _, _, o, _, _, h1, h2, _⟩ := dt_rd I.hok h1
    exact ⟨o, h1, h2.1⟩
theorem kit_int {i : Int} : ∀ (s : Shared) (pins : List (Addr × Obj)) (σ : L2.St), Inv X pins σ w.H s → ∀ u, RelV (.int i) u → PySem.W.KitX X.K u (.type "int") (fun _ => True) ∧ True ∧ u ≠ .builtin "__main__.__loader__#opaque" := by
  intro s pins σ I u r
  obtain ⟨t, rfl⟩ := r
  exact ⟨PySem.W.kitx_int, trivial, fun z => nomatch z⟩
theorem kit_str {i : Str} : ∀ (s : Shared) (pins : List (Addr × Obj)) (σ : L2.St), Inv X pins σ w.H s → ∀ u, RelV (.str i) u → PySem.W.KitX X.K u (.type "str") (fun _ => True) ∧ True ∧ u ≠ .builtin "__main__.__loader__#opaque" := by
  intro s pins σ I u r
  obtain ⟨t, rfl⟩ := r
  exact ⟨PySem.W.kitx_str, trivial, fun z => nomatch z⟩
theorem kit_bl {i : Bool} : ∀ (s : Shared) (pins : List (Addr × Obj)) (σ : L2.St), Inv X pins σ w.H s → ∀ u, RelV (.bl i) u → PySem.W.KitX X.K u (.type "bool") (fun _ => True) ∧ True ∧ u ≠ .builtin "__main__.__loader__#opaque" := by
  intro s pins σ I u r
  cases r
  exact ⟨PySem.W.kitx_bool, trivial, fun z => nomatch z⟩
theorem k1 {K : PySem.W.Frag} : PySem.W.kitOne K (.type "list") (.type "list") = some true := by rfl
theorem k2 {K : PySem.W.Frag} : PySem.W.kitOne K (.type "tuple") (.type "list") = some false := by rfl
theorem k3 {K : PySem.W.Frag} : PySem.W.kitOne K (.type "dict") (.type "list") = some false := by rfl
theorem k4 {K : PySem.W.Frag} : PySem.W.kitOne K (.type "int") (.type "list") = some false := by rfl
theorem k5 {K : PySem.W.Frag} : PySem.W.kitOne K (.type "str") (.type "list") = some false := by rfl
theorem j1 {K : PySem.W.Frag} : PySem.W.kitOne K (.type "int") (.type "int") = some true := by rfl
theorem j2 {K : PySem.W.Frag} : PySem.W.kitOne K (.type "bool") (.type "int") = some true := by rfl
theorem j3 {K : PySem.W.Frag} : PySem.W.kitOne K (.type "str") (.type "int") = some false := by rfl
theorem j4 {K : PySem.W.Frag} : PySem.W.kitOne K (.type "list") (.type "int") = some false := by rfl
theorem j5 {K : PySem.W.Frag} : PySem.W.kitOne K (.type "tuple") (.type "int") = some false := by rfl
theorem j6 {K : PySem.W.Frag} : PySem.W.kitOne K (.type "dict") (.type "int") = some false := by rfl

variable {xs : List V} {vs : List Val} {o : Bool} {bb : Bi}
theorem isInt_ok (e : bi o .isInt [x] st = some (z, st')) (s : SR X.K cad w st) (ra : RvW X.K cad w a x) (q : Post X cad w st' z Q) : WCall X (.builtin "isinstance") [a, .ty "int"] w.H Q := by
  simp only [bi] at e
  cases v1 : view st x with
  | none => rw [v1] at e; cases e
  | some u =>
    have h := view_ok s ra v1
    rw [v1] at e
    cases u with
    | int i => obtain rfl : a = .int i := h; cases e; exact isi_ok kit_int j1 (q.bl s)
    | bl i => obtain rfl : a = .bl i := h; cases e; exact isi_ok kit_bl j2 (q.bl s)
    | str i => obtain rfl : a = .str i := h; cases e; exact isi_ok kit_str j3 (q.bl s)
    | seqL ys => obtain ⟨l, vs, rfl, hl, _⟩ := h; cases e; exact isi_ok (kit_seqL hl) j4 (q.bl s)
    | seqT ys => obtain ⟨l, vs, rfl, hl, _⟩ := h; cases e; exact isi_ok (kit_seqT (w.ext.t hl).sq) j5 (q.bl s)
    | dic ys => obtain ⟨l, rfl, hl⟩ := h; cases e; exact isi_ok (kit_dic hl) j6 (q.bl s)
    | _ => cases e
theorem isList_ok (e : bi o .isList [x] st = some (z, st')) (s : SR X.K cad w st) (ra : RvW X.K cad w a x) (q : Post X cad w st' z Q) : WCall X (.builtin "isinstance") [a, .ty "list"] w.H Q := by
  simp only [bi] at e
  cases v1 : view st x with
  | none => rw [v1] at e; cases e
  | some u =>
    have h := view_ok s ra v1
    rw [v1] at e
    cases u with
    | int i => obtain rfl : a = .int i := h; cases e; exact isi_ok kit_int k4 (q.bl s)
    | str i => obtain rfl : a = .str i := h; cases e; exact isi_ok kit_str k5 (q.bl s)
    | seqL ys => obtain ⟨l, vs, rfl, hl, _⟩ := h; cases e; exact isi_ok (kit_seqL hl) k1 (q.bl s)
    | seqT ys => obtain ⟨l, vs, rfl, hl, _⟩ := h; cases e; exact isi_ok (kit_seqT (w.ext.t hl).sq) k2 (q.bl s)
    | dic ys => obtain ⟨l, rfl, hl⟩ := h; cases e; exact isi_ok (kit_dic hl) k3 (q.bl s)
    | _ => cases e
theorem len_ok (ok : XOk2 X) (e : bi o .len [x] st = some (z, st')) (s : SR X.K cad w st) (ra : RvW X.K cad w a x) (q : Post X cad w st' z Q) : WCall X (.builtin "len") [a] w.H Q := by
  simp only [bi] at e
  cases v1 : view st x with
  | none => rw [v1] at e; cases e
  | some u =>
    have h := view_ok s ra v1
    rw [v1] at e
    cases u with
    | str t =>
      obtain rfl : a = .str t := h
      simp only at e
      split at e
      · rename_i hz
        cases e
        exact wcall_of call_len_str ⟨t, rfl, by rw [← sz_eq]; exact hz, q.int s⟩
      · cases e
    | seqL ys => obtain ⟨l, vs, rfl, hl, rl⟩ := h; cases e; exact wcall_of call_len_seq ⟨l, vs, rfl, .inl hl, by rw [rl.length]; exact q.int s⟩
    | seqT ys => obtain ⟨l, vs, rfl, hl, rl⟩ := h; cases e; exact wcall_of call_len_seq ⟨l, vs, rfl, .inr (w.ext.t hl).sq, by rw [rl.length]; exact q.int s⟩
    | dic ys =>
      obtain ⟨d, rfl, hl⟩ := h
      cases e
      intro pins sh σ us I r
      obtain ⟨u, rfl, ru⟩ := vals1 r
      cases ru
      rcases dic_len hl with ⟨ks, h1, h2⟩ | ⟨ks, h1, h2⟩
      · exact d_len I h1 fun t s' I' => ⟨.int ks.length, w.H, I', ⟨t, rfl⟩, by rw [h2]; exact q.int s⟩
      · obtain ⟨hz, hd, vs, rel, dd⟩ := dt_rd I.hok h1
        have hl : ks.length = vs.length := Paired.length rel
        refine call_len_dictH hd dd (by rw [← hl]; rw [sizeLine_eq] at hz; omega) ?_
        rw [← hl]
        exact ⟨.int ks.length, w.H, I.tok _, ⟨_, rfl⟩, by rw [h2]; exact q.int s⟩
    | _ => cases e
theorem bi_ok (ok : XOk2 X) (e : bi o bb vs st = some (z, st')) (s : SR X.K cad w st) (r : RvLW X.K cad w xs vs) (q : Post X cad w st' z Q) : WCall X (biV bb) (xs ++ biX bb) w.H Q := by
  match bb, vs, r, e with
  | .len, [x], r, e => obtain ⟨a, rfl, ra⟩ := rvl1 r; exact len_ok ok e s ra q
  | .isInt, [x], r, e => obtain ⟨a, rfl, ra⟩ := rvl1 r; exact isInt_ok e s ra q
  | .isList, [x], r, e => obtain ⟨a, rfl, ra⟩ := rvl1 r; exact isList_ok e s ra q
  | .int, [x], r, e =>
    obtain ⟨a, rfl, ra⟩ := rvl1 r
    simp only [bi] at e
    cases v1 : view st x with
    | none => rw [v1] at e; cases e
    | some u =>
      have h := view_ok s ra v1
      rw [v1] at e
      cases u with
      | int i => obtain rfl : a = .int i := h; cases e; exact wcall_of call_int1 (.inl ⟨i, rfl, q.int s⟩)
      | bl i => obtain rfl : a = .bl i := h; cases e; exact wcall_of call_int1 (.inr ⟨i, rfl, q.int s⟩)
      | _ => cases e
  | .str, [x], r, e =>
    obtain ⟨a, rfl, ra⟩ := rvl1 r
    simp only [bi] at e
    cases v1 : view st x with
    | none => rw [v1] at e; cases e
    | some u =>
      have h := view_ok s ra v1
      rw [v1] at e
      cases u with
      | int i =>
        obtain rfl : a = .int i := h
        simp only at e
        split at e
        · rename_i hz
          cases e
          exact wcall_of call_str_int ⟨i, rfl, hz, q.str s⟩
        · cases e
      | str i => obtain rfl : a = .str i := h; cases e; exact wcall_of SkE.call_str_str ⟨i, rfl, q.str s⟩
      | _ => cases e
  | .repr, [x], r, e =>
    obtain ⟨a, rfl, ra⟩ := rvl1 r
    simp only [bi] at e
    cases v1 : toP 0 st FU x with
    | none => rw [v1] at e; cases e
    | some p =>
      rw [v1] at e
      obtain ⟨t, h1, h2⟩ := Option.map_eq_some_iff.mp e
      cases h2
      exact wcall_of (cr_repr ok.sm ok.gd ok.un) ⟨a, p, t, rfl, toP_H s ra v1, h1, q.str s⟩
  | .list, [x], r, e =>
    obtain ⟨a, rfl, ra⟩ := rvl1 r
    simp only [bi] at e
    cases v1 : view st x with
    | none => rw [v1] at e; cases e
    | some u =>
      have h := view_ok s ra v1
      rw [v1] at e
      cases u with
      | seqL ys => obtain ⟨l, vs, rfl, hl, rl⟩ := h; exact wcall_of call_list_of ⟨l, vs, rfl, .inl hl, mkL_ok e s rl q⟩
      | seqT ys => obtain ⟨l, vs, rfl, hl, rl⟩ := h; exact wcall_of call_list_of ⟨l, vs, rfl, .inr (w.ext.t hl).sq, mkL_ok e s rl q⟩
      | dic ys =>
        obtain ⟨d, rfl, hl⟩ := h
        simp only at e
        split at e
        rotate_left
        · cases e
        rename_i hf
        obtain ⟨ks, h1, h2, h3⟩ := dic_flat hl hf
        · refine wcall_of (call_listD ok.calm) ⟨d, ks, rfl, h1, mkL_ok e s ?_ q⟩
          have e1 : ys.map (fun q => Val.pu (kxP q.1)) = ks.map fun q => Val.pu (keyP q.1) := by
            have : ys.map (fun q => Val.pu (kxP q.1)) = (ys.map (·.1)).map fun k => Val.pu (kxP k) := by rw [List.map_map]; rfl
            rw [this, h2, List.map_map]; rfl
          rw [e1]
          clear h1 h2 h3 e1 e
          induction ks with
          | nil => exact .nil
          | cons k ks ih =>
            refine .cons ?_ ih
            obtain ⟨k1, v1⟩ := k
            cases k1 with
            | inl i => exact .pu (.int i)
            | inr i => exact .pu (.str i)
      | _ => cases e
  | .tuple, [x], r, e =>
    obtain ⟨a, rfl, ra⟩ := rvl1 r
    simp only [bi] at e
    cases v1 : view st x with
    | none => rw [v1] at e; cases e
    | some u =>
      have h := view_ok s ra v1
      rw [v1] at e
      cases u with
      | seqL ys => obtain ⟨l, vs, rfl, hl, rl⟩ := h; exact wcall_of call_tuple_of ⟨l, vs, rfl, .inl ⟨hl, mkT_ok e s rl q⟩⟩
      | seqT ys => obtain ⟨l, vs, rfl, hl, rl⟩ := h; cases e; exact wcall_of call_tuple_of ⟨l, vs, rfl, .inr ⟨(w.ext.t hl).sq, q.here s ra⟩⟩
      | _ => cases e
  | .dict, [x], r, e =>
    obtain ⟨a, rfl, ra⟩ := rvl1 r
    simp only [bi] at e
    cases v1 : view st x with
    | none => rw [v1] at e; cases e
    | some u =>
      have h := view_ok s ra v1
      rw [v1] at e
      cases u with
      | dic ys =>
        obtain ⟨d, rfl, hl⟩ := h
        simp only at e
        split at e
        rotate_left
        · cases e
        rename_i hf
        cases o with
        | false => cases e
        | true =>
          cases e
          obtain ⟨ks, h1, h2, h3⟩ := dic_flat hl hf
          · refine wcall_of call_dictD ⟨d, ks, rfl, h1, fun p hp => ?_⟩
            exact q (.ref p) (w.newC p (.dK ks)) (newC_le s hp) (newC_sr s hp (.dk upd_same h2 (h3.mono (Ext.refl _) ⟨[p], rfl⟩))) (.cell (newC_top s))
      | _ => cases e
  | .sorted, [x], r, e =>
    obtain ⟨a, rfl, ra⟩ := rvl1 r
    simp only [bi] at e
    cases v1 : view st x with
    | none => rw [v1] at e; cases e
    | some u =>
      have h := view_ok s ra v1
      rw [v1] at e
      cases u with
      | seqL ys =>
        obtain ⟨l, vs, rfl, hl, rl⟩ := h
        simp only at e
        cases v2 : allPu ys with
        | none => rw [v2] at e; cases e
        | some ps =>
          rw [v2] at e
          simp only at e
          split at e
          · rename_i ho
            have rp := rl.to_p v2
            exact wcall_of (cr_sortP (cad := cad) ok.un) ⟨l, vs, ps, w.F, w.ext, rfl, hl, rp, ho, fun xs' p hx hp => mkL_ok e s (.of_p hx) q p hp⟩
          · cases e
      | _ => cases e
  | .min2, [x, y], r, e =>
    obtain ⟨a, b, rfl, ra, rb⟩ := rvl2 r
    simp only [bi] at e
    cases v1 : view st x with
    | none => rw [v1] at e; cases e
    | some u1 =>
      cases v2 : view st y with
      | none => rw [v1, v2] at e; cases u1 <;> cases e
      | some u2 =>
        have h1 := view_ok s ra v1
        have h2 := view_ok s rb v2
        rw [v1, v2] at e
        cases u1 with
        | int i =>
          cases u2 <;> first | (cases e; done) | skip
          rename_i j
          obtain rfl : a = .int i := h1
          obtain rfl : b = .int j := h2
          cases e
          exact wcall_of (call_min2 ok.calm) ⟨i, j, rfl, q.int s⟩
        | str i =>
          cases u2 <;> first | (cases e; done) | skip
          rename_i j
          obtain rfl : a = .str i := h1
          obtain rfl : b = .str j := h2
          cases e
          exact wcall_of (St.cr_min2S ok.calm) ⟨i, j, rfl, q.str s⟩
        | _ => cases e
  | .max2, [x, y], r, e =>
    obtain ⟨a, b, rfl, ra, rb⟩ := rvl2 r
    simp only [bi] at e
    cases v1 : view st x with
    | none => rw [v1] at e; cases e
    | some u1 =>
      cases v2 : view st y with
      | none => rw [v1, v2] at e; cases u1 <;> cases e
      | some u2 =>
        have h1 := view_ok s ra v1
        have h2 := view_ok s rb v2
        rw [v1, v2] at e
        cases u1 with
        | int i =>
          cases u2 <;> first | (cases e; done) | skip
          rename_i j
          obtain rfl : a = .int i := h1
          obtain rfl : b = .int j := h2
          cases e
          exact wcall_of (call_max2 ok.calm) ⟨i, j, rfl, q.int s⟩
        | str i =>
          cases u2 <;> first | (cases e; done) | skip
          rename_i j
          obtain rfl : a = .str i := h1
          obtain rfl : b = .str j := h2
          cases e
          exact wcall_of (St.cr_max2S ok.calm) ⟨i, j, rfl, q.str s⟩
        | _ => cases e
  | .sum, [x], r, e =>
    obtain ⟨a, rfl, ra⟩ := rvl1 r
    simp only [bi] at e
    cases v1 : view st x with
    | none => rw [v1] at e; cases e
    | some u =>
      have h := view_ok s ra v1
      rw [v1] at e
      cases u with
      | seqL ys =>
        obtain ⟨l, vs, rfl, hl, rl⟩ := h
        simp only at e
        cases v2 : allPu ys with
        | none => rw [v2] at e; cases e
        | some ps =>
          rw [v2] at e
          obtain ⟨is, h1, h2⟩ := Option.map_eq_some_iff.mp e
          cases h2
          have := sum_ints h1 (rl.to_p v2)
          subst this
          exact wcall_of (cr_sum ok.calm) ⟨l, is, rfl, hl, q.int s⟩
      | _ => cases e
  | .abs, [x], r, e =>
    obtain ⟨a, rfl, ra⟩ := rvl1 r
    simp only [bi] at e
    cases v1 : view st x with
    | none => rw [v1] at e; cases e
    | some u =>
      have h := view_ok s ra v1
      rw [v1] at e
      cases u with
      | int i => obtain rfl : a = .int i := h; cases e; exact wcall_of call_abs ⟨i, rfl, q.int s⟩
      | _ => cases e
  | .any, [x], r, e =>
    obtain ⟨a, rfl, ra⟩ := rvl1 r
    simp only [bi] at e
    cases v1 : view st x with
    | none => rw [v1] at e; cases e
    | some u =>
      have h := view_ok s ra v1
      rw [v1] at e
      cases u with
      | seqL ys =>
        obtain ⟨l, vs, rfl, hl, rl⟩ := h
        simp only at e
        cases v2 : allPu ys with
        | none => rw [v2] at e; cases e
        | some ps =>
          rw [v2] at e
          obtain ⟨is, h1, h2⟩ := Option.map_eq_some_iff.mp e
          cases h2
          have := bls_of h1 (rl.to_p v2)
          subst this
          exact wcall_of (cr_any ok.calm) ⟨l, is, rfl, hl, q.bl s⟩
      | _ => cases e
  | .all, [x], r, e =>
    obtain ⟨a, rfl, ra⟩ := rvl1 r
    simp only [bi] at e
    cases v1 : view st x with
    | none => rw [v1] at e; cases e
    | some u =>
      have h := view_ok s ra v1
      rw [v1] at e
      cases u with
      | seqL ys =>
        obtain ⟨l, vs, rfl, hl, rl⟩ := h
        simp only at e
        cases v2 : allPu ys with
        | none => rw [v2] at e; cases e
        | some ps =>
          rw [v2] at e
          obtain ⟨is, h1, h2⟩ := Option.map_eq_some_iff.mp e
          cases h2
          have := bls_of h1 (rl.to_p v2)
          subst this
          exact wcall_of (cr_all ok.calm) ⟨l, is, rfl, hl, q.bl s⟩
      | _ => cases e
  | .minL, [x], r, e =>
    obtain ⟨a, rfl, ra⟩ := rvl1 r
    simp only [bi] at e
    cases v1 : view st x with
    | none => rw [v1] at e; cases e
    | some u =>
      have h := view_ok s ra v1
      rw [v1] at e
      cases u with
      | seqL ys =>
        obtain ⟨l, vs, rfl, hl, rl⟩ := h
        simp only at e
        cases v2 : allPu ys with
        | none => rw [v2] at e; cases e
        | some ps =>
          rw [v2] at e
          simp only at e
          split at e
          · rename_i i is h1
            cases e
            have := sum_ints h1 (rl.to_p v2)
            subst this
            exact wcall_of (cr_min ok.calm) ⟨l, i :: is, rfl, hl, Nat.succ_pos _, fun m m1 m2 => by rw [← min_fold is i m m1 m2]; exact q.int s⟩
          · cases e
      | _ => cases e
  | .maxL, [x], r, e =>
    obtain ⟨a, rfl, ra⟩ := rvl1 r
    simp only [bi] at e
    cases v1 : view st x with
    | none => rw [v1] at e; cases e
    | some u =>
      have h := view_ok s ra v1
      rw [v1] at e
      cases u with
      | seqL ys =>
        obtain ⟨l, vs, rfl, hl, rl⟩ := h
        simp only at e
        cases v2 : allPu ys with
        | none => rw [v2] at e; cases e
        | some ps =>
          rw [v2] at e
          simp only at e
          split at e
          · rename_i i is h1
            cases e
            have := sum_ints h1 (rl.to_p v2)
            subst this
            exact wcall_of (cr_max ok.calm) ⟨l, i :: is, rfl, hl, Nat.succ_pos _, fun m m1 m2 => by rw [← max_fold is i m m1 m2]; exact q.int s⟩
          · cases e
      | _ => cases e
  | .len, [], _, e => cases e
  | .len, _ :: _ :: _, _, e => cases e
end
end Y

set_option linter.all false
set_option maxRecDepth 100000
set_option Elab.async false
/-! YB: methods of built-in types. -/
namespace Y
open PySem L2 PySem.SeqAt
variable {cad : En}

def bmI : Bm → String
  | .append => "list.append"
  | .pop => "list.pop"
  | .popAt => "list.pop"
  | .insert => "list.insert"
  | .reverse => "list.reverse"
  | .get1 => "dict.get"
  | .get2 => "dict.get"
  | .setdefault => "dict.setdefault"
  | .update => "dict.update"
section
variable {X : Cx} {w : Wd} {st st' : Store} {x y z : Val} {a b : V} {Q : VK} {xs : List V} {vs : List Val} {o : Bool}
theorem wmt_of {id : String} {r : V → List V → Hp → VK → Prop} {H : Hp} (h : MtR X id r) (q : r a xs H Q) : WCall X (.builtin id) (a :: xs) H Q := fun pins s σ us I rr => by
  cases rr with
  | cons r1 r2 => exact h pins s σ H a xs _ _ Q I r1 r2 q
theorem wmm_of {id : String} {r : V → List V → Hp → VK → Prop} {H : Hp} (h : MtM X id r) (q : r a xs H Q) : WCall X (.builtin id) (a :: xs) H Q := fun pins s σ us I rr => by
  cases rr with
  | cons r1 r2 => exact h pins s σ H a xs _ _ Q I r1 r2 q
theorem upd_self {H : Hp} {d : Addr} {o : HO} (h : H d = some o) : upd H d o = H := by
  funext b
  by_cases hb : b = d
  · subst hb; rw [upd_same, h]
  · rw [upd_ne hb]
/-- a dict's cell, seen with keys that are no tuples -/
theorem cell_k {d : Addr} {kvs : List (Kx × Val)} {own : List Addr} {j : Key} (h3 : Ce X.K cad w.H w.F w.tops d own (.dct kvs)) (ok : kOk kvs (.k j) = true) :
    own = [d] ∧ ∃ ks : List (Key × V), kvs.map (·.1) = ks.map (fun q => Kx.k q.1) ∧ RvLW X.K cad w (ks.map (·.2)) (kvs.map (·.2)) ∧ (kvs ≠ [] → w.H d = some (.dK ks)) ∧ ∀ pins σ s, Inv X pins σ w.H s → Inv X pins σ (upd w.H d (.dK ks)) s := by
  cases h3 with
  | @dk ks _ g1 g2 g3 => exact ⟨rfl, ks, g2, g3, fun _ => g1, fun pins σ s I => by rw [upd_self g1]; exact I⟩
  | @dt ks _ g1 g2 g3 => exact absurd (kOk_k ok g2.1).1 g2.2
theorem cell_t {d : Addr} {kvs : List (Kx × Val)} {own : List Addr} {j : List Key} (h3 : Ce X.K cad w.H w.F w.tops d own (.dct kvs)) (ok : kOk kvs (.t j) = true) :
    own = [d] ∧ ∃ ks : List (List Key × V), kvs.map (·.1) = ks.map (fun q => Kx.t q.1) ∧ RvLW X.K cad w (ks.map (·.2)) (kvs.map (·.2)) ∧ (kvs ≠ [] → w.H d = some (.dT ks)) ∧ ∀ pins σ s, Inv X pins σ w.H s → Inv X pins σ (upd w.H d (.dT ks)) s := by
  cases h3 with
  | @dt ks _ g1 g2 g3 => exact ⟨rfl, ks, g2.1, g3, fun _ => g1, fun pins σ s I => by rw [upd_self g1]; exact I⟩
  | @dk ks _ g1 g2 g3 =>
    obtain ⟨rfl, rfl⟩ := kOk_t ok g2
    exact ⟨rfl, [], rfl, .nil, fun z => absurd rfl z, fun pins σ s I => swap_t I g1⟩
theorem len_fst {α : Type} {kvs : List (Kx × Val)} {ks : List α} {f : α → Kx} (h : kvs.map (·.1) = ks.map f) : ks.length = kvs.length := by
  have := congrArg List.length h
  rw [List.length_map, List.length_map] at this
  exact this.symm
theorem valK_ne {kvs : List (Kx × Val)} {k : Kx} {v : Val} (h : valK kvs k = some v) : kvs ≠ [] := by
  rintro rfl
  cases h
theorem setdefault_ok (ok : XOk2 X) (e : bm cad.ct o .setdefault x [y, z] st = some (z', st')) (s : SR X.K cad w st) (ra : RvW X.K cad w a x) (rb : RvW X.K cad w b y) (rc : RvW X.K cad w c z) (q : Post X cad w st' z' Q) :
    WCall X (.builtin "dict.setdefault") [a, b, c] w.H Q := by
  have un := ok.un
  simp only [bm] at e
  cases x with
  | cell n =>
    simp only at e
    cases hn : st[n]? with
    | none => rw [hn] at e; cases e
    | some cc =>
      rw [hn] at e
      obtain ⟨d, own, rfl, h1, h2, h3⟩ := cell_at s ra hn
      cases cc with
      | dct kvs =>
        simp only at e
        cases ek : keyOf cad.ct st y with
        | none => rw [ek] at e; cases e
        | some k =>
          rw [ek] at e
          simp only at e
          have hko : kOk kvs k = true := by
            cases h : kOk kvs k with
            | true => rfl
            | false => simp only [dget, h] at e; cases e
          have e' : (match valK kvs k with
            | some v => some (v, st)
            | none => if kvs.length < SZ then some (z, st.set n (.dct (putK kvs k z))) else none) = some (z', st') := by
            rw [dget, if_pos hko] at e
            cases hv : valK kvs k with
            | none => rw [hv] at e; exact e
            | some v => rw [hv] at e; exact e
          intro pins sh σ us I r
          cases r with
          | cons r1 r =>
            obtain ⟨u2, u3, rfl, r2, r3⟩ := vals2 r
            cases r1
            rcases keyOf_v s rb ek with ⟨j, rfl, rfl⟩ | ⟨js, bb, rfl, rfl, ht, hc⟩
            · obtain ⟨rfl, ks, g2, g3, g4, g5⟩ := cell_k h3 hko
              have I' := g5 pins σ sh I
              have hv := valK_k (w := w) (K := X.K) j g2 g3
              obtain ⟨z0, hd, vs0, rel, dd⟩ := dk_of I'.hok upd_same
              have hz : vs0.length ≤ sizeLine := by rw [← rel.length]; exact z0
              refine call_meetsIn F.slot_dict_setdefault dd.typeIs F.entry_dict_setdefault (F.args_dict_setdefault_3 _ _ _) (kt_meets_setdefault (mixKind X.prog X.w) _ (kV_is r2) hd _) ⟨vs0, dd, hz, fun u hu => ?_, fun hn0 h' dd' hs => ?_⟩
              · have rr := rel.val j
                rw [hu] at rr
                cases hk : valK kvs (.k j) with
                | none =>
                  rw [hk] at hv
                  cases hv2 : valV ks j with
                  | none => rw [hv2] at rr; exact rr.elim
                  | some _ => rw [hv2] at hv; exact hv.elim
                | some vv =>
                  rw [hk] at hv e'
                  cases e'
                  cases hv2 : valV ks j with
                  | none => rw [hv2] at rr; exact rr.elim
                  | some x2 =>
                    rw [hv2] at hv rr
                    exact ⟨x2, w.H, I.tok _, rr, q.here s hv⟩
              · have rr := rel.val j
                rw [hn0] at rr
                cases hk : valK kvs (.k j) with
                | some vv =>
                  rw [hk] at hv
                  cases hv2 : valV ks j with
                  | none => rw [hv2] at hv; exact hv.elim
                  | some _ => rw [hv2] at rr; exact rr.elim
                | none =>
                  rw [hk] at e'
                  simp only at e'
                  split at e'
                  · rename_i hl
                    cases e'
                    obtain ⟨i1, i2⟩ := putK_k (i := j) rc g2 g3
                    obtain ⟨l, s'⟩ := write_ok s (o := .dK (L2.putK ks j c)) h1 h2 (by simp) hn (.dk upd_same i1 i2)
                    have hl2 : (L2.putK ks j c).length ≤ sizeLine := by have := length_putK ks j c; rw [len_fst g2] at this; rw [← sz_eq]; omega
                    have J := d_write (t' := sh.toks + 1) I' (by rw [upd_same]; exact True.intro) hs (let ⟨q, _, _, hq, _⟩ := dd'; ⟨q, hq⟩) (dk_new hl2 hd (rel.put j r3) dd')
                    rw [upd_upd] at J
                    exact ⟨c, _, J, r3, q c _ l s' (rc.le l)⟩
                  · cases e'
            · obtain ⟨rfl, ks, g2, g3, g4, g5⟩ := cell_t h3 hko
              have I' := g5 pins σ sh I
              have hv := valK_t (w := w) (K := X.K) js g2 g3
              obtain ⟨z0, hd, vs0, rel, dd⟩ := dt_of I'.hok upd_same
              have hz : vs0.length ≤ sizeLine := by rw [← Paired.length rel]; exact z0
              cases (show u2 = Value.ref bb from r2)
              have hbm : w.H bb = some (.tup (js.map kV)) := by
                rcases ht with h | h
                · exact h
                · rw [h.2 js rfl] at hc; cases hc
              have hkey := key_of (P := X.prog) (w := X.w) I.hok hbm
              have hne : bb ≠ d := by
                rintro rfl
                have := (Ce.there h3) bb (by simp)
                cases h3 with
                | dk g1 _ _ => rw [g1] at hbm; cases hbm
                | dt g1 _ _ => rw [g1] at hbm; cases hbm
              refine call_setdefault_heap (tupleKind_room_in1 (by omega)) hkey hd dd (fun p hp => ?_) (fun hn0 h' dd' hs => ?_) hz
              · have rr := rel.val js
                rw [hp] at rr
                cases hk : valK kvs (.t js) with
                | none =>
                  rw [hk] at hv
                  cases hv2 : valV ks js with
                  | none => rw [hv2] at rr; exact rr.elim
                  | some _ => rw [hv2] at hv; exact hv.elim
                | some vv =>
                  rw [hk] at hv e'
                  cases e'
                  cases hv2 : valV ks js with
                  | none => rw [hv2] at rr; exact rr.elim
                  | some x2 =>
                    rw [hv2] at hv rr
                    exact ⟨x2, w.H, I.tok _, rr, q.here s hv⟩
              · have rr := rel.val js
                rw [hn0] at rr
                cases hk : valK kvs (.t js) with
                | some vv =>
                  rw [hk] at hv
                  cases hv2 : valV ks js with
                  | none => rw [hv2] at hv; exact hv.elim
                  | some _ => rw [hv2] at rr; exact rr.elim
                | none =>
                  rw [hk] at e'
                  simp only at e'
                  split at e'
                  · rename_i hl
                    cases e'
                    obtain ⟨i1, i2⟩ := putK_t (i := js) rc g2 g3
                    obtain ⟨l, s'⟩ := write_ok s (o := .dT (L2.putK ks js c)) h1 h2 (by simp) hn (.dt upd_same ⟨i1, putK_ne⟩ i2)
                    have hl2 : (L2.putK ks js c).length ≤ sizeLine := by have := length_putK ks js c; rw [len_fst g2] at this; rw [← sz_eq]; omega
                    have rel' := (rel.put js (b := bb) ((upd_ne hne).trans hbm) r3).keeps (H' := upd (upd w.H d (.dT ks)) d (.dT (L2.putK ks js c))) fun b ys hb => by
                      by_cases hbd : b = d
                      · subst hbd; rw [upd_same] at hb; cases hb
                      · rw [upd_ne hbd]; exact hb
                    obtain ⟨o1, es, ep, d1, d2, d3, d4, _, d6⟩ := dd'
                    have J := d_write (t' := sh.toks + (tupleKind (mixKind X.prog X.w)).draws js) (ob := .dT (L2.putK ks js c)) I' (by rw [upd_same]; exact True.intro) hs ⟨o1, d1⟩ ⟨hl2, hd, _, rel', o1, es, ep, d1, d2, d3, d4, d6⟩
                    rw [upd_upd] at J
                    exact ⟨c, _, J, r3, q c _ l s' (rc.le l)⟩
                  · cases e'
      | _ => cases e
  | _ => cases e
theorem foldK : ∀ {ms : List (Key × V)} {rs : List (Kx × Val)}, rs.map (·.1) = ms.map (fun q => Kx.k q.1) → RvLW X.K cad w (ms.map (·.2)) (rs.map (·.2)) → ∀ {ks : List (Key × V)} {kvs : List (Kx × Val)}, kvs.map (·.1) = ks.map (fun q => Kx.k q.1) → RvLW X.K cad w (ks.map (·.2)) (kvs.map (·.2)) →
    (rs.foldl (fun acc q => putK acc q.1 q.2) kvs).map (·.1) = (ms.foldl (fun acc q => L2.putK acc q.1 q.2) ks).map (fun q => Kx.k q.1) ∧ RvLW X.K cad w ((ms.foldl (fun acc q => L2.putK acc q.1 q.2) ks).map (·.2)) ((rs.foldl (fun acc q => putK acc q.1 q.2) kvs).map (·.2))
  | [], [], _, _, ks, kvs, h, r => ⟨h, r⟩
  | [], _ :: _, e, _, _, _, _, _ => by cases e
  | _ :: _, [], e, _, _, _, _, _ => by cases e
  | (j, v) :: ms, (k, x) :: rs, e, rr, ks, kvs, h, r => by
    simp only [List.map_cons, List.cons.injEq] at e
    obtain ⟨rfl, e⟩ := e
    cases rr with
    | cons r1 r2 =>
      obtain ⟨i1, i2⟩ := putK_k (i := j) r1 h r
      exact foldK e r2 i1 i2
theorem foldKV : ∀ {ms : List (Key × V)} {rs : List (Key × Value)}, KV ms rs → ∀ {ks : List (Key × V)} {vs : List (Key × Value)}, KV ks vs → KV (ms.foldl (fun acc q => L2.putK acc q.1 q.2) ks) (merged vs rs)
  | _, _, .nil, _, _, h => h
  | _, _, .cons (a := p) (b := q) h t, ks, vs, r => by
    obtain ⟨h1, h2⟩ := h
    have := foldKV t (r.put p.1 h2)
    rw [h1] at this
    simpa [merged, h1] using this
theorem foldK_len : ∀ (ms ks : List (Key × V)), (ms.foldl (fun acc q => L2.putK acc q.1 q.2) ks).length ≤ ks.length + ms.length
  | [], ks => by simp
  | q :: ms, ks => by
    have h1 := foldK_len ms (L2.putK ks q.1 q.2)
    have h2 := length_putK ks q.1 q.2
    simp only [List.foldl_cons, List.length_cons]
    omega
/-- a dict without tuples for keys, as it stands in the model -/
theorem dic_heap {d : Addr} {kvs : List (Kx × Val)} {pins : List (Addr × Obj)} {σ : L2.St} {s : Shared} (I : Inv X pins σ w.H s) (h : DicR X.K cad w d kvs) (hf : (kvs.all fun q => flatK q.1) = true) :
    ∃ (ks : List (Key × V)) (vs : List (Key × Value)), kvs.map (·.1) = ks.map (fun q => Kx.k q.1) ∧ RvLW X.K cad w (ks.map (·.2)) (kvs.map (·.2)) ∧ KV ks vs ∧ s.heap.DictOf (mixKind X.prog X.w) d vs ∧ (d == sysModules) = false := by
  obtain ⟨ks, h1, h2, h3⟩ := dic_flat h hf
  obtain ⟨_, hd, vs, rel, dd⟩ := dk_rd I.hok h1
  exact ⟨ks, vs, h2, h3, rel, dd, hd⟩
theorem kOk_flat {kvs : List (Kx × Val)} (hf : (kvs.all fun q => flatK q.1) = true) (j : Key) : kOk kvs (.k j) = true := by
  unfold kOk
  rw [List.all_eq_true] at hf ⊢
  intro q hq
  have := hf q hq
  obtain ⟨k, v⟩ := q
  cases k with
  | k k => rfl
  | t k => simp [flatK] at this
theorem update_ok (ok : XOk2 X) (e : bm cad.ct o .update x [y] st = some (z, st')) (s : SR X.K cad w st) (ra : RvW X.K cad w a x) (rb : RvW X.K cad w b y) (q : Post X cad w st' z Q) : WCall X (.builtin "dict.update") [a, b] w.H Q := by
  simp only [bm] at e
  cases x with
  | cell n =>
    simp only at e
    cases hn : st[n]? with
    | none => rw [hn] at e; cases e
    | some cc =>
      rw [hn] at e
      obtain ⟨d, own, rfl, h1, h2, h3⟩ := cell_at s ra hn
      cases cc with
      | dct kvs =>
        simp only at e
        cases v2 : view st y with
        | none => rw [v2] at e; cases e
        | some u2 =>
          have hb := view_ok s rb v2
          rw [v2] at e
          cases u2 with
          | dic rs =>
            simp only at e
            split at e
            rotate_left
            · cases e
            rename_i hc
            obtain ⟨hl, hf1, hf2, hnc⟩ := hc
            cases e
            obtain ⟨d2, rfl, dr⟩ := hb
            intro pins sh σ us I r
            obtain ⟨u1, u2, rfl, r1, r2⟩ := vals2 r
            cases r1
            cases r2
            obtain ⟨rfl, ks, g2, g3, g4, g5⟩ := cell_k (j := .inl 0) h3 (kOk_flat hf1 _)
            have I' := g5 pins σ sh I
            obtain ⟨ms, vs2, m2, m3, m4, m5, m6⟩ := dic_heap I dr hf2
            obtain ⟨z0, hd, vs0, rel, dd⟩ := dk_of I'.hok upd_same
            have hne : d ≠ d2 := by
              rintro rfl
              have hM : d ∈ w.M := List.mem_append_left _ (mem_flat h2 (by simp))
              cases rb with
              | pu hp =>
                have := view_ok s (.pu hp) v2
                cases hp with
                | dk g _ _ =>
                  rcases g with g | ⟨o', g⟩ <;> exact (hide_some g).2 hM
                | dt g _ _ =>
                  rcases g with g | ⟨o', g⟩ <;> exact (hide_some g).2 hM
                | tup _ _ => cases v2
                | lst _ _ => cases v2
                | obj _ _ _ _ => cases v2
              | @cell _ m hm =>
                simp only [notCell, decide_eq_true_eq] at hnc
                cases hq : st[m]? with
                | none => simp only [view, hq] at v2; cases v2
                | some c2 =>
                  obtain ⟨p2, own2, t1, t2, t3⟩ := s.cl m c2 hq
                  rw [hm] at t1
                  cases t1
                  cases t3 with
                  | dk k1 _ _ => exact own_ne (a := d) (b := d) s.nd t2 h2 hnc (by simp) (by simp) rfl
                  | dt k1 _ _ => exact own_ne (a := d) (b := d) s.nd t2 h2 hnc (by simp) (by simp) rfl
                  | lst _ _ => simp only [view, hq] at v2; cases v2
                  | ins _ _ _ _ => simp only [view, hq] at v2; cases v2
                  | dead hp =>
                    simp only [view, hq] at v2
                    cases hp with
                    | dk g _ _ =>
                      rcases g with g | ⟨o', g⟩ <;> exact (hide_some g).2 hM
                    | dt g _ _ =>
                      rcases g with g | ⟨o', g⟩ <;> exact (hide_some g).2 hM
                    | tup _ _ => cases v2
                    | lst _ _ => cases v2
                    | obj _ _ _ _ => cases v2
              | tupv _ _ => cases v2
            have hz : vs0.length + vs2.length ≤ sizeLine := by
              rw [← rel.length, ← m4.length, len_fst g2, len_fst m2, ← sz_eq]; exact hl
            refine call_meetsIn F.slot_dict_update dd.typeIs F.entry_dict_update (F.args_dict_update_2 _ _) (meets_dict_update (mixKind X.prog X.w) d d2 hne m6) ⟨vs0, vs2, dd, m5, hz, fun h' dd' _ hs => ?_⟩
            obtain ⟨i1, i2⟩ := foldK m2 m3 g2 g3
            obtain ⟨l, s'⟩ := write_ok s (o := .dK (ms.foldl (fun acc q => L2.putK acc q.1 q.2) ks)) h1 h2 (by simp) hn (.dk upd_same i1 i2)
            have hl2 : (ms.foldl (fun acc q => L2.putK acc q.1 q.2) ks).length ≤ sizeLine := by
              have := foldK_len ms ks
              rw [len_fst g2, len_fst m2] at this
              rw [← sz_eq]; omega
            have J := d_write (t' := sh.toks) I' (by rw [upd_same]; exact True.intro) hs (let ⟨q, _, _, hq, _⟩ := dd'; ⟨q, hq⟩) (dk_new hl2 hd (foldKV m4 rel) dd')
            rw [upd_upd] at J
            exact ⟨.non, _, J, rfl, q .non _ l s' (.pu .non)⟩
          | _ => cases e
      | _ => cases e
  | _ => cases e
theorem get_ok {k r : Val} {kv rv : V} (ok : XOk2 X) {kvs : List (Kx × Val)} {kk : Kx} {oo : Option Val} (s : SR X.K cad w st) {d : Addr} (dr : DicR X.K cad w d kvs) (rk : RvW X.K cad w kv k) (rr : RvW X.K cad w rv r) (ek : keyOf cad.ct st k = some kk) (eo : dget kvs kk = some oo) (q : Post X cad w st (oo.getD r) Q) :
    WCall X (.builtin "dict.get") [.ref d, kv, rv] w.H Q := by
  have un := ok.un
  intro pins sh σ us I h
  cases h with
  | cons r1 h =>
    obtain ⟨u2, u3, rfl, r2, r3⟩ := vals2 h
    cases r1
    obtain ⟨qo, g, ov⟩ := dg_of I s dr rk ek eo r2
    refine dg_get2 (by omega) g fun t => ?_
    cases oo with
    | none => cases qo with
      | none => exact ⟨rv, w.H, I.tok t, r3, q.here s rr⟩
      | some _ => exact ov.elim
    | some vv => cases qo with
      | none => exact ov.elim
      | some qv =>
        obtain ⟨v, g1, g2⟩ := ov
        exact ⟨v, w.H, I.tok t, g1, q.here s g2⟩
theorem get1_ok {k : Val} {kv : V} (ok : XOk2 X) {kvs : List (Kx × Val)} {kk : Kx} {oo : Option Val} (s : SR X.K cad w st) {d : Addr} (dr : DicR X.K cad w d kvs) (rk : RvW X.K cad w kv k) (ek : keyOf cad.ct st k = some kk) (eo : dget kvs kk = some oo) (q : Post X cad w st (oo.getD (.pu .non)) Q) :
    WCall X (.builtin "dict.get") [.ref d, kv] w.H Q := by
  have un := ok.un
  intro pins sh σ us I h
  obtain ⟨u1, u2, rfl, r1, r2⟩ := vals2 h
  cases r1
  obtain ⟨qo, g, ov⟩ := dg_of I s dr rk ek eo r2
  refine dg_get1 (by omega) g fun t => ?_
  cases oo with
  | none => cases qo with
    | none => exact ⟨.non, w.H, I.tok t, rfl, q.non s⟩
    | some _ => exact ov.elim
  | some vv => cases qo with
    | none => exact ov.elim
    | some qv =>
      obtain ⟨v, g1, g2⟩ := ov
      exact ⟨v, w.H, I.tok t, g1, q.here s g2⟩
/-- a list's cell -/
theorem lst_cell {n : Nat} {ys : List Val} (s : SR X.K cad w st) (ra : RvW X.K cad w a (.cell n)) (hn : st[n]? = some (.lst ys)) : ∃ p zs, a = .ref p ∧ w.H p = some (.lst zs) ∧ RvLW X.K cad w zs ys ∧
    ∀ (zs' : List V) (ys' : List Val), RvLW X.K cad w zs' ys' → Le w (w.new p (.lst zs')) ∧ SR X.K cad (w.new p (.lst zs')) (st.set n (.lst ys')) := by
  obtain ⟨p, own, rfl, h1, h2, h3⟩ := cell_at s ra hn
  cases h3 with
  | @lst zs _ g1 g2 => exact ⟨p, zs, rfl, g1, g2, fun zs' ys' r => write_ok s h1 h2 (by simp) hn (.lst upd_same r)⟩
theorem bm_ok {m : Bm} (ok : XOk2 X) (e : bm cad.ct o m x vs st = some (z, st')) (s : SR X.K cad w st) (ra : RvW X.K cad w a x) (r : RvLW X.K cad w xs vs) (q : Post X cad w st' z Q) : WCall X (.builtin (bmI m)) (a :: xs) w.H Q := by
  match m, vs, r, e with
  | .setdefault, [k, d], r, e => obtain ⟨b, c, rfl, rb, rc⟩ := rvl2 r; exact setdefault_ok ok e s ra rb rc q
  | .update, [y], r, e => obtain ⟨b, rfl, rb⟩ := rvl1 r; exact update_ok ok e s ra rb q
  | .get1, [k], r, e =>
    obtain ⟨b, rfl, rb⟩ := rvl1 r
    simp only [bm] at e
    cases v1 : view st x with
    | none => rw [v1] at e; cases e
    | some u1 =>
      have h := view_ok s ra v1
      rw [v1] at e
      cases u1 with
      | dic kvs =>
        obtain ⟨d, rfl, dr⟩ := h
        obtain ⟨oo, h1, h2⟩ := Option.map_eq_some_iff.mp e
        obtain ⟨kk, h3, h4⟩ := Option.bind_eq_some_iff.mp h1
        cases h2
        exact get1_ok ok s dr rb h3 h4 q
      | _ => cases e
  | .get2, [k, d], r, e =>
    obtain ⟨b, c, rfl, rb, rc⟩ := rvl2 r
    simp only [bm] at e
    cases v1 : view st x with
    | none => rw [v1] at e; cases e
    | some u1 =>
      have h := view_ok s ra v1
      rw [v1] at e
      cases u1 with
      | dic kvs =>
        obtain ⟨d, rfl, dr⟩ := h
        obtain ⟨oo, h1, h2⟩ := Option.map_eq_some_iff.mp e
        obtain ⟨kk, h3, h4⟩ := Option.bind_eq_some_iff.mp h1
        cases h2
        exact get_ok ok s dr rb rc h3 h4 q
      | _ => cases e
  | .append, [y], r, e =>
    obtain ⟨b, rfl, rb⟩ := rvl1 r
    simp only [bm] at e
    cases x with
    | cell n =>
      simp only at e
      cases hn : st[n]? with
      | none => rw [hn] at e; cases e
      | some cc =>
        rw [hn] at e
        cases cc with
        | lst ys =>
          simp only at e
          split at e
          · rename_i hl
            cases e
            obtain ⟨p, zs, rfl, h1, h2, h3⟩ := lst_cell s ra hn
            obtain ⟨l, s'⟩ := h3 (zs ++ [b]) (ys ++ [y]) (h2.append (.cons rb .nil))
            exact wmm_of mt_append ⟨p, zs, b, rfl, rfl, h1, by rw [← sz_eq, h2.length]; exact hl, q .non _ l s' (.pu .non)⟩
          · cases e
        | _ => cases e
    | _ => cases e
  | .pop, [], r, e =>
    cases r
    simp only [bm] at e
    cases x with
    | cell n =>
      simp only at e
      cases hn : st[n]? with
      | none => rw [hn] at e; cases e
      | some cc =>
        rw [hn] at e
        cases cc with
        | lst ys =>
          simp only at e
          cases hy : ys[ys.length - 1]? with
          | none => rw [hy] at e; cases e
          | some y =>
            rw [hy] at e
            cases e
            obtain ⟨p, zs, rfl, h1, h2, h3⟩ := lst_cell s ra hn
            obtain ⟨v, g1, g2⟩ := h2.get hy
            obtain ⟨l, s'⟩ := h3 zs.dropLast ys.dropLast h2.dropLast
            exact wmm_of mt_pop ⟨p, zs, v, rfl, rfl, h1, by rw [h2.length]; exact g1, q v _ l s' (g2.le l)⟩
        | _ => cases e
    | _ => cases e
  | .popAt, [i], r, e =>
    obtain ⟨b, rfl, rb⟩ := rvl1 r
    simp only [bm] at e
    cases x with
    | cell n =>
      simp only at e
      cases hn : st[n]? with
      | none => rw [hn] at e; cases e
      | some cc =>
        rw [hn] at e
        cases cc with
        | lst ys =>
          simp only at e
          cases v1 : view st i with
          | none => rw [v1] at e; cases e
          | some u1 =>
            have hb := view_ok s rb v1
            rw [v1] at e
            cases u1 with
            | int j =>
              obtain rfl : b = .int j := hb
              simp only at e
              cases hk : ixN ys.length j with
              | none => rw [hk] at e; cases e
              | some k =>
                rw [hk] at e
                simp only at e
                cases hy : ys[k]? with
                | none => rw [hy] at e; cases e
                | some y =>
                  rw [hy] at e
                  simp only at e
                  split at e
                  · rename_i hz
                    cases e
                    obtain ⟨p, zs, rfl, h1, h2, h3⟩ := lst_cell s ra hn
                    obtain ⟨v, g1, g2⟩ := h2.get hy
                    obtain ⟨l, s'⟩ := h3 (zs.eraseIdx k) (ys.eraseIdx k) (h2.erase k)
                    obtain ⟨k1, k2, k3, k4⟩ := ixN_seq hk
                    have hsz : (SZ : Int) = 16777216 := rfl
                    exact wmm_of mt_popAt ⟨p, zs, j, k, v, rfl, rfl, h1, by omega, by omega, by rw [h2.length]; exact k1, g1, q v _ l s' (g2.le l)⟩
                  · cases e
            | _ => cases e
        | _ => cases e
    | _ => cases e
  | .insert, [i, y], r, e =>
    obtain ⟨b, c, rfl, rb, rc⟩ := rvl2 r
    simp only [bm] at e
    cases x with
    | cell n =>
      simp only at e
      cases hn : st[n]? with
      | none => rw [hn] at e; cases e
      | some cc =>
        rw [hn] at e
        cases cc with
        | lst ys =>
          simp only at e
          cases v1 : view st i with
          | none => rw [v1] at e; cases e
          | some u1 =>
            have hb := view_ok s rb v1
            rw [v1] at e
            cases u1 with
            | int j =>
              obtain rfl : b = .int j := hb
              simp only at e
              split at e
              · rename_i hz
                cases e
                obtain ⟨p, zs, rfl, h1, h2, h3⟩ := lst_cell s ra hn
                obtain ⟨l, s'⟩ := h3 (zs.take j.toNat ++ [c] ++ zs.drop j.toNat) (ys.take j.toNat ++ y :: ys.drop j.toNat) (by
                  rw [List.append_assoc]
                  exact (h2.take _).append (.cons rc (h2.drop _)))
                have hsz : (SZ : Int) = 16777216 := rfl
                exact wmt_of mt_insert ⟨p, zs, j, c, rfl, rfl, h1, by rw [← sz_eq, h2.length]; exact hz.2.2, hz.1, by omega, q .non _ l s' (.pu .non)⟩
              · cases e
            | _ => cases e
        | _ => cases e
    | _ => cases e
  | .reverse, [], r, e =>
    cases r
    simp only [bm] at e
    cases x with
    | cell n =>
      simp only at e
      cases hn : st[n]? with
      | none => rw [hn] at e; cases e
      | some cc =>
        rw [hn] at e
        cases cc with
        | lst ys =>
          cases e
          obtain ⟨p, zs, rfl, h1, h2, h3⟩ := lst_cell s ra hn
          obtain ⟨l, s'⟩ := h3 zs.reverse ys.reverse h2.reverse
          exact wmm_of mt_reverse ⟨p, zs, rfl, rfl, h1, q .non _ l s' (.pu .non)⟩
        | _ => cases e
    | _ => cases e
  | .append, [], _, e => cases e
end
end Y

set_option linter.all false
set_option maxRecDepth 100000
set_option Elab.async false
/-! YC: texts of the language against the program's texts: a look (Bool) that the proof of YD leans on. -/
namespace Y
open PySem L2 PySem.SeqAt
variable {cad : En}

/-! ### shapes -/
def noStar : Expr → Bool
  | .Starred _ _ => false
  | _ => true
def noComp : Expr → Bool
  | .ListComp _ _ _ _ => false
  | .SetComp _ _ _ _ => false
  | .DictComp _ _ _ _ _ => false
  | _ => true
def noSet : Expr → Bool
  | .Set _ _ _ => false
  | _ => true
def noSlice : Expr → Bool
  | .Slice _ _ _ _ => false
  | _ => true
/-- no call without arguments (super is one) -/
def noCall0 : Expr → Bool
  | .Call _ [] _ _ => false
  | _ => true
/-- its test is its value's truth -/
def plainT : Expr → Bool
  | .Name _ _ => true
  | .Call _ _ _ _ => true
  | .Subscript _ _ _ => true
  | .Attribute _ _ _ => true
  | _ => false
theorem star_of {e : Expr} {es : List Expr} {env : PySem.Env} (h : noStar e = true) : starEach (e :: es) env = (false, eval e env) :: starEach es env := by
  cases e <;> first | rfl | cases h
theorem anyStar : ∀ {es : List Expr} {env : PySem.Env} {pos : Pos}, (es.all noStar) = true → (backTo pos (starEach es env)).any (·.1) = false
  | [], _, _, _ => rfl
  | e :: es, env, pos, h => by
    rw [List.all_cons, Bool.and_eq_true] at h
    rw [star_of h.1]
    show (false || (backTo pos (starEach es env)).any (·.1)) = false
    rw [anyStar h.2]; rfl
theorem allStar : ∀ {es : List Expr} {env : PySem.Env} {pos : Pos}, (es.all noStar) = true → (backTo pos (starEach es env)).all (fun x => !x.1) = true
  | [], _, _, _ => rfl
  | e :: es, env, pos, h => by
    rw [List.all_cons, Bool.and_eq_true] at h
    rw [star_of h.1]
    show (true && (backTo pos (starEach es env)).all (fun x => !x.1)) = true
    rw [allStar h.2]; rfl
theorem sw_sub {e a i : Expr} {p : Pos} {l : Nat} {env : PySem.Env} : swapsWith e (some (.Subscript a i p)) l env = pure false := by
  cases e <;> rfl
theorem sw_of {e : Expr} {tg : Option Expr} {l : Nat} {env : PySem.Env} (h : noComp e = true) : swapsWith e tg l env = pure false := by
  cases e <;> first | rfl | cases h
theorem fold_of {e : Expr} {env : PySem.Env} (h : noSet e = true) : ∀ x, foldedSetIterable e env x = pure x := by
  intro x
  cases e <;> first | rfl | cases h
theorem beh_of {e : Expr} {op : CmpOp} (h : noSet e = true) : behindInMarks op e = false := by
  cases e <;> first | rfl | cases h
theorem ix_of {b : Expr} (h : noSlice b = true) : PlainIx b := by
  intro o i
  cases b <;> first | rfl | cases h
theorem base_of {o : Expr} {n : Str} {env : PySem.Env} (h : noCall0 o = true) : attributeBase o n env (eval o env) = eval o env := by
  cases o with
  | Call f as ks p =>
    cases as with
    | nil => cases h
    | cons a as => cases f <;> rfl
  | _ => rfl
theorem isT_of {a : Expr} {env : PySem.Env} (h : plainT a = true) : ∀ whole, isTrue a env whole = (do let v ← whole; standAt a.pos; holding [v] (truthy v)) := by
  intro whole
  cases a <;> first | rfl | cases h

/-! ### the look -/
structure Tb where
  fns : List Str
  gls : List Str
  free : List Str
structure Ct where
  N : List Str
  sc : Scope
  blk : Option Scope
def visC (Γ : Ct) (i : Nat) (x : Str) : Bool :=
  decide (Γ.N[i]? = some x) && !(x == ("__debug__" : Str)) && !(x == ("__classdict__" : Str)) && (match Γ.sc.names.lookup x with | some .local => true | some .cell => true | some .free => true | _ => false)
def glC (Γ : Ct) (x : Str) : Bool := decide (Γ.sc.names.lookup x = some .globalImplicit) && !(x == ("__debug__" : Str))
def frC (t : Tb) (Γ : Ct) (x : Str) : Bool := glC Γ x && decide (x ∈ t.free) && !decide (x = ("__name__" : Str))
def fnC (Γ : Ct) (x : Str) : Bool := match Γ.blk with
  | none => true
  | some s => s.names.lookup x == some .cell
def locC (Γ : Ct) (i : Nat) (x : Str) : Bool :=
  decide (Γ.N[i]? = some x) && (match Γ.sc.names.lookup x with | some .local => true | some .cell => fnC Γ x | _ => false)
def biN : Bi → Str
  | .len => "len"
  | .int => "int"
  | .str => "str"
  | .repr => "repr"
  | .list => "list"
  | .tuple => "tuple"
  | .dict => "dict"
  | .sorted => "sorted"
  | .min2 => "min"
  | .max2 => "max"
  | .sum => "sum"
  | .abs => "abs"
  | .isInt => "isinstance"
  | .isList => "isinstance"
  | .any => "any"
  | .all => "all"
  | .minL => "min"
  | .maxL => "max"
def bmN : Bm → Str
  | .append => "append"
  | .pop => "pop"
  | .popAt => "pop"
  | .insert => "insert"
  | .reverse => "reverse"
  | .get1 => "get"
  | .get2 => "get"
  | .setdefault => "setdefault"
  | .update => "update"
def gsl : G → List Nat
  | .slot i => [i]
  | .tup gs => gsls gs
  | .sub _ _ _ => []
where gsls : Gs → List Nat
  | .nil => []
  | .cons g gs => gsl g ++ gsls gs
def blkΓ (Γ : Ct) (scope : Scope) : Ct := ⟨Γ.N, relS scope Γ.sc, some scope⟩
def lenEs : Es → Nat
  | .nil => 0
  | .cons _ es => lenEs es + 1
mutual
def cE (t : Tb) (Γ : Ct) : E → Expr → Bool
  | .slot i, .Name x _ => visC Γ i x
  | .glob g, .Name x _ => glC Γ x && decide (t.gls[g]? = some x)
  | .cint i, .Constant (.int j) _ _ => decide (i = j)
  | .cstr i, .Constant (.str j) _ _ => decide (i = j)
  | .cbl i, .Constant (.bool j) _ _ => decide (i = j)
  | .cnon, .Constant .none _ _ => true
  | .bin _ op a b, .BinOp a' op' b' _ => decide (opOf op = op') && (cE t Γ a a' && cE t Γ b b')
  | .neg a, .UnaryOp .USub a' _ => cE t Γ a a'
  | .bop k es, .BoolOp op as _ => decide (op = if k then .And else .Or) && cB t Γ es as
  | .cmp op a b, .Compare a' [op'] [b'] _ => decide (copOf op = op') && (noSet b' && (cE t Γ a a' && cE t Γ b b'))
  | .chain op op2 a b c, .Compare a' [op', op2'] [b', c'] _ => decide (copOf op = op') && (decide (copOf op2 = op2') && (noSet c' && (cE t Γ a a' && (cE t Γ b b' && cE t Γ c c'))))
  | .not a, .UnaryOp .Not a' _ => cE t Γ a a'
  | .ife c a b, .IfExp c' a' b' _ => cT t Γ c c' && (cE t Γ a a' && cE t Γ b b')
  | .tup _ es, .Tuple as _ _ => cEs t Γ es as
  | .lst _ es, .List as _ => cEs t Γ es as
  | .dct _ kvs, .Dict ks vs _ => cKV t Γ kvs ks vs
  | .sub a i, .Subscript a' i' _ => noSlice i' && (cE t Γ a a' && cE t Γ i i')
  | .slc _ a lo hi, .Subscript a' (.Slice lo' hi' none _) _ => cE t Γ a a' && (cO t Γ lo lo' && cO t Γ hi hi')
  | .call f es, .Call (.Name x _) as [] _ => glC Γ x && (decide (t.fns[f]? = some x) && cEs t Γ es as)
  | .bi _ .isInt (.cons e .nil), .Call (.Name x _) [a, .Name y _] [] _ => frC t Γ x && (decide (x = "isinstance") && (frC t Γ y && (decide (y = "int") && (noStar a && cE t Γ e a))))
  | .bi _ .isList (.cons e .nil), .Call (.Name x _) [a, .Name y _] [] _ => frC t Γ x && (decide (x = "isinstance") && (frC t Γ y && (decide (y = "list") && (noStar a && cE t Γ e a))))
  | .bi _ .isInt _, _ => false
  | .bi _ .isList _, _ => false
  | .bi _ b es, .Call (.Name x _) (a :: as) [] _ => frC t Γ x && (decide (x = biN b) && cEs t Γ es (a :: as))
  | .sset _ e, .Call (.Name x _) [.Call (.Name y _) [a] [] _] [] _ => frC t Γ x && (decide (x = "sorted") && (frC t Γ y && (decide (y = "set") && (noStar a && cE t Γ e a))))
  | .bm _ m a es, .Call (.Attribute a' n apos) as [] cpos => decide (n = bmN m) && (noCall0 a' && ((apos.endLine == cpos.line) && (decide (as.length < 30) && (cE t Γ a a' && cEs t Γ es as))))
  | .lc _ own g it ts e, .ListComp elt [c] scope _ => decide (c.is_async = 0) && (blkC Γ.N Γ.sc scope own && (noSet c.iter && ((gsl g).all (fun i => decide (i ∈ own.map (·.2))) && (cI t Γ it c.iter && (cG t (blkΓ Γ scope) g c.target && (cTs t (blkΓ Γ scope) ts c.ifs && cE t (blkΓ Γ scope) e elt))))))
  | _, _ => false
def cEs (t : Tb) (Γ : Ct) : Es → List Expr → Bool
  | .nil, [] => true
  | .cons e es, a :: as => noStar a && (cE t Γ e a && cEs t Γ es as)
  | _, _ => false
def cKV (t : Tb) (Γ : Ct) : Kvs → List (Option Expr) → List Expr → Bool
  | .nil, [], [] => true
  | .cons k e r, some k' :: ks, e' :: vs => cE t Γ k k' && (cE t Γ e e' && cKV t Γ r ks vs)
  | _, _, _ => false
def cB (t : Tb) (Γ : Ct) : Es → List Expr → Bool
  | .cons e .nil, [a] => cE t Γ e a
  | .cons e (.cons e2 es), a :: b :: as => cE t Γ e a && cB t Γ (.cons e2 es) (b :: as)
  | _, _ => false
def cO (t : Tb) (Γ : Ct) : Oe → Option Expr → Bool
  | .none, none => true
  | .some e, some a => cE t Γ e a
  | _, _ => false
def cT (t : Tb) (Γ : Ct) : T → Expr → Bool
  | .val e, a => plainT a && cE t Γ e a
  | .cmp op a b, .Compare a' [op'] [b'] _ => decide (copOf op = op') && (noSet b' && (cE t Γ a a' && cE t Γ b b'))
  | .chain op op2 a b c, .Compare a' [op', op2'] [b', c'] _ => decide (copOf op = op') && (decide (copOf op2 = op2') && (noSet c' && (cE t Γ a a' && (cE t Γ b b' && cE t Γ c c'))))
  | .not c, .UnaryOp .Not a' _ => cT t Γ c a'
  | .bop k ts, .BoolOp op as _ => decide (op = if k then .And else .Or) && cBT t Γ ts as
  | _, _ => false
def cBT (t : Tb) (Γ : Ct) : Ts → List Expr → Bool
  | .cons e .nil, [a] => cT t Γ e a
  | .cons e (.cons e2 es), a :: b :: as => cT t Γ e a && cBT t Γ (.cons e2 es) (b :: as)
  | _, _ => false
def cTs (t : Tb) (Γ : Ct) : Ts → List Expr → Bool
  | .nil, [] => true
  | .cons c .nil, [a] => cT t Γ c a
  | _, _ => false
def cG (t : Tb) (Γ : Ct) : G → Expr → Bool
  | .slot i, .Name x _ => locC Γ i x
  | .tup gs, .Tuple as _ _ => as.all noStar && cGs t Γ gs as
  | .sub _ a i, .Subscript a' i' _ => noSlice i' && (cE t Γ a a' && cE t Γ i i')
  | _, _ => false
def cGs (t : Tb) (Γ : Ct) : Gs → List Expr → Bool
  | .nil, [] => true
  | .cons g gs, a :: as => noStar a && (cG t Γ g a && cGs t Γ gs as)
  | _, _ => false
def cI (t : Tb) (Γ : Ct) : I → Expr → Bool
  | .seq e, a => cE t Γ e a
  | .keys e, a => cE t Γ e a
  | .vals e, .Call (.Attribute a n apos) [] [] cpos => decide (n = "values") && (noCall0 a && ((apos.endLine == cpos.line) && cE t Γ e a))
  | .rng (.cons e .nil), .Call (.Name x _) [a] [] _ => glC Γ x && (decide (x = "range") && (decide (("range" : Str) ∈ t.free) && (noStar a && cE t Γ e a)))
  | .rng (.cons e (.cons e2 .nil)), .Call (.Name x _) [a, b] [] _ => glC Γ x && (decide (x = "range") && (decide (("range" : Str) ∈ t.free) && (noStar a && (noStar b && (cE t Γ e a && cE t Γ e2 b)))))
  | _, _ => false
end
/-- name = [..] is stored from within the block -/
def celC (Γ : Ct) (x : Str) : Bool := match Γ.sc.names.lookup x with | some .cell => true | _ => false
def swapC (Γ : Ct) (y : Str) (py : Pos) (scope : Scope) (pos : Pos) : Bool :=
  (match Γ.sc.kind with | .function => true | _ => false) && (decide (Γ.sc.names.lookup y = some .local) && ((py.line == pos.line) && !(scope.names.any fun (n, k) => n == y && (k == .local || k == .cell))))
mutual
def cS (t : Tb) (Γ : Ct) : S → Stmt → Bool
  | .asg (.slot i) e, .Assign [.Name x _] a _ => locC Γ i x && ((noComp a || celC Γ x) && cE t Γ e a)
  | .asg (.tup gs) e, .Assign [.Tuple as k p] (.Call f bs ks q) _ => cG t Γ (.tup gs) (.Tuple as k p) && cE t Γ e (.Call f bs ks q)
  | .asg (.tup gs) e, .Assign [.Tuple as k p] (.Name y q) _ => cG t Γ (.tup gs) (.Tuple as k p) && cE t Γ e (.Name y q)
  | .asg (.sub k a i) e, .Assign [.Subscript a' i' p] b _ => cG t Γ (.sub k a i) (.Subscript a' i' p) && cE t Γ e b
  | .setLc i e, .Assign [.Name y py] (.ListComp elt gs scope pos) _ => locC Γ i y && (swapC Γ y py scope pos && cE t Γ e (.ListComp elt gs scope pos))
  | .expr e, .Expr a _ => noComp a && cE t Γ e a
  | .ret e, .Return (some a) _ => cE t Γ e a
  | .retN, .Return none _ => true
  | .ife c a b, .If c' a' b' _ => cT t Γ c c' && (cSs t Γ a a' && cSs t Γ b b')
  | .whl c b, .While c' b' [] _ => cT t Γ c c' && cSs t Γ b b'
  | .for_ g it b, .For tg iter b' [] _ => noSet iter && (cI t Γ it iter && (cG t Γ g tg && cSs t Γ b b'))
  | .forL g e b, .For tg iter b' [] _ => noSet iter && (cE t Γ e iter && (cG t Γ g tg && cSs t Γ b b'))
  | .pass, .Pass _ => true
  | .cont, .Continue _ => true
  | _, _ => false
def cSs (t : Tb) (Γ : Ct) : Ss → List Stmt → Bool
  | .nil, [] => true
  | .cons s ss, a :: as => cS t Γ s a && cSs t Γ ss as
  | _, _ => false
end
end Y

set_option linter.all false
set_option maxRecDepth 100000
set_option Elab.async false
/-! YD: more wishes; a list in progress; where the look is used. -/
namespace Y
open PySem L2 PySem.SeqAt
variable {cad : En}

/-! ### wishes -/
section
variable (X : Cx)
def WG (tg : Expr) : TG := fun v σ H Q => ∀ pins s u, Inv X pins σ H s → RelV v u → wpAny (model X.prog X.w) X.A (assign tg X.env u) (fun _ s' => ∃ σ' H', Inv X pins σ' H' s' ∧ Q σ' H') X.xe s
def WGs (ts : List Expr) : TGs := fun vs σ H Q => ∀ pins s us, Inv X pins σ H s → Vals vs us → wpAny (model X.prog X.w) X.A (assignInOrder ((assignEach ts X.env).map (·.2)) us) (fun _ s' => ∃ σ' H', Inv X pins σ' H' s' ∧ Q σ' H') X.xe s
def WI (tg iter : Expr) : TI := fun σ H R => ∀ pins s, Inv X pins σ H s → wpAny (model X.prog X.w) X.A (eval iter X.env) (fun v s1 => wpAny (model X.prog X.w) X.A (pyIter v) (PIE X pins σ tg R) X.xe s1) X.xe s
def WTs (ifs : List Expr) : TT := fun σ H Q => ∀ pins s, Inv X pins σ H s → wpAny (model X.prog X.w) X.A (forIn ifs true fun c r => if r = true then do let ok ← isTrue c X.env (eval c X.env); pure (ForInStep.yield ok) else pure (ForInStep.yield r)) (TP X pins σ Q) X.xe s
def WS (st : Stmt) : TS := fun D σ H => ∀ pins s, Inv X pins σ H s → wpAny (model X.prog X.w) X.A (exec st X.env) (SP X pins D) X.xe s
def WSs (st : List Stmt) : TS := fun D σ H => ∀ pins s, Inv X pins σ H s → wpAny (model X.prog X.w) X.A (execs st X.env) (SP X pins D) X.xe s
end
section
variable {X : Cx} {σ : L2.St} {H : Hp}
theorem pg (e : Expr) : PG X e (WG X e) := ⟨fun pins s σ H v u Q I r h => h pins s u I r⟩
theorem pgs (e : List Expr) : PGs X e (WGs X e) := ⟨fun pins s σ H v u Q I r h => h pins s u I r⟩
theorem pi_ (tg e : Expr) : PI X tg e (WI X tg e) := ⟨fun pins s σ H R I h => h pins s I⟩
theorem pts (e : List Expr) : PTs X e (WTs X e) := ⟨fun pins s σ H Q I h => h pins s I⟩
theorem ps (e : Stmt) : PS X e (WS X e) := ⟨fun pins s σ H D I h => h pins s I⟩
theorem pss (e : List Stmt) : PSs X e (WSs X e) := ⟨fun pins s σ H D I h => h pins s I⟩
theorem wg_of {e : Expr} {t : TG} {v : V} {Q : L2.St → Hp → Prop} (h : PG X e t) (q : t v σ H Q) : WG X e v σ H Q := fun pins s u I r => h.run pins s σ H v u Q I r q
theorem wgs_of {e : List Expr} {t : TGs} {v : List V} {Q : L2.St → Hp → Prop} (h : PGs X e t) (q : t v σ H Q) : WGs X e v σ H Q := fun pins s u I r => h.run pins s σ H v u Q I r q
theorem wi_of {tg e : Expr} {t : TI} {R : It → Hp → Prop} (h : PI X tg e t) (q : t σ H R) : WI X tg e σ H R := fun pins s I => h.run pins s σ H R I q
theorem wts_of {e : List Expr} {t : TT} {Q : Bool → Hp → Prop} (h : PTs X e t) (q : t σ H Q) : WTs X e σ H Q := fun pins s I => h.run pins s σ H Q I q
theorem ws_of {e : Stmt} {t : TS} {D : Ends} (h : PS X e t) (q : t D σ H) : WS X e D σ H := fun pins s I => h.run pins s σ H D I q
theorem wss_of {e : List Stmt} {t : TS} {D : Ends} (h : PSs X e t) (q : t D σ H) : WSs X e D σ H := fun pins s I => h.run pins s σ H D I q
/-- a dict is locked behind an expression -/
theorem WE.lock {e : Expr} {Q : VK} (h : WE X e σ H fun v H1 => ∃ d u, v = .ref d ∧ H1 d = some u ∧ Mut (some u) ∧ ∀ od, Q v (upd H1 d (.frz od u))) : WE X e σ H Q := fun pins s I =>
  thn (h pins s I) fun u s' ⟨v, H', I', r, d, o, ev, hd, mu, q⟩ => by
    obtain ⟨od, I2⟩ := I'.lock hd mu
    exact ⟨v, _, I2, r, q od⟩
end

/-! ### a list (a dict) in progress -/
section
variable {K : PySem.W.Frag} {w : Wd} {st : Store}
/-- a new object, hidden -/
abbrev Wd.hid (w : Wd) (p : Addr) (o : HO) : Wd := { w with H := upd w.H p o, xt := p :: w.xt }
theorem hid_mem {p : Addr} {o : HO} {a : Addr} : a ∈ (w.hid p o).M ↔ a = p ∨ a ∈ w.M := by
  show a ∈ w.owns.flatten ++ (p :: w.xt) ↔ a = p ∨ a ∈ w.owns.flatten ++ w.xt
  simp only [List.mem_append, List.mem_cons]
  constructor
  · rintro (h | h | h)
    · exact .inr (.inl h)
    · exact .inl h
    · exact .inr (.inr h)
  · rintro (h | h | h)
    · exact .inr (.inl h)
    · exact .inl h
    · exact .inr (.inr h)
theorem hid_F (s : SR K cad w st) {p : Addr} {o : HO} (hp : w.H p = none) : (w.hid p o).F = w.F := by
  funext a
  show hide (upd w.H p o) (w.hid p o).M a = hide w.H w.M a
  by_cases h : a = p
  · subst h
    unfold hide
    rw [if_pos (hid_mem.mpr (.inl rfl)), if_neg (s.fresh hp), hp]
  · by_cases h2 : a ∈ w.M
    · unfold hide
      rw [if_pos (hid_mem.mpr (.inr h2)), if_pos h2]
    · rw [hide_of h2, hide_of (fun z => (hid_mem.mp z).elim h h2), upd_ne h]
theorem hid_sr (s : SR K cad w st) {p : Addr} {o : HO} (hp : w.H p = none) : SR K cad (w.hid p o) st := by
  refine ⟨s.lt, s.lo, ?_, fun a ha => ?_, fun n c h => ?_⟩
  · have nd := s.nd
    have hf := s.fresh hp
    show (w.owns.flatten ++ (p :: w.xt)).Nodup
    rw [List.nodup_append] at nd ⊢
    refine ⟨nd.1, ?_, fun a ha b hb => ?_⟩
    · rw [List.nodup_cons]
      exact ⟨fun z => hf (List.mem_append_right _ z), nd.2.1⟩
    · rcases List.mem_cons.mp hb with rfl | hb
      · rintro rfl
        exact hf (List.mem_append_left _ ha)
      · exact nd.2.2 a ha b hb
  · rcases List.mem_cons.mp ha with rfl | ha
    · exact ⟨o, upd_same⟩
    · obtain ⟨u, e⟩ := s.xd a ha
      exact ⟨u, by show upd w.H p o a = _; rw [upd_ne (ne_of_none e hp)]; exact e⟩
  · obtain ⟨a, own, h1, h2, h3⟩ := s.cl n c h
    refine ⟨a, own, h1, h2, ?_⟩
    rw [hid_F s hp]
    refine h3.at_ (H' := upd w.H p o) fun b hb => ?_
    obtain ⟨u, e⟩ := h3.there b hb
    rw [upd_ne (ne_of_none e hp)]
/-- it is written -/
theorem xw_F {p : Addr} {o : HO} (hp : p ∈ w.xt) : (w.new p o).F = w.F := write_F (List.mem_append_right _ hp)
theorem xw_sr (s : SR K cad w st) {p : Addr} {o : HO} (hp : p ∈ w.xt) : SR K cad (w.new p o) st := by
  refine ⟨s.lt, s.lo, s.nd, fun a ha => ?_, fun n c h => ?_⟩
  · by_cases e : a = p
    · subst e; exact ⟨o, upd_same⟩
    · obtain ⟨u, q⟩ := s.xd a ha
      exact ⟨u, (upd_ne e).trans q⟩
  · obtain ⟨a, own, h1, h2, h3⟩ := s.cl n c h
    refine ⟨a, own, h1, h2, ?_⟩
    rw [xw_F hp]
    refine h3.at_ (H' := upd w.H p o) fun b hb => upd_ne ?_
    rintro rfl
    exact (List.nodup_append.mp s.nd).2.2 b (mem_flat h2 hb) b hp rfl
/-- it becomes data -/
theorem unhide {p : Addr} {X : List Addr} (s : SR K cad w st) (hx : w.xt = p :: X) : Ext w.F ({ w with xt := X } : Wd).F ∧ SR K cad { w with xt := X } st ∧ ∀ o, w.H p = some o → ({ w with xt := X } : Wd).F p = some o := by
  have hm : ∀ a, a ∈ ({ w with xt := X } : Wd).M → a ∈ w.M := fun a ha => by
    show a ∈ w.owns.flatten ++ w.xt
    rw [hx]
    rcases List.mem_append.mp ha with h | h
    · exact List.mem_append_left _ h
    · exact List.mem_append_right _ (List.mem_cons_of_mem _ h)
  have nd := s.nd
  rw [show w.M = w.owns.flatten ++ (p :: X) from by show w.owns.flatten ++ w.xt = _; rw [hx]] at nd
  have ex : Ext w.F ({ w with xt := X } : Wd).F := .of fun a o h => by
    obtain ⟨h1, h2⟩ := hide_some h
    show hide w.H ({ w with xt := X } : Wd).M a = some o
    rw [hide_of (fun z => h2 (hm a z))]
    exact h1
  rw [List.nodup_append] at nd
  obtain ⟨n1, n2, n3⟩ := nd
  rw [List.nodup_cons] at n2
  refine ⟨ex, ⟨s.lt, s.lo, ?_, fun a ha => s.xd a (by rw [hx]; exact List.mem_cons_of_mem _ ha), fun n c h => ?_⟩, fun o h => ?_⟩
  · show (w.owns.flatten ++ X).Nodup
    rw [List.nodup_append]
    exact ⟨n1, n2.2, fun a ha b hb => n3 a ha b (List.mem_cons_of_mem _ hb)⟩
  · obtain ⟨a, own, h1, h2, h3⟩ := s.cl n c h
    exact ⟨a, own, h1, h2, h3.mono ex ⟨[], by simp⟩⟩
  · show hide w.H (w.owns.flatten ++ X) p = some o
    rw [hide_of]
    · exact h
    · intro z
      rcases List.mem_append.mp z with z | z
      · exact n3 p z p List.mem_cons_self rfl
      · exact n2.1 z
/-- it becomes a cell -/
theorem cellify {p : Addr} {X : List Addr} {c : CellC} (s : SR K cad w st) (hx : w.xt = p :: X) (hc : Ce K cad w.H w.F (w.tops ++ [p]) p [p] c) :
    Ext w.F ({ w with xt := X, tops := w.tops ++ [p], owns := w.owns ++ [[p]] } : Wd).F ∧ SR K cad { w with xt := X, tops := w.tops ++ [p], owns := w.owns ++ [[p]] } (st ++ [c]) := by
  have eM : ∀ a, a ∈ ({ w with xt := X, tops := w.tops ++ [p], owns := w.owns ++ [[p]] } : Wd).M ↔ a ∈ w.M := fun a => by
    show a ∈ (w.owns ++ [[p]]).flatten ++ X ↔ a ∈ w.owns.flatten ++ w.xt
    rw [hx]
    simp [List.flatten_append, List.mem_append, or_assoc]
  have eF : ({ w with xt := X, tops := w.tops ++ [p], owns := w.owns ++ [[p]] } : Wd).F = w.F := by
    funext a
    show hide w.H _ a = hide w.H w.M a
    by_cases h : a ∈ w.M
    · unfold hide
      rw [if_pos h, if_pos ((eM a).mpr h)]
    · rw [hide_of h, hide_of (fun z => h ((eM a).mp z))]
  refine ⟨by rw [eF]; exact Ext.refl _, ⟨by show (w.tops ++ [p]).length = _; simp [s.lt], by show (w.owns ++ [[p]]).length = _; simp [s.lo], ?_, fun a ha => s.xd a (by rw [hx]; exact List.mem_cons_of_mem _ ha), fun n c' h => ?_⟩⟩
  · have nd := s.nd
    show ((w.owns ++ [[p]]).flatten ++ X).Nodup
    rw [show w.M = w.owns.flatten ++ (p :: X) from by show w.owns.flatten ++ w.xt = _; rw [hx]] at nd
    simpa [List.flatten_append, List.append_assoc] using nd
  · rw [eF]
    by_cases hn : n < st.length
    · rw [List.getElem?_append_left hn] at h
      obtain ⟨a, own, h1, h2, h3⟩ := s.cl n c' h
      refine ⟨a, own, ?_, ?_, h3.mono (Ext.refl _) ⟨[p], rfl⟩⟩
      · show (w.tops ++ [p])[n]? = some a
        rw [List.getElem?_append_left (by rw [s.lt]; exact hn)]
        exact h1
      · show (w.owns ++ [[p]])[n]? = some own
        rw [List.getElem?_append_left (by rw [s.lo]; exact hn)]
        exact h2
    · have hn' : n = st.length := by
        have := (List.getElem?_eq_some_iff.mp h).1
        simp at this
        omega
      subst hn'
      rw [List.getElem?_append_right (Nat.le_refl _)] at h
      simp at h
      subst h
      refine ⟨p, [p], ?_, ?_, hc⟩
      · show (w.tops ++ [p])[st.length]? = some p
        rw [← s.lt]; simp
      · show (w.owns ++ [[p]])[st.length]? = some [p]
        rw [← s.lo]; simp
/-- from w on, with p in progress -/
structure Lp (w : Wd) (p : Addr) (w' : Wd) : Prop where
  tp : ∃ m, w'.tops = w.tops ++ m
  ex : Ext w.F w'.F
  xt : w'.xt = p :: w.xt
  xk : ∀ a ∈ w.xt, w'.H a = w.H a
theorem Lp.start (s : SR K cad w st) {p : Addr} {o : HO} (hp : w.H p = none) : Lp w p (w.hid p o) := by
  refine ⟨⟨[], by simp⟩, by rw [hid_F s hp]; exact Ext.refl _, rfl, fun a ha => ?_⟩
  obtain ⟨u, e⟩ := s.xd a ha
  show upd w.H p o a = w.H a
  rw [upd_ne (ne_of_none e hp)]
theorem Lp.le {p : Addr} {w' w2 : Wd} (l : Lp w p w') (h : Le w' w2) : Lp w p w2 := by
  obtain ⟨⟨m, e1⟩, ex, x, k⟩ := l
  obtain ⟨⟨n, e2⟩, ex2, x2, k2⟩ := h
  exact ⟨⟨m ++ n, by rw [e2, e1, List.append_assoc]⟩, ex.trans ex2, x2.trans x, fun b hb => (k2 b (by rw [x]; exact List.mem_cons_of_mem _ hb)).trans (k b hb)⟩
theorem Lp.write {p : Addr} {w' : Wd} {o : HO} (l : Lp w p w') (hp : p ∉ w.xt) : Lp w p (w'.new p o) := by
  refine ⟨l.tp, by rw [xw_F (by rw [l.xt]; exact List.mem_cons_self)]; exact l.ex, l.xt, fun a ha => ?_⟩
  show upd w'.H p o a = w.H a
  rw [upd_ne (by rintro rfl; exact hp ha)]
  exact l.xk a ha
theorem Lp.rv {p : Addr} {w' : Wd} (l : Lp w p w') {v : V} {x : Val} (h : RvW K cad w v x) : RvW K cad w' v x := h.mono l.ex l.tp
/-- what was in progress is there: data, or a cell -/
theorem lp_end {p : Addr} {w2 : Wd} {o : Bool} {xs : List V} {vs : List Val} {st st' : Store} {z : Val} (l : Lp w p w2) (s : SR K cad w2 st) (hp : w2.H p = some (.lst xs)) (r : RvLW K cad w2 xs vs) (e : mkL o vs st = some (z, st')) :
    ∃ w3, Le w w3 ∧ w3.H = w2.H ∧ SR K cad w3 st' ∧ RvW K cad w3 (.ref p) z := by
  cases o with
  | true =>
    simp only [mkL, if_true] at e
    cases e
    obtain ⟨ex, s'⟩ := cellify s l.xt (.lst hp (r.mono (Ext.refl _) ⟨[p], rfl⟩))
    obtain ⟨m, hm⟩ := l.tp
    refine ⟨_, ⟨⟨m ++ [p], by show w2.tops ++ [p] = _; rw [hm, List.append_assoc]⟩, l.ex.trans ex, rfl, l.xk⟩, rfl, s', .cell ?_⟩
    show (w2.tops ++ [p])[st.length]? = some p
    rw [← s.lt]; simp
  | false =>
    simp only [mkL, Bool.false_eq_true, if_false] at e
    cases q1 : frzs st vs with
    | none => rw [q1] at e; cases e
    | some k =>
      obtain ⟨ps, st1⟩ := k
      rw [q1] at e
      cases e
      obtain ⟨w4, l4, e4, s4, rp⟩ := frzs_val s r q1
      have l5 := l.le l4
      obtain ⟨ex, s5, hF⟩ := unhide s4 l5.xt
      refine ⟨{ w4 with xt := w.xt }, ⟨l5.tp, l5.ex.trans ex, rfl, l5.xk⟩, e4, s5, .pu (.lst (SqL.of (hF _ (by rw [e4]; exact hp))) (RpL.mono ex _ _ rp))⟩
end

/-! ### where the look is used -/
structure SameX (X Y : Cx) : Prop where
  prog : Y.prog = X.prog
  w : Y.w = X.w
  K : Y.K = X.K
  mg : Y.mg = X.mg
  base : Y.base = X.base
  A : Y.A = X.A
  calm : Y.calm = X.calm
  xe : ∀ e s, ¬ Y.xe e s
theorem SameX.trans {X Y Z : Cx} (a : SameX X Y) (b : SameX Y Z) : SameX X Z :=
  ⟨b.prog.trans a.prog, b.w.trans a.w, b.K.trans a.K, b.mg.trans a.mg, b.base.trans a.base, b.A.trans a.A, b.calm.trans a.calm, b.xe⟩
structure Cok (cad : En) (t : Tb) (C : Cfg) (Γ : Ct) (X : Cx) : Prop extends XOk2 X where
  N : X.N = Γ.N
  sc : X.env.scope = Γ.sc
  xe : ∀ e s, ¬ X.xe e s
  fnx : ∀ x, fnC Γ x = true → X.fn x = true
  ct : C.ct = cad.ct
  free : ∀ x ∈ t.free, X.mg x = none
  glb : ∀ (g : Nat) (p : P) (x : Str), C.glob g = some p → t.gls[g]? = some x → ∃ (u : Value) (v : V), X.mg x = some u ∧ RelV v u ∧ ∀ F : Hp, Rp X.K cad F v p
  calls : ∀ (f : Nat) (x : Str), t.fns[f]? = some x → ∃ a : Addr, X.mg x = some (.ref a) ∧ PySem.W.keepIn X.K (.ref a) = true ∧
    ∀ (Y : Cx), SameX X Y → ∀ (w : Wd) (st st' : Store) (xs : List V) (vs : List Val) (v : Val) (Q : VK), C.call f vs st = some (v, st') → SR Y.K cad w st → RvLW Y.K cad w xs vs → Post Y cad w st' v Q → WCall Y (.ref a) xs w.H Q
theorem Cok.same {t : Tb} {C : Cfg} {Γ Γ' : Ct} {X Y : Cx} (k : Cok cad t C Γ X) (m : SameX X Y) (hN : Y.N = Γ'.N) (hn : Γ'.N = Γ.N) (hs : Y.env.scope = Γ'.sc) (hf : ∀ x, fnC Γ' x = true → Y.fn x = true) : Cok cad t C Γ' Y where
  calm := m.calm.trans k.calm
  un := by rw [m.A]; exact k.un
  nd := by rw [hN, hn, ← k.N]; exact k.nd
  gd := by rw [m.A]; exact k.gd
  sm := by rw [m.K]; exact k.sm
  N := hN
  sc := hs
  xe := m.xe
  fnx := hf
  ct := k.ct
  free := fun x hx => by rw [m.mg]; exact k.free x hx
  glb := fun g p x h1 h2 => by
    obtain ⟨u, v, a, b, c⟩ := k.glb g p x h1 h2
    exact ⟨u, v, by rw [m.mg]; exact a, b, by rw [m.K]; exact c⟩
  calls := fun f x h => by
    obtain ⟨a, h1, h2, h3⟩ := k.calls f x h
    exact ⟨a, by rw [m.mg]; exact h1, by rw [m.K]; exact h2, fun Z mz => h3 Z (m.trans mz)⟩
theorem Cok.blk {t : Tb} {C : Cfg} {Γ : Ct} {X : Cx} (k : Cok cad t C Γ X) (s : Shared) (H : Hp) (scope : Scope) (D : Addr) (cl : List (Str × Addr)) (fp : List Addr) : Cok cad t C (blkΓ Γ scope) (X.blk s H scope (compEnvC scope cl D X.env) fp) :=
  k.same (Y := X.blk s H scope (compEnvC scope cl D X.env) fp) ⟨rfl, rfl, rfl, rfl, rfl, rfl, rfl, fun _ _ h => h⟩ k.N rfl (by
    show relS scope X.env.scope = relS scope Γ.sc
    rw [k.sc]) fun x h => h
end Y

set_option linter.all false
set_option maxRecDepth 100000
set_option Elab.async false
/-! YE: what the evaluator answers is what the program does: expressions. Written by gen_YE.py. -/
namespace Y
open PySem L2 PySem.SeqAt
variable {cad : En} {t : Tb} {C : Cfg}

section
variable {X : Cx} {σ : L2.St} {H : Hp} {a b : Expr} {rest : List Expr} {pos : Pos} {Q : VK}
theorem we_and (h : WE X a σ H fun x H1 => WTru X x H1 fun c H2 => if c = true then WE X (.BoolOp .And (b :: rest) pos) σ H2 Q else Q x H2) : WE X (.BoolOp .And (a :: b :: rest) pos) σ H Q := fun pins s I => by
  refine PyProof.Rows.BoolOp_and (thn (h pins s I) fun v s1 ⟨x, H1, I1, r1, q1⟩ => thn (q1 pins s1 σ v I1 r1) fun c s2 ⟨H2, I2, q2⟩ => ?_)
  cases c with
  | true => exact q2 pins s2 I2
  | false => exact ⟨x, H2, I2, r1, q2⟩
theorem we_or (h : WE X a σ H fun x H1 => WTru X x H1 fun c H2 => if c = true then Q x H2 else WE X (.BoolOp .Or (b :: rest) pos) σ H2 Q) : WE X (.BoolOp .Or (a :: b :: rest) pos) σ H Q := fun pins s I => by
  refine PyProof.Rows.BoolOp_or (thn (h pins s I) fun v s1 ⟨x, H1, I1, r1, q1⟩ => thn (q1 pins s1 σ v I1 r1) fun c s2 ⟨H2, I2, q2⟩ => ?_)
  cases c with
  | true => exact ⟨x, H2, I2, r1, q2⟩
  | false => exact q2 pins s2 I2
theorem we_not (h : WE X a σ H fun x H1 => WTru X x H1 fun c H2 => Q (.bl (!c)) H2) : WE X (.UnaryOp .Not a pos) σ H Q := fun pins s I => by
  refine PyProof.Rows.UnaryOp_ (thn (h pins s I) fun v s1 ⟨x, H1, I1, r1, q1⟩ => ?_)
  exact PyProof.Rows.not_of (thn (q1 pins s1 σ v I1 r1) fun c s2 ⟨H2, I2, q2⟩ => ⟨.bl (!c), H2, I2, rfl, q2⟩)
theorem wt_val {Q : Bool → Hp → Prop} (ht : plainT a = true) (h : WE X a σ H fun x H1 => WTru X x H1 Q) : WT X a σ H Q := fun pins s I =>
  PyProof.Rows.isTrue_plain (thn (h pins s I) fun v s1 ⟨x, H1, I1, r1, q1⟩ => q1 pins s1 σ v I1 r1) (isT_of ht _)
/-- f(..), f the value of a global name -/
theorem we_call {x : Str} {p : Pos} {f : Addr} {e : Expr} {es : List Expr} (hg : Gl X x) (hm : X.mg x = some (.ref f)) (hd : (x == ("__debug__" : Str)) = false) (hk : PySem.W.keepIn X.K (.ref f) = true) (hst : (e :: es).all noStar = true) (h : WA X (e :: es) σ H fun xs H1 => WCall X (.ref f) xs H1 Q) : WE X (.Call (.Name x p) (e :: es) [] pos) σ H Q := fun pins s I => by
  refine wpAny_Call_Name_kw (ld_glob I hg hm ?_ hd)
  rw [List.all_cons, Bool.and_eq_true] at hst
  refine PySem.W.callWith_K (h₀ := X.base) I.ok.mod.kin hk (thn (h pos pins s I) fun us s1 ⟨vs, H1, I1, r, q⟩ => ⟨I1.kIn, ?_⟩) (star_of hst.1) (anyStar hst.2)
  exact q pins s1 σ us I1 r
theorem we_call0 {x : Str} {p : Pos} {f : Addr} (hg : Gl X x) (hm : X.mg x = some (.ref f)) (hd : (x == ("__debug__" : Str)) = false) (hk : PySem.W.keepIn X.K (.ref f) = true) (h : WCall X (.ref f) [] H Q) : WE X (.Call (.Name x p) [] [] pos) σ H Q := fun pins s I => by
  refine wpAny_Call_Name_kw (ld_glob I hg hm ?_ hd)
  exact PySem.W.callWith_K0 I.kIn hk (h pins s σ [] I .nil)
/-- a built-in function, a built-in type -/
def isBi : Value → Prop
  | .builtin _ => True
  | .type _ => True
  | _ => False
theorem we_bi {x : Str} {p : Pos} {f : Value} {e : Expr} {es : List Expr} (hf : isBi f) (hg : Gl X x) (hm : X.mg x = none) (hv : bootBuiltins x = some f) (hn : x ≠ "__name__") (hd : (x == ("__debug__" : Str)) = false) (hst : (e :: es).all noStar = true) (h : WA X (e :: es) σ H fun xs H1 => WCall X f xs H1 Q) : WE X (.Call (.Name x p) (e :: es) [] pos) σ H Q := by
  rw [List.all_cons, Bool.and_eq_true] at hst
  cases f with
  | builtin id => exact we_of (pe_callB wcall hg hm hv (pa _) hn hd (star_of hst.1) (anyStar hst.2)) h
  | type T => exact we_of (pe_callTy wcall hg hm hv (pa _) hn hd (star_of hst.1) (anyStar hst.2)) h
  | _ => exact hf.elim
theorem boot_of (bb : Bi) : bootBuiltins (biN bb) = some (biV bb) := by cases bb <;> rfl
theorem isBi_of (bb : Bi) : isBi (biV bb) := by cases bb <;> trivial
theorem boot_ty1 : bootBuiltins "int" = some (.type "int") := by rfl
theorem boot_ty2 : bootBuiltins "list" = some (.type "list") := by rfl
/-- o.m(..) of a built-in type -/
def TyS (X : Cx) (T : String) (x : V) (H : Hp) : Prop := ∀ pins s v (σ : L2.St), Inv X pins σ H s → RelV x v → s.TypeIs v T ∧ ∀ a, v = .ref a → ∃ ob, s.heap.get? a = some ob ∧ ob.dict = none
theorem we_bm0 {T id : String} {name : Str} {o : Expr} {apos cpos : Pos} (pa : PlainAttrs T) (slot : Slot T name id) (hty : typeOf (.builtin id) = pure (.type "method_descriptor")) (hb : noCall0 o = true) (hline : (apos.endLine == cpos.line) = true)
    (h : WE X o σ H fun x H1 => TyS X T x H1 ∧ WCall X (.builtin id) [x] H1 Q) : WE X (.Call (.Attribute o name apos) [] [] cpos) σ H Q := fun pins s I => by
  refine wpAny_Call_method0_late (base_of hb) hline (thn (h pins s I) fun v s1 ⟨x, H1, I1, r1, ty, q1⟩ => ?_)
  obtain ⟨h1, h2⟩ := ty pins s1 v σ I1 r1
  exact ⟨T, id, pa, slot, hty, h1, h2, Calls.callWith_builtin rfl (PySem.evalArgs_none (q1 pins s1 σ [v] I1 (.cons r1 .nil)))⟩
theorem we_bm {T id : String} {name : Str} {o e : Expr} {es : List Expr} {apos cpos : Pos} (pa : PlainAttrs T) (slot : Slot T name id) (hty : typeOf (.builtin id) = pure (.type "method_descriptor")) (hb : noCall0 o = true) (hline : (apos.endLine == cpos.line) = true) (h30 : (e :: es).length < 30) (hst : (e :: es).all noStar = true)
    (h : WE X o σ H fun x H1 => TyS X T x H1 ∧ WA X (e :: es) σ H1 fun xs H2 => WCall X (.builtin id) (x :: xs) H2 Q) : WE X (.Call (.Attribute o name apos) (e :: es) [] cpos) σ H Q := fun pins s I => by
  have hst' := hst
  rw [List.all_cons, Bool.and_eq_true] at hst
  refine wpAny_Call_method_late (base_of hb) (by rw [allStar hst', Bool.true_and]; simpa [keywordEach, backToKw] using h30) hline rfl (thn (h pins s I) fun v s1 ⟨x, H1, I1, r1, ty, q1⟩ => ?_)
  obtain ⟨h1, h2⟩ := ty pins s1 v σ I1 r1
  refine ⟨T, id, pa, slot, hty, h1, h2, ?_⟩
  have hA := q1 cpos pins s1 I1
  rw [star_of hst.1] at hA ⊢
  refine Calls.callWith_builtin (by show (false || (backTo cpos (starEach es X.env)).any (·.1)) = false; rw [anyStar hst.2] <;> rfl) (Calls.evalArgs_plain ?_)
  exact thn hA fun us s2 ⟨vs, H2, I2, r2, q2⟩ => q2 pins s2 σ (v :: us) I2 (.cons r1 r2)
theorem tyS_of {w : Wd} {st : Store} {x : Val} {v : V} {m : Bm} (s : SR X.K cad w st) (r : RvW X.K cad w v x) (h : isTy (bmT m) (view st x) = true) : TyS X (bmT m) v w.H := by
  intro pins sh u σ' I ru
  cases v1 : view st x with
  | none => rw [v1] at h; cases h
  | some k =>
    have hv := view_ok s r v1
    rw [v1] at h
    cases k with
    | seqL ys =>
      obtain ⟨l, vs, rfl, hl, _⟩ := hv
      cases ru
      obtain ⟨_, _, pl, _⟩ := I.list hl
      have hT : bmT m = "list" := by simpa [isTy] using h
      rw [hT]
      refine ⟨pl.isList.typeIs, fun a e => ?_⟩
      cases e
      obtain ⟨o, n, e, c, hd, _⟩ := pl
      exact ⟨o, e, hd⟩
    | dic ys =>
      obtain ⟨l, rfl, hl⟩ := hv
      cases ru
      have hT : bmT m = "dict" := by simpa [isTy] using h
      rw [hT]
      rcases hl with ⟨ks, h1, _⟩ | ⟨ks, h1, _⟩
      · obtain ⟨_, _, _, _, o, _, _, h1, h2, _⟩ := dk_rd I.hok h1
        exact ⟨⟨o, h1, h2.1⟩, fun a e => by cases e; exact ⟨o, h1, h2.2.1⟩⟩
      · obtain ⟨_, _, _, _, o, _, _, h1, h2, _⟩ := dt_rd I.hok h1
        exact ⟨⟨o, h1, h2.1⟩, fun a e => by cases e; exact ⟨o, h1, h2.2.1⟩⟩
    | str z => exact absurd h (by cases m <;> simp [isTy, bmT])
    | _ => cases h
theorem bm_slot (m : Bm) : PlainAttrs (bmT m) ∧ Slot (bmT m) (bmN m) (bmI m) ∧ typeOf (.builtin (bmI m)) = pure (.type "method_descriptor") := by
  cases m with
  | append => exact ⟨F.plainAttrs_list, F.slot_list_append, F.type_list_append⟩
  | pop => exact ⟨F.plainAttrs_list, F.slot_list_pop, F.type_list_pop⟩
  | popAt => exact ⟨F.plainAttrs_list, F.slot_list_pop, F.type_list_pop⟩
  | insert => exact ⟨F.plainAttrs_list, F.slot_list_insert, F.type_list_insert⟩
  | reverse => exact ⟨F.plainAttrs_list, F.slot_list_reverse, F.type_list_reverse⟩
  | get1 => exact ⟨F.plainAttrs_dict, F.slot_dict_get, F.type_dict_get⟩
  | get2 => exact ⟨F.plainAttrs_dict, F.slot_dict_get, F.type_dict_get⟩
  | setdefault => exact ⟨F.plainAttrs_dict, F.slot_dict_setdefault, F.type_dict_setdefault⟩
  | update => exact ⟨F.plainAttrs_dict, F.slot_dict_update, F.type_dict_update⟩
end
end Y

set_option linter.all false
set_option maxRecDepth 100000
set_option Elab.async false
/-! YF: comprehensions and loops, by what their parts do. -/
namespace Y
open PySem L2 PySem.SeqAt
variable {cad : En}

/-- the iterator yields these -/
def ItR (K : PySem.W.Frag) (cad : En) (w : Wd) (J : It) (items : List Val) : Prop := ∀ (i : Nat) (H2 : Hp), Ext w.F H2 →
  (∀ x, items[i]? = some x → J.go i H2 ∧ ∀ y H', J.yld i H2 y H' → H' = H2 ∧ RvW K cad w y x) ∧ (items.length ≤ i → J.stop i H2)
def Fin (X : Cx) (cad : En) (w : Wd) (fl : Fl) (env : Env) (st : Store) (D : Ends) : Prop := match fl with
  | .nx => ∀ (σ : L2.St) (w' : Wd), Le w w' → SR X.K cad w' st → ER X.K cad w' env σ → D.nx σ w'.H
  | .ct => ∀ (σ : L2.St) (w' : Wd), Le w w' → SR X.K cad w' st → ER X.K cad w' env σ → D.ct σ w'.H
  | .rt v => ∀ (x : V) (w' : Wd), Le w w' → SR X.K cad w' st → RvW X.K cad w' x v → D.rt x w'.H
theorem Fin.le {X : Cx} {w w' : Wd} {fl : Fl} {env : Env} {st : Store} {D : Ends} (l : Le w w') (h : Fin X cad w fl env st D) : Fin X cad w' fl env st D := by
  cases fl with
  | nx => exact fun σ w2 l2 => h σ w2 (l.trans l2)
  | ct => exact fun σ w2 l2 => h σ w2 (l.trans l2)
  | rt v => exact fun σ w2 l2 => h σ w2 (l.trans l2)
theorem drop_at {α : Type} {l : List α} {i : Nat} {x : α} (h : l[i]? = some x) : l.drop i = x :: l.drop (i + 1) := by
  obtain ⟨h1, h2⟩ := List.getElem?_eq_some_iff.mp h
  rw [← h2]
  exact List.drop_eq_getElem_cons h1
section
variable {X : Cx} {σ : L2.St} {Q : VK}
theorem lc_sem {items vs : List Val} {f : Val → Store → Option (List Val × Store)} {w1 : Wd} {st1 st2 st' : Store} {z : Val} {o : Bool} {J : It} {g : TG} {tt : TT} {te : TE} {own : List Nat} (ev : evLc f items st1 = some (vs, st2)) (s1 : SR X.K cad w1 st1) (hz : vs.length ≤ SZ) (em : mkL o vs st2 = some (z, st')) (hJ : ItR X.K cad w1 J items)
    (one : ∀ x st r st', f x st = some (r, st') → r = [] ∨ ∃ y, r = [y]) (q : Post X cad w1 st' z Q) (D : Addr) (hD : w1.H D = none)
    (step : ∀ x w2 st r st' v (K1 : Hp → Prop) (K2 : VK), f x st = some (r, st') → SR X.K cad w2 st → Lp w1 D w2 → RvW X.K cad w2 v x → (∀ w3, Le w2 w3 → SR X.K cad w3 st' → r = [] → K1 w3.H) → (∀ w3 y yv, Le w2 w3 → SR X.K cad w3 st' → r = [y] → RvW X.K cad w3 yv y → K2 yv w3.H) →
      g v (L2.wipe σ own) w2.H fun σ2 H2 => L2.wipe σ2 own = L2.wipe σ own ∧ tt σ2 H2 fun b H3 => if b = true then te σ2 H3 K2 else K1 H3) :
    ∃ W : Nat → Nat → Hp → Prop, (∃ m, W 0 m (upd w1.H D (.lst []))) ∧ ∀ i m H, W i m H →
      (J.stop i H ∧ Q (.ref D) H) ∨ (J.go i H ∧ ∃ Nx : Hp → Prop, (∀ H', Nx H' → ∃ m', m' < m ∧ W (i + 1) m' H') ∧ ∀ x H', J.yld i H x H' → g x (L2.wipe σ own) H' fun σ2 H2 => L2.wipe σ2 own = L2.wipe σ own ∧ tt σ2 H2 fun b H3 =>
        if b = true then te σ2 H3 fun y H4 => ∃ acc, H4 D = some (.lst acc) ∧ acc.length < sizeLine ∧ Nx (upd H4 D (.lst (acc ++ [y]))) else Nx H3) := by
  have hDx : D ∉ w1.xt := fun h => by
    obtain ⟨u, e⟩ := s1.xd D h
    rw [hD] at e; cases e
  refine ⟨fun i m H => m = items.length - i ∧ i ≤ items.length ∧ ∃ w2 sti acc accV rest, H = w2.H ∧ Lp w1 D w2 ∧ SR X.K cad w2 sti ∧ w2.H D = some (.lst accV) ∧ RvLW X.K cad w2 accV acc ∧ evLc f (items.drop i) sti = some (rest, st2) ∧ acc ++ rest = vs, ⟨items.length, by simp, Nat.zero_le _, w1.hid D (.lst []), st1, [], [], vs, rfl, .start s1 hD, hid_sr s1 hD, upd_same, .nil, ev, rfl⟩, ?_⟩
  rintro i m H ⟨rfl, hi, w2, sti, acc, accV, rest, rfl, l2, s2, h2, r2, e2, ea⟩
  obtain ⟨j1, j2⟩ := hJ i w2.H (l2.ex.trans w2.ext)
  cases hx : items[i]? with
  | none =>
    have hle : items.length ≤ i := List.getElem?_eq_none_iff.mp hx
    rw [List.drop_eq_nil_of_le hle] at e2
    cases e2
    rw [List.append_nil] at ea
    subst ea
    obtain ⟨w3, l3, e3, s3, r3⟩ := lp_end l2 s2 h2 r2 em
    refine .inl ⟨j2 hle, ?_⟩
    rw [← e3]
    exact q _ w3 l3 s3 r3
  | some x =>
    obtain ⟨go, yl⟩ := j1 x hx
    have hlt : i < items.length := (List.getElem?_eq_some_iff.mp hx).1
    rw [drop_at hx] at e2
    simp only [evLc] at e2
    split at e2
    · cases e2
    · rename_i xs st3 q1
      split at e2
      · cases e2
      · rename_i ys st4 q2
        cases e2
        refine .inr ⟨go, fun H' => ∃ w2 sti acc accV rest, H' = w2.H ∧ Lp w1 D w2 ∧ SR X.K cad w2 sti ∧ w2.H D = some (.lst accV) ∧ RvLW X.K cad w2 accV acc ∧ evLc f (items.drop (i + 1)) sti = some (rest, st2) ∧ acc ++ rest = vs, fun H' h => ⟨items.length - (i + 1), by omega, rfl, hlt, h⟩, fun v H' hy => ?_⟩
        obtain ⟨rfl, rv⟩ := yl v H' hy
        refine step x w2 sti xs st3 v _ _ q1 s2 l2 (l2.rv rv) (fun w3 l3 s3 e => ?_) fun w3 y yv l3 s3 e ry => ?_
        · subst e
          exact ⟨w3, st3, acc, accV, ys, rfl, l2.le l3, s3, (l3.xk D (by rw [l2.xt]; exact List.mem_cons_self)).trans h2, r2.le l3, q2, by simpa using ea⟩
        · subst e
          have h3 : w3.H D = some (.lst accV) := (l3.xk D (by rw [l2.xt]; exact List.mem_cons_self)).trans h2
          have hm : D ∈ w3.xt := by rw [(l2.le l3).xt]; exact List.mem_cons_self
          refine ⟨accV, h3, ?_, w3.new D (.lst (accV ++ [yv])), st3, acc ++ [y], accV ++ [yv], ys, rfl, (l2.le l3).write hDx, xw_sr s3 hm, upd_same, ?_, q2, by rw [← ea]; simp⟩
          · rw [r2.length, ← sz_eq]
            have := congrArg List.length ea
            simp at this
            omega
          · rw [show RvLW X.K cad (w3.new D (.lst (accV ++ [yv]))) (accV ++ [yv]) (acc ++ [y]) = RvL X.K cad (w3.new D (.lst (accV ++ [yv]))).F w3.tops (accV ++ [yv]) (acc ++ [y]) from rfl, xw_F hm]
            exact (r2.le l3).append (.cons ry .nil)
theorem for_sem {items : List Val} {asg : Val → Env → Store → Option (Env × Store)} {body : Env → Store → Option (Fl × Env × Store)} {w1 : Wd} {env env' : Env} {st1 st' : Store} {fl : Fl} {J : It} {g : TG} {tb : TS} {D : Ends} (ev : evFor asg body items env st1 = some (fl, env', st')) (s1 : SR X.K cad w1 st1) (er : ER X.K cad w1 env σ) (hJ : ItR X.K cad w1 J items)
    (q : Fin X cad w1 fl env' st' D)
    (hg : ∀ x w2 env σ st v env1 st1 (T : L2.St → Hp → Prop), asg x env st = some (env1, st1) → SR X.K cad w2 st → ER X.K cad w2 env σ → RvW X.K cad w2 v x → (∀ σ' w3, Le w2 w3 → SR X.K cad w3 st1 → ER X.K cad w3 env1 σ' → T σ' w3.H) → g v σ w2.H T)
    (hb : ∀ w2 env σ st fl env1 st1 (D : Ends), body env st = some (fl, env1, st1) → SR X.K cad w2 st → ER X.K cad w2 env σ → Fin X cad w2 fl env1 st1 D → tb D σ w2.H) :
    ∃ W : Nat → Nat → L2.St → Hp → Prop, (∃ m, W 0 m σ w1.H) ∧ ∀ i m σ H, W i m σ H →
      (J.stop i H ∧ D.nx σ H) ∨ (J.go i H ∧ ∃ N : L2.St → Hp → Prop, (∀ σ' H', N σ' H' → ∃ m', m' < m ∧ W (i + 1) m' σ' H') ∧ ∀ x H', J.yld i H x H' → g x σ H' fun σ2 H2 => tb { D with nx := N, ct := N, bk := D.nx } σ2 H2) := by
  refine ⟨fun i m σ H => m = items.length - i ∧ i ≤ items.length ∧ ∃ w2 env2 st2, H = w2.H ∧ Le w1 w2 ∧ SR X.K cad w2 st2 ∧ ER X.K cad w2 env2 σ ∧ evFor asg body (items.drop i) env2 st2 = some (fl, env', st'), ⟨items.length, by simp, Nat.zero_le _, w1, env, st1, rfl, Le.refl _, s1, er, ev⟩, ?_⟩
  rintro i m σ H ⟨rfl, hi, w2, env2, st2, rfl, l2, s2, er2, e2⟩
  obtain ⟨j1, j2⟩ := hJ i w2.H (l2.ex.trans w2.ext)
  cases hx : items[i]? with
  | none =>
    have hle : items.length ≤ i := List.getElem?_eq_none_iff.mp hx
    rw [List.drop_eq_nil_of_le hle] at e2
    cases e2
    exact .inl ⟨j2 hle, q σ w2 l2 s2 er2⟩
  | some x =>
    obtain ⟨go, yl⟩ := j1 x hx
    have hlt : i < items.length := (List.getElem?_eq_some_iff.mp hx).1
    rw [drop_at hx] at e2
    simp only [evFor] at e2
    split at e2
    · cases e2
    rename_i env3 st3 q1
    refine .inr ⟨go, fun σ H => ∃ w2 env2 st2, H = w2.H ∧ Le w1 w2 ∧ SR X.K cad w2 st2 ∧ ER X.K cad w2 env2 σ ∧ evFor asg body (items.drop (i + 1)) env2 st2 = some (fl, env', st'), fun σ' H' h => ⟨items.length - (i + 1), by omega, rfl, hlt, h⟩, fun v H' hy => ?_⟩
    obtain ⟨rfl, rv⟩ := yl v H' hy
    refine hg x w2 env2 σ st2 v env3 st3 _ q1 s2 er2 (rv.le l2) fun σ3 w3 l3 s3 er3 => ?_
    split at e2
    · cases e2
    · rename_i r env4 st4 q2
      cases e2
      exact hb w3 env3 σ3 st3 (.rt r) _ _ _ q2 s3 er3 fun x w4 l4 s4 r4 => q x w4 ((l2.trans l3).trans l4) s4 r4
    · rename_i fl4 env4 st4 hne q2
      refine hb w3 env3 σ3 st3 fl4 env4 st4 _ q2 s3 er3 ?_
      cases fl4 with
      | rt r => exact absurd rfl (hne r)
      | nx => exact fun σ4 w4 l4 s4 er4 => ⟨w4, env4, st4, rfl, (l2.trans l3).trans l4, s4, er4, e2⟩
      | ct => exact fun σ4 w4 l4 s4 er4 => ⟨w4, env4, st4, rfl, (l2.trans l3).trans l4, s4, er4, e2⟩
theorem while_sem {test : Env → Store → Option (Bool × Store)} {body : Env → Store → Option (Fl × Env × Store)} {n : Nat} {w1 : Wd} {env env' : Env} {st1 st' : Store} {fl : Fl} {c : TT} {tb : TS} {D : Ends} (ev : evWh test body n env st1 = some (fl, env', st')) (s1 : SR X.K cad w1 st1) (er : ER X.K cad w1 env σ)
    (q : Fin X cad w1 fl env' st' D)
    (hc : ∀ w2 env σ st b st1 (T : Bool → Hp → Prop), test env st = some (b, st1) → SR X.K cad w2 st → ER X.K cad w2 env σ → (∀ w3, Le w2 w3 → SR X.K cad w3 st1 → T b w3.H) → c σ w2.H T)
    (hb : ∀ w2 env σ st fl env1 st1 (D : Ends), body env st = some (fl, env1, st1) → SR X.K cad w2 st → ER X.K cad w2 env σ → Fin X cad w2 fl env1 st1 D → tb D σ w2.H) : tWhile c tb D σ w1.H := by
  refine ⟨fun m σ H => ∃ w2 env2 st2, H = w2.H ∧ Le w1 w2 ∧ SR X.K cad w2 st2 ∧ ER X.K cad w2 env2 σ ∧ evWh test body m env2 st2 = some (fl, env', st'), ⟨n, w1, env, st1, rfl, Le.refl _, s1, er, ev⟩, ?_⟩
  rintro m σ H ⟨w2, env2, st2, rfl, l2, s2, er2, e2⟩
  cases m with
  | zero => cases e2
  | succ m =>
    simp only [evWh] at e2
    split at e2
    · cases e2
    · rename_i st3 q1
      cases e2
      refine hc w2 _ σ st2 false _ _ q1 s2 er2 fun w3 l3 s3 => ?_
      rw [if_neg Bool.false_ne_true]
      exact q σ w3 (l2.trans l3) s3 (er2.le l3)
    · rename_i st3 q1
      refine hc w2 env2 σ st2 true st3 _ q1 s2 er2 fun w3 l3 s3 => ?_
      rw [if_pos rfl]
      refine ⟨fun σ H => ∃ w2 env2 st2, H = w2.H ∧ Le w1 w2 ∧ SR X.K cad w2 st2 ∧ ER X.K cad w2 env2 σ ∧ evWh test body m env2 st2 = some (fl, env', st'), fun σ' H' h => ⟨m, Nat.lt_succ_self m, h⟩, ?_⟩
      split at e2
      · cases e2
      · rename_i r env4 st4 q2
        cases e2
        exact hb w3 env2 σ st3 (.rt r) _ _ _ q2 s3 (er2.le l3) fun x w4 l4 s4 r4 => q x w4 ((l2.trans l3).trans l4) s4 r4
      · rename_i fl4 env4 st4 hne q2
        refine hb w3 env2 σ st3 fl4 env4 st4 _ q2 s3 (er2.le l3) ?_
        cases fl4 with
        | rt r => exact absurd rfl (hne r)
        | nx => exact fun σ4 w4 l4 s4 er4 => ⟨w4, env4, st4, rfl, (l2.trans l3).trans l4, s4, er4, e2⟩
        | ct => exact fun σ4 w4 l4 s4 er4 => ⟨w4, env4, st4, rfl, (l2.trans l3).trans l4, s4, er4, e2⟩
end

/-! ### what iterators yield -/
section
variable {K : PySem.W.Frag} {w : Wd}
theorem itr_list {a : Addr} {vs : List V} {items : List Val} (h : SqL K w.F a vs) (r : RvLW K cad w vs items) : ItR K cad w (Itl K a) items := by
  intro i H2 ex
  refine ⟨fun x hx => ?_, fun hi => ⟨vs, ex.l h, by rw [r.length]; exact hi⟩⟩
  obtain ⟨v, h1, h2⟩ := r.get hx
  refine ⟨⟨vs, v, ex.l h, h1⟩, fun y H' hy => ?_⟩
  obtain ⟨e, hy⟩ := hy
  have := hy vs (ex.l h)
  rw [h1] at this
  cases this
  exact ⟨e, h2⟩
theorem itr_tup {a : Addr} {vs : List V} {items : List Val} (h : TupAt K cad w.F a vs) (r : RvLW K cad w vs items) : ItR K cad w (Itt K a) items := by
  intro i H2 ex
  refine ⟨fun x hx => ?_, fun hi => ⟨vs, (ex.t h).sq, by rw [r.length]; exact hi⟩⟩
  obtain ⟨v, h1, h2⟩ := r.get hx
  refine ⟨⟨vs, v, (ex.t h).sq, h1⟩, fun y H' hy => ?_⟩
  obtain ⟨e, hy⟩ := hy
  have := hy vs ((ex.t h).sq)
  rw [h1] at this
  cases this
  exact ⟨e, h2⟩
theorem itr_rng {lo hi : Int} : ItR K cad w (Itr lo (hi - lo).toNat) (rngItems lo hi) := by
  intro i H2 ex
  unfold rngItems
  refine ⟨fun x hx => ?_, fun hn => by rw [List.length_map, List.length_range] at hn; exact hn⟩
  rw [List.getElem?_map] at hx
  obtain ⟨j, h1, h2⟩ := Option.map_eq_some_iff.mp hx
  obtain ⟨h3, h4⟩ := List.getElem?_eq_some_iff.mp h1
  rw [List.length_range] at h3
  rw [List.getElem_range] at h4
  subst h4 h2
  refine ⟨h3, fun y H' hy => ?_⟩
  obtain ⟨e, rfl⟩ := hy
  exact ⟨e, .pu (.int _)⟩
theorem itr_keys {d : Addr} {od : Obj} {kvs : List (Key × V)} (h : w.F d = some (.frz od (.dK kvs))) : ItR K cad w (Itk d od kvs) ((kvs.map fun q => Kx.k q.1).map fun k => .pu (kxP k)) := by
  intro i H2 ex
  have h2 : H2 d = some (.frz od (.dK kvs)) := ex.at_ h (by intro z; cases z)
  refine ⟨fun x hx => ?_, fun hi => ⟨h2, by simpa using hi⟩⟩
  rw [List.getElem?_map, List.getElem?_map] at hx
  cases hk : kvs[i]? with
  | none => rw [hk] at hx; cases hx
  | some p =>
    rw [hk] at hx
    cases hx
    refine ⟨⟨h2, (List.getElem?_eq_some_iff.mp hk).1⟩, fun y H' hy => ?_⟩
    obtain ⟨e, k, v, h3, rfl⟩ := hy
    rw [hk] at h3
    cases h3
    refine ⟨e, .pu ?_⟩
    cases k with
    | inl i => exact .int i
    | inr i => exact .str i
theorem itr_vals {d : Addr} {od : Obj} {kvs : List (Key × V)} {items : List Val} (h : w.F d = some (.frz od (.dK kvs))) (r : RvLW K cad w (kvs.map (·.2)) items) : ItR K cad w (Itd d od kvs) items := by
  intro i H2 ex
  have h2 : H2 d = some (.frz od (.dK kvs)) := ex.at_ h (by intro z; cases z)
  have hl := r.length
  rw [List.length_map] at hl
  refine ⟨fun x hx => ?_, fun hi => ⟨h2, by omega⟩⟩
  obtain ⟨v, h3, h4⟩ := r.get hx
  rw [List.getElem?_map] at h3
  obtain ⟨p, h5, h6⟩ := Option.map_eq_some_iff.mp h3
  refine ⟨⟨h2, (List.getElem?_eq_some_iff.mp h5).1⟩, fun y H' hy => ?_⟩
  obtain ⟨e, k, h7⟩ := hy
  rw [h5] at h7
  cases h7
  cases h6
  exact ⟨e, h4⟩
end
end Y

set_option linter.all false
set_option maxRecDepth 100000
set_option Elab.async false
/-! YV: sorted(set(xs)); loops over a list that lives. -/
namespace Y
open PySem L2 PySem.SeqAt
variable {cad : En}
section
variable {X : Cx} {σ : L2.St} {H : Hp} {Q : VK} {a : Expr} {p p2 q pos : Pos}
theorem strs_all : ∀ {ps : List P}, ps.all isS = true → ∃ zs : List Str, ps = zs.map .str
  | [], _ => ⟨[], rfl⟩
  | p :: ps, h => by
    rw [List.all_cons, Bool.and_eq_true] at h
    obtain ⟨zs, rfl⟩ := strs_all h.2
    cases p <;> first | (exact Bool.noConfusion h.1) | skip
    rename_i z
    exact ⟨z :: zs, rfl⟩
theorem ints_all : ∀ {ps : List P}, ps.all isI = true → ∃ zs : List Int, ps = zs.map .int
  | [], _ => ⟨[], rfl⟩
  | p :: ps, h => by
    rw [List.all_cons, Bool.and_eq_true] at h
    obtain ⟨zs, rfl⟩ := ints_all h.2
    cases p <;> first | (exact Bool.noConfusion h.1) | skip
    rename_i z
    exact ⟨z :: zs, rfl⟩
theorem rp_strs {K : PySem.W.Frag} {F : Hp} : ∀ {zs : List Str} {vs : List V}, RpL K cad F vs (zs.map .str) → vs = zs.map V.str
  | [], _, r => by cases r; rfl
  | z :: zs, _, r => by
    cases r with
    | cons r1 r2 =>
      cases r1
      rw [rp_strs r2]
      rfl
theorem rp_ints2 {K : PySem.W.Frag} {F : Hp} : ∀ {zs : List Int} {vs : List V}, RpL K cad F vs (zs.map .int) → vs = zs.map V.int
  | [], _, r => by cases r; rfl
  | z :: zs, _, r => by
    cases r with
    | cons r1 r2 =>
      cases r1
      rw [rp_ints2 r2]
      rfl
theorem strs_rp {K : PySem.W.Frag} {F : Hp} : ∀ zs : List Str, RpL K cad F (zs.map V.str) (zs.map .str)
  | [] => .nil
  | z :: zs => .cons (.str z) (strs_rp zs)
theorem ints_rp {K : PySem.W.Frag} {F : Hp} : ∀ zs : List Int, RpL K cad F (zs.map V.int) (zs.map .int)
  | [] => .nil
  | z :: zs => .cons (.int z) (ints_rp zs)
/-- sorted(set(a)) -/
theorem we_sset (g1 : Gl X "sorted") (m1 : X.mg "sorted" = none) (g2 : Gl X "set") (m2 : X.mg "set" = none) (hc : X.calm = true) (na : noStar a = true)
    (h : WE X a σ H fun x H1 => ∃ (L : Addr) (vs : List V) (ps : List P) (F : Hp), x = .ref L ∧ SqL X.K H1 L vs ∧ RpL X.K cad F vs ps ∧ ssetOk ps = true ∧ ∀ (b : Addr) (xs : List V), H1 b = none → RpL X.K cad F xs (sortP (dedup ps)) → Q (.ref b) (upd H1 b (.lst xs))) :
    WE X (.Call (.Name "sorted" p) [.Call (.Name "set" p2) [a] [] q] [] pos) σ H Q := fun pins s I => by
  refine PyProof.Rows.Call_ (ld_blt I g1 m1 (boot_of .sorted) ?_)
  refine PyProof.Rows.callWith_builtin1 (PyProof.Rows.args_cons ?_ rfl) rfl rfl
  refine PyProof.Rows.Call_ (ld_blt I g2 m2 PyProof.Rows.boot_set ?_)
  refine PyProof.Rows.callWith_type1 (PyProof.Rows.args_cons (thn (h pins s I) fun v s1 ⟨x, H1, I1, r1, q1⟩ => PyProof.Rows.args_nil ?_) (star_of na)) (star_of na) rfl
  obtain ⟨L, vs, ps, F, rfl, hL, rp, ok, q1⟩ := q1
  obtain rfl : v = .ref L := r1
  obtain ⟨its, rv, pl, hz⟩ := I1.list hL
  unfold ssetOk at ok
  rw [Bool.and_eq_true, Bool.or_eq_true] at ok
  have hn := of_decide_eq_true ok.1
  have hni : its.length = ps.length := by rw [← rv.length, rp.length]
  have hsb : its.toArray.size + 1 < scanBound := by rw [List.size_toArray, hni]; show _ < 4096; omega
  have fin : ∀ (h' : Heap) (tk : Nat) (s' : Shared) (b : Addr) (out : Array Value) (c : Nat) (xs : List V), (∀ b u, s1.heap.get? b = some u → h'.get? b = some u) → (∀ b u, h'.get? b = some u → s'.heap.get? b = some u) → s'.gens = s1.gens → s'.os = s1.os → h'.objs.size ≤ b →
      s'.heap.get? b = some (PyProof.Rows.seqObj "list" out c) → Vals xs out.toList → xs.length ≤ sizeLine → RpL X.K cad F xs (sortP (dedup ps)) → EP X pins σ Q (.ref b) s' := by
    intro h' tk s' b out c xs k1 k2 k3 k4 k5 k6 k7 k8 k9
    have I2 : L2.Inv X pins σ H1 { s1 with heap := h', toks := tk } := I1.kept k1
    have hb : H1 b = none := I2.hok.fresh k5
    have new : ObjOk X.prog X.w (upd H1 b (.lst xs)) s'.heap b (.lst xs) := ⟨k8, out.toList, c, k7, k6⟩
    exact ⟨.ref b, upd H1 b (.lst xs), I2.call' (ch := []) k4 (Un.laid k2 k5 hb) (I2.hok.laid k2 k5 new) (by rw [k3]; exact I2.bare) (fun _ z => nomatch z), rfl, q1 b xs hb k9⟩
  rcases ok.2 with hs | hi
  · obtain ⟨zs, rfl⟩ := strs_all hs
    obtain rfl := rp_strs rp
    have hS := rv.strs
    have hzl : zs.length = its.length := by rw [hni, List.length_map]
    refine St.call_set (knd := PySem.strKind X.prog X.w) St.kS_ok (I1.ok.hd hc) pl.isList zs (by rw [List.size_toArray]; exact hzl) hsb (fun i v e => ?_) fun h' tk R k1 => ?_
    · have e' : its[i]? = some v := by simpa using e
      obtain ⟨t, e2⟩ := SS.strs_at hS i v e'
      have hi : i < zs.length := by rw [hzl]; exact (List.getElem?_eq_some_iff.mp e').1
      refine ⟨zs[i], by simp [hi], ?_, ?_⟩
      · rw [e2, List.getD_eq_getElem?_getD, List.getElem?_eq_getElem hi]
        exact PySem.strKind_is _ _ _ _
      · rw [e2]
        rfl
    · refine PyProof.Rows.args_nil ?_
      have hf := St.fold_le zs []
      refine St.sortedS (s := { s1 with heap := h', toks := tk }) R (I1.ok.hd hc) (by simp only [List.length_nil] at hf; rw [List.size_toArray] at hsb; omega) fun s' b out c ys k2 k3 k4 k5 k6 y1 y2 y3 => ?_
      have nd : ys.Nodup := y2.nodup_iff.mpr (St.fold_nd zs [] List.nodup_nil)
      have mm : ∀ x, x ∈ ys ↔ x ∈ zs := fun x => by rw [y2.mem_iff, St.fold_mem]; simp
      have e1 := sset_one ordS ltP_str eqv_str nd mm (sortedS_pw ys y3)
      refine fin h' tk s' b out c (ys.map V.str) k1 k2 k3 k4 k5 k6 (vals_of_strs y1) ?_ (by rw [e1]; exact strs_rp ys)
      rw [List.length_map, y2.length_eq]
      simp only [List.length_nil] at hf
      rw [PySem.sizeLine_eq]
      rw [List.length_map] at hn
      omega
  · obtain ⟨zs, rfl⟩ := ints_all hi
    obtain rfl := rp_ints2 rp
    have hI := rv.ints
    have hzl : zs.length = its.length := by rw [hni, List.length_map]
    refine St.call_set (knd := PySem.intKind X.prog X.w) St.kI_ok (I1.ok.hd hc) pl.isList zs (by rw [List.size_toArray]; exact hzl) hsb (fun i v e => ?_) fun h' tk R k1 => ?_
    · have e' : its[i]? = some v := by simpa using e
      obtain ⟨t, e2⟩ := PyProof.Rows.IntsAre.int_at hI i v e'
      have hi : i < zs.length := by rw [hzl]; exact (List.getElem?_eq_some_iff.mp e').1
      refine ⟨zs[i], by simp [hi], ?_, ?_⟩
      · rw [e2, List.getD_eq_getElem?_getD, List.getElem?_eq_getElem hi]
        exact PySem.intKind_is _ _ _ _
      · rw [e2]
        rfl
    · refine PyProof.Rows.args_nil ?_
      have hf := St.fold_le zs []
      refine St.sortedI (s := { s1 with heap := h', toks := tk }) R (I1.ok.hd hc) (by simp only [List.length_nil] at hf; rw [List.size_toArray] at hsb; omega) fun s' b out c ys k2 k3 k4 k5 k6 y1 y2 y3 => ?_
      have nd : ys.Nodup := y2.nodup_iff.mpr (St.fold_nd zs [] List.nodup_nil)
      have mm : ∀ x, x ∈ ys ↔ x ∈ zs := fun x => by rw [y2.mem_iff, St.fold_mem]; simp
      have e1 := sset_one ordI ltP_int eqv_int nd mm (y3.imp fun {a b} h => decide_eq_false (by omega))
      refine fin h' tk s' b out c (ys.map V.int) k1 k2 k3 k4 k5 k6 (vals_of_ints y1) ?_ (by rw [e1]; exact ints_rp ys)
      rw [List.length_map, y2.length_eq]
      simp only [List.length_nil] at hf
      rw [PySem.sizeLine_eq]
      rw [List.length_map] at hn
      omega
theorem live_sem {asg : Val → Env → Store → Option (Env × Store)} {body : Env → Store → Option (Fl × Env × Store)} {n m0 : Nat} {ad : Addr} {w1 : Wd} {env env' : Env} {st1 st' : Store} {fl : Fl} {g : TG} {tb : TS} {D : Ends} (ev : evLive asg body n m0 0 env st1 = some (fl, env', st')) (s1 : SR X.K cad w1 st1) (er : ER X.K cad w1 env σ) (ht : w1.tops[n]? = some ad)
    (q : Fin X cad w1 fl env' st' D)
    (hg : ∀ x w2 env σ st v env1 st1 (T : L2.St → Hp → Prop), asg x env st = some (env1, st1) → SR X.K cad w2 st → ER X.K cad w2 env σ → RvW X.K cad w2 v x → (∀ σ' w3, Le w2 w3 → SR X.K cad w3 st1 → ER X.K cad w3 env1 σ' → T σ' w3.H) → g v σ w2.H T)
    (hb : ∀ w2 env σ st fl env1 st1 (D : Ends), body env st = some (fl, env1, st1) → SR X.K cad w2 st → ER X.K cad w2 env σ → Fin X cad w2 fl env1 st1 D → tb D σ w2.H) :
    ∃ W : Nat → Nat → L2.St → Hp → Prop, (∃ m, W 0 m σ w1.H) ∧ ∀ i m σ H, W i m σ H →
      ((Itl X.K ad).stop i H ∧ D.nx σ H) ∨ ((Itl X.K ad).go i H ∧ ∃ N : L2.St → Hp → Prop, (∀ σ' H', N σ' H' → ∃ m', m' < m ∧ W (i + 1) m' σ' H') ∧ ∀ x H', (Itl X.K ad).yld i H x H' → g x σ H' fun σ2 H2 => tb { D with nx := N, ct := N, bk := D.nx } σ2 H2) := by
  refine ⟨fun i m σ H => ∃ w2 env2 st2, H = w2.H ∧ Le w1 w2 ∧ SR X.K cad w2 st2 ∧ ER X.K cad w2 env2 σ ∧ evLive asg body n m i env2 st2 = some (fl, env', st'), ⟨m0, w1, env, st1, rfl, Le.refl _, s1, er, ev⟩, ?_⟩
  rintro i m σ H ⟨w2, env2, st2, rfl, l2, s2, er2, e2⟩
  cases m with
  | zero => cases e2
  | succ m =>
    rw [evLive] at e2
    split at e2
    rotate_left
    · cases e2
    rename_i vs hv
    obtain ⟨a2, own, h1, h2, ce⟩ := s2.cl n _ hv
    obtain ⟨mm, em⟩ := l2.tp
    have ea : a2 = ad := by
      rw [em, List.getElem?_append_left (List.getElem?_eq_some_iff.mp ht).1, ht] at h1
      injection h1 with h1
      exact h1.symm
    subst ea
    cases ce with
    | lst hp r =>
      rename_i xs
      have sq : SqL X.K w2.H a2 xs := SqL.of hp
      cases hx : vs[i]? with
      | none =>
        rw [hx] at e2
        cases e2
        exact .inl ⟨⟨xs, sq, by rw [r.length]; exact List.getElem?_eq_none_iff.mp hx⟩, q σ w2 l2 s2 er2⟩
      | some x =>
        rw [hx] at e2
        obtain ⟨v, hv1, hv2⟩ := r.get hx
        refine .inr ⟨⟨xs, v, sq, hv1⟩, fun σ H => ∃ w2 env2 st2, H = w2.H ∧ Le w1 w2 ∧ SR X.K cad w2 st2 ∧ ER X.K cad w2 env2 σ ∧ evLive asg body n m (i + 1) env2 st2 = some (fl, env', st'), fun σ' H' h => ⟨m, Nat.lt_succ_self m, h⟩, fun y H' hy => ?_⟩
        obtain ⟨rfl, hy⟩ := hy
        have hy := hy xs sq
        rw [hv1] at hy
        cases hy
        simp only at e2
        split at e2
        · cases e2
        rename_i env3 st3 q1
        refine hg x w2 env2 σ st2 v env3 st3 _ q1 s2 er2 hv2 fun σ3 w3 l3 s3 er3 => ?_
        split at e2
        · cases e2
        · rename_i r env4 st4 q2
          cases e2
          exact hb w3 env3 σ3 st3 (.rt r) _ _ _ q2 s3 er3 fun x w4 l4 s4 r4 => q x w4 ((l2.trans l3).trans l4) s4 r4
        · rename_i fl4 env4 st4 hne q2
          refine hb w3 env3 σ3 st3 fl4 env4 st4 _ q2 s3 er3 ?_
          cases fl4 with
          | rt r => exact absurd rfl (hne r)
          | nx => exact fun σ4 w4 l4 s4 er4 => ⟨w4, env4, st4, rfl, (l2.trans l3).trans l4, s4, er4, e2⟩
          | ct => exact fun σ4 w4 l4 s4 er4 => ⟨w4, env4, st4, rfl, (l2.trans l3).trans l4, s4, er4, e2⟩
end
end Y

set_option linter.all false
set_option maxRecDepth 100000
set_option Elab.async false
/-! YG: what the evaluator answers is what the program does: expressions, tests, targets, iterators. Written by gen_YG.py. -/
namespace Y
open PySem L2 PySem.SeqAt

/-! ### what is shown -/
def SoE (cad : En) (C : Cfg) (X : Cx) (x : E) (a : Expr) : Prop := ∀ (w : Wd) (st : Store) (env : Env) (σ : L2.St) (v : Val) (st' : Store) (Q : VK), evE C x env st = some (v, st') → SR X.K cad w st → ER X.K cad w env σ → Post X cad w st' v Q → WE X a σ w.H Q
def SoEs (cad : En) (C : Cfg) (X : Cx) (x : Es) (as : List Expr) : Prop := ∀ (w : Wd) (st : Store) (env : Env) (σ : L2.St) (vs : List Val) (st' : Store) (Q : List V → Hp → Prop), evEs C x env st = some (vs, st') → SR X.K cad w st → ER X.K cad w env σ → (∀ xs w', Le w w' → SR X.K cad w' st' → RvLW X.K cad w' xs vs → Q xs w'.H) → WA X as σ w.H Q
def SoB (cad : En) (C : Cfg) (X : Cx) (x : Es) (as : List Expr) : Prop := ∀ (kk : Bool) (pos : Pos) (w : Wd) (st : Store) (env : Env) (σ : L2.St) (v : Val) (st' : Store) (Q : VK), evB C kk x env st = some (v, st') → SR X.K cad w st → ER X.K cad w env σ → Post X cad w st' v Q → WE X (.BoolOp (if kk = true then .And else .Or) as pos) σ w.H Q
def WO (X : Cx) (o : Option Expr) : TO := fun σ H Q => ∀ pins s, Inv X pins σ H s → wpAny (model X.prog X.w) X.A (evalPart o X.env) (fun u s' => ∃ l H', Inv X pins σ H' s' ∧ IsPart u l ∧ Q l H') X.xe s
def SoT (cad : En) (C : Cfg) (X : Cx) (x : T) (a : Expr) : Prop := ∀ (w : Wd) (st : Store) (env : Env) (σ : L2.St) (b : Bool) (st' : Store) (Q : Bool → Hp → Prop), evT C x env st = some (b, st') → SR X.K cad w st → ER X.K cad w env σ → (∀ w', Le w w' → SR X.K cad w' st' → Q b w'.H) → WT X a σ w.H Q
/-- several tests joined, whatever their 'whole' is -/
def WW (X : Cx) (e : Expr) : TT := fun σ H Q => ∀ whole pins s, Inv X pins σ H s → wpAny (model X.prog X.w) X.A (isTrue e X.env whole) (TP X pins σ Q) X.xe s
theorem pw {X : Cx} (e : Expr) : PW X e (WW X e) := ⟨fun whole pins s σ H Q I h => h whole pins s I⟩
theorem ww_of {X : Cx} {e : Expr} {t : TT} {σ : L2.St} {H : Hp} {Q : Bool → Hp → Prop} (h : PW X e t) (q : t σ H Q) : WW X e σ H Q := fun whole pins s I => h.run whole pins s σ H Q I q
def SoBT (cad : En) (C : Cfg) (X : Cx) (x : Ts) (as : List Expr) : Prop := ∀ (kk : Bool) (pos : Pos) (w : Wd) (st : Store) (env : Env) (σ : L2.St) (b : Bool) (st' : Store) (Q : Bool → Hp → Prop), evBT C kk x env st = some (b, st') → SR X.K cad w st → ER X.K cad w env σ → (∀ w', Le w w' → SR X.K cad w' st' → Q b w'.H) → WW X (.BoolOp (if kk = true then .And else .Or) as pos) σ w.H Q
def SoTs (cad : En) (C : Cfg) (X : Cx) (x : Ts) (as : List Expr) : Prop := ∀ (w : Wd) (st : Store) (env : Env) (σ : L2.St) (b : Bool) (st' : Store) (Q : Bool → Hp → Prop), evTs C x env st = some (b, st') → SR X.K cad w st → ER X.K cad w env σ → (∀ w', Le w w' → SR X.K cad w' st' → Q b w'.H) → WTs X as σ w.H Q
def SoG (cad : En) (C : Cfg) (X : Cx) (g : G) (a : Expr) : Prop := ∀ (w : Wd) (st : Store) (env : Env) (σ : L2.St) (x : Val) (v : V) (env' : Env) (st' : Store) (T : L2.St → Hp → Prop), asgG C g x env st = some (env', st') → SR X.K cad w st → ER X.K cad w env σ → RvW X.K cad w v x →
  (∀ σ' w', Le w w' → SR X.K cad w' st' → ER X.K cad w' env' σ' → (∀ vs : List Nat, (∀ i ∈ gsl g, i ∈ vs) → L2.wipe σ' vs = L2.wipe σ vs) → T σ' w'.H) → WG X a v σ w.H T
def SoGs (cad : En) (C : Cfg) (X : Cx) (g : Gs) (as : List Expr) : Prop := ∀ (w : Wd) (st : Store) (env : Env) (σ : L2.St) (xs : List Val) (vs : List V) (env' : Env) (st' : Store) (T : L2.St → Hp → Prop), asgGs C g xs env st = some (env', st') → SR X.K cad w st → ER X.K cad w env σ → RvLW X.K cad w vs xs →
  (∀ σ' w', Le w w' → SR X.K cad w' st' → ER X.K cad w' env' σ' → (∀ vs : List Nat, (∀ i ∈ gsl.gsls g, i ∈ vs) → L2.wipe σ' vs = L2.wipe σ vs) → T σ' w'.H) → WGs X as vs σ w.H T
def SoI (cad : En) (C : Cfg) (X : Cx) (it : I) (a : Expr) : Prop := ∀ (tg : Expr) (w : Wd) (st : Store) (env : Env) (σ : L2.St) (items : List Val) (st' : Store) (R : It → Hp → Prop), evI C it env st = some (items, st') → SR X.K cad w st → ER X.K cad w env σ → (∀ J w', Le w w' → SR X.K cad w' st' → ItR X.K cad w' J items → R J w'.H) → WI X tg a σ w.H R
/-- a pair of a display -/
def KP (K : PySem.W.Frag) (cad : En) (w : Wd) (p : V × V) (q : Kx × Val) : Prop := (flatK q.1 = true → ∃ i, q.1 = .k i ∧ p.1 = kV i) ∧ RvW K cad w p.2 q.2
def SoKV (cad : En) (C : Cfg) (X : Cx) (kv : Kvs) (ks : List (Option Expr)) (vs : List Expr) : Prop := ∀ pos : Pos, ∃ trs, PPs X pos ks vs trs ∧ ks.all (·.isSome) = true ∧ ks.length = vs.length ∧
  ∀ (w : Wd) (st : Store) (env : Env) (σ : L2.St) (r : List (Kx × Val)) (st' : Store) (Q : List (V × V) → Hp → Prop), evKV C kv env st = some (r, st') → SR X.K cad w st → ER X.K cad w env σ → (∀ ps w', Le w w' → SR X.K cad w' st' → Paired (KP X.K cad w') ps r → Q ps w'.H) → tPairs trs σ w.H Q

/-! ### small facts -/
theorem wipe_set {σ : L2.St} {i : Nat} {o : Option V} : ∀ {vs : List Nat}, i ∈ vs → L2.wipe (σ.set i o) vs = L2.wipe σ vs
  | [], h => by simp at h
  | v :: vs, h => by
    by_cases hv : i ∈ vs
    · rw [L2.wipe, L2.wipe, wipe_set hv]
    · have e : v = i := by
        rcases List.mem_cons.mp h with e | e
        · exact e.symm
        · exact absurd e hv
      subst e
      apply List.ext_getElem?
      intro j
      by_cases hj : v = j
      · subst hj
        by_cases hl : v < σ.length
        · rw [L2.wipe, L2.wipe, List.getElem?_set_self (by rw [wipe_length, List.length_set]; exact hl), List.getElem?_set_self (by rw [wipe_length]; exact hl)]
        · rw [List.getElem?_eq_none (by rw [wipe_length, List.length_set]; omega), List.getElem?_eq_none (by rw [wipe_length]; omega)]
      · have gen : ∀ us : List Nat, (L2.wipe (σ.set v o) us)[j]? = (L2.wipe σ us)[j]? := by
          intro us
          induction us with
          | nil => show (σ.set v o)[j]? = σ[j]?; rw [List.getElem?_set_ne hj]
          | cons u us ih =>
            rw [L2.wipe, L2.wipe]
            by_cases hu : u = j
            · subst hu
              by_cases hl : u < σ.length
              · rw [List.getElem?_set_self (by rw [wipe_length, List.length_set]; exact hl), List.getElem?_set_self (by rw [wipe_length]; exact hl)]
              · rw [List.getElem?_eq_none (by rw [List.length_set, wipe_length, List.length_set]; omega), List.getElem?_eq_none (by rw [List.length_set, wipe_length]; omega)]
            · rw [List.getElem?_set_ne hu, List.getElem?_set_ne hu]; exact ih
        exact gen (v :: vs)
theorem wipe_wipe {σ : L2.St} (vs : List Nat) : ∀ us : List Nat, (∀ i ∈ us, i ∈ vs) → L2.wipe (L2.wipe σ us) vs = L2.wipe σ vs
  | [], _ => rfl
  | u :: us, h => by
    rw [L2.wipe, wipe_set (h u List.mem_cons_self), wipe_wipe vs us fun i hi => h i (List.mem_cons_of_mem _ hi)]
theorem ER.lp {K : PySem.W.Frag} {cad : En} {w w' : Wd} {p : Addr} (l : Lp w p w') {env : Env} {σ : L2.St} (h : ER K cad w env σ) : ER K cad w' env σ :=
  ⟨h.ln, fun i x e => let ⟨v, a, b⟩ := h.at_ i x e; ⟨v, a, l.rv b⟩⟩
theorem vis_of {cad : En} {t : Tb} {C : Cfg} {Γ : Ct} {X : Cx} (k : Cok cad t C Γ X) {i : Nat} {x : Str} (h : visC Γ i x = true) : X.N[i]? = some x ∧ Vis X.env.scope x ∧ (x == ("__debug__" : Str)) = false ∧ (x == ("__classdict__" : Str)) = false := by
  unfold visC at h
  simp only [Bool.and_eq_true, Bool.not_eq_true', decide_eq_true_eq] at h
  obtain ⟨⟨⟨h1, h2⟩, h3⟩, h4⟩ := h
  refine ⟨by rw [k.N]; exact h1, ?_, h2, h3⟩
  unfold Vis
  rw [k.sc]
  split at h4 <;> first | (cases h4; done) | skip
  · rename_i e; exact .inl e
  · rename_i e; exact .inr (.inl e)
  · rename_i e; exact .inr (.inr e)
theorem gl_of {cad : En} {t : Tb} {C : Cfg} {Γ : Ct} {X : Cx} (k : Cok cad t C Γ X) {x : Str} (h : glC Γ x = true) : Gl X x ∧ (x == ("__debug__" : Str)) = false := by
  unfold glC at h
  simp only [Bool.and_eq_true, Bool.not_eq_true', decide_eq_true_eq] at h
  refine ⟨?_, h.2⟩
  show X.env.scope.names.lookup x = _
  rw [k.sc]
  exact h.1
theorem fr_of {cad : En} {t : Tb} {C : Cfg} {Γ : Ct} {X : Cx} (k : Cok cad t C Γ X) {x : Str} (h : frC t Γ x = true) : Gl X x ∧ (x == ("__debug__" : Str)) = false ∧ X.mg x = none ∧ x ≠ ("__name__" : Str) := by
  unfold frC at h
  simp only [Bool.and_eq_true, Bool.not_eq_true', decide_eq_true_eq, decide_eq_false_iff_not] at h
  obtain ⟨⟨h1, h2⟩, h3⟩ := h
  obtain ⟨g1, g2⟩ := gl_of k h1
  exact ⟨g1, g2, k.free x h2, h3⟩
theorem loc_of {cad : En} {t : Tb} {C : Cfg} {Γ : Ct} {X : Cx} (k : Cok cad t C Γ X) {i : Nat} {x : Str} (h : locC Γ i x = true) : X.N[i]? = some x ∧ L2.Loc X.env.scope x ∧ (X.fn x = true ∨ X.env.scope.names.lookup x = some .local) := by
  unfold locC at h
  simp only [Bool.and_eq_true, decide_eq_true_eq] at h
  obtain ⟨h1, h2⟩ := h
  refine ⟨by rw [k.N]; exact h1, ?_⟩
  unfold L2.Loc
  rw [k.sc]
  split at h2 <;> first | (cases h2; done) | skip
  · rename_i e; exact ⟨.inl e, .inr e⟩
  · rename_i e; exact ⟨.inr e, .inl (k.fnx x h2)⟩
theorem WE.lock' {X : Cx} {σ : L2.St} {H : Hp} {e : Expr} {Q : VK} (h : WE X e σ H fun v H1 => Q v H1 ∨ ∃ d u, v = .ref d ∧ H1 d = some u ∧ Mut (some u) ∧ ∀ od, Q v (upd H1 d (.frz od u))) : WE X e σ H Q := fun pins s I =>
  thn (h pins s I) fun u s' ⟨v, H', I', r, q⟩ => by
    rcases q with q | ⟨d, o, ev, hd, mu, q⟩
    · exact ⟨v, H', I', r, q⟩
    · obtain ⟨od, I2⟩ := I'.lock hd mu
      exact ⟨v, _, I2, r, q od⟩
theorem po {X : Cx} (o : Option Expr) : PO X o (WO X o) := ⟨fun pins s σ H Q I h => h pins s I⟩
theorem wo_of {X : Cx} {o : Option Expr} {t : TO} {σ : L2.St} {H : Hp} {Q : Option Int → Hp → Prop} (h : PO X o t) (q : t σ H Q) : WO X o σ H Q := fun pins s I => h.run pins s σ H Q I q
def SoO (cad : En) (C : Cfg) (X : Cx) (x : Oe) (a : Option Expr) : Prop := ∀ (w : Wd) (st : Store) (env : Env) (σ : L2.St) (l : Option Int) (st' : Store) (Q : Option Int → Hp → Prop), evO C x env st = some (l, st') → SR X.K cad w st → ER X.K cad w env σ → (∀ w', Le w w' → SR X.K cad w' st' → Q l w'.H) → WO X a σ w.H Q

theorem cEs_star {t : Tb} {Γ : Ct} : ∀ {es : Es} {as : List Expr}, cEs t Γ es as = true → as.all noStar = true
  | .nil, [], _ => rfl
  | .nil, _ :: _, h => Bool.noConfusion h
  | .cons _ _, [], h => Bool.noConfusion h
  | .cons x es, a :: as, h => by
    have h' : (noStar a && (cE t Γ x a && cEs t Γ es as)) = true := h
    simp only [Bool.and_eq_true] at h'
    rw [List.all_cons, h'.1, cEs_star h'.2.2]; rfl
theorem assignEach_cons {a : Expr} {as : List Expr} {env : PySem.Env} (h : noStar a = true) : assignEach (a :: as) env = (false, assign a env) :: assignEach as env := by
  cases a <;> first | rfl | cases h
theorem assignEach_len {env : PySem.Env} : ∀ {as : List Expr}, as.all noStar = true → (assignEach as env).length = as.length
  | [], _ => rfl
  | a :: as, h => by
    rw [List.all_cons, Bool.and_eq_true] at h
    rw [assignEach_cons h.1, List.length_cons, assignEach_len h.2]; rfl
theorem assignEach_star {env : PySem.Env} : ∀ {as : List Expr}, as.all noStar = true → (assignEach as env).findIdx? (·.1) = none
  | [], _ => rfl
  | a :: as, h => by
    rw [List.all_cons, Bool.and_eq_true] at h
    rw [assignEach_cons h.1, List.findIdx?_cons, assignEach_star h.2]; rfl
theorem asgGs_len {t : Tb} {Γ : Ct} {C : Cfg} : ∀ {gs : Gs} {as : List Expr} {xs : List Val} {env env' : Env} {st st' : Store}, cGs t Γ gs as = true → asgGs C gs xs env st = some (env', st') → as.length = xs.length
  | .nil, [], [], _, _, _, _, _, _ => rfl
  | .nil, _ :: _, _, _, _, _, _, h, _ => Bool.noConfusion h
  | .nil, [], _ :: _, _, _, _, _, _, e => by simp [asgGs] at e
  | .cons _ _, [], _, _, _, _, _, h, _ => Bool.noConfusion h
  | .cons _ _, _ :: _, [], _, _, _, _, _, e => by simp [asgGs] at e
  | .cons g gs, a :: as, x :: xs, env, env', st, st', h, e => by
    have h' : (noStar a && (cG t Γ g a && cGs t Γ gs as)) = true := h
    simp only [Bool.and_eq_true] at h'
    rw [asgGs] at e
    split at e
    · rw [List.length_cons, List.length_cons, asgGs_len h'.2.2 e]
    · cases e
theorem asg_sub {o i : Expr} {pos : Pos} {env : PySem.Env} {v : Value} (h : noSlice i = true) : assign (.Subscript o i pos) env v = (do
      let ov ← holding [v] (eval o env)
      let iv ← holding [v, ov] (eval i env)
      standAt pos
      holding [v, ov, iv] (PySem.setItem ov iv v)
      release [v, ov, iv] []) := by
  rw [arm_assign_Subscript]
  cases i <;> first | rfl | cases h
theorem bi_call {t : Tb} {Γ : Ct} {o : Bool} {bb : Bi} {es : Es} {a : Expr} (h : cE t Γ (.bi o bb es) a = true) : ∃ fn as kws p, a = .Call fn as kws p := by
  cases a <;> first | exact ⟨_, _, _, _, rfl⟩ | (cases bb <;> first | (exact Bool.noConfusion h; done) | (cases es <;> first | (exact Bool.noConfusion h; done) | (rename_i es1; cases es1 <;> exact Bool.noConfusion h)))
theorem sset_shape {t : Tb} {Γ : Ct} {o : Bool} {x : E} {a : Expr} (h : cE t Γ (.sset o x) a = true) : ∃ p p2 a' p3 p4, a = .Call (.Name "sorted" p) [.Call (.Name "set" p2) [a'] [] p3] [] p4 ∧ frC t Γ "sorted" = true ∧ frC t Γ "set" = true ∧ noStar a' = true ∧ cE t Γ x a' = true := by
  cases a <;> first | (exact Bool.noConfusion h; done) | skip
  rename_i fn as kws p4
  cases fn <;> first | (exact Bool.noConfusion h; done) | skip
  rename_i nm p
  cases as with
  | nil => exact Bool.noConfusion h
  | cons b bs =>
    cases b <;> first | (exact Bool.noConfusion h; done) | skip
    rename_i fn2 as2 kws2 p3
    cases fn2 <;> first | (exact Bool.noConfusion h; done) | skip
    rename_i nm2 p2
    cases as2 with
    | nil => exact Bool.noConfusion h
    | cons a' as3 =>
      cases as3 with
      | cons _ _ => exact Bool.noConfusion h
      | nil =>
        cases kws2 with
        | cons _ _ => exact Bool.noConfusion h
        | nil =>
          cases bs with
          | cons _ _ => exact Bool.noConfusion h
          | nil =>
            cases kws with
            | cons _ _ => exact Bool.noConfusion h
            | nil =>
              have h' : (frC t Γ nm && (decide (nm = "sorted") && (frC t Γ nm2 && (decide (nm2 = "set") && (noStar a' && cE t Γ x a'))))) = true := h
              simp only [Bool.and_eq_true, decide_eq_true_eq] at h'
              obtain ⟨h1, rfl, h2, rfl, h3, h4⟩ := h'
              exact ⟨p, p2, a', p3, p4, rfl, h1, h2, h3, h4⟩
theorem evEs_len {C : Cfg} : ∀ {es : Es} {env : Env} {st st' : Store} {vs : List Val}, evEs C es env st = some (vs, st') → vs.length = lenEs es
  | .nil, _, _, _, _, e => by rw [evEs] at e; cases e; rfl
  | .cons x es, env, st, st', vs, e => by
    rw [evEs] at e
    split at e
    rotate_left
    · cases e
    split at e
    rotate_left
    · cases e
    rename_i q
    cases e
    rw [List.length_cons, evEs_len q]; rfl
theorem bi_shape {t : Tb} {Γ : Ct} {o : Bool} {bb : Bi} {es : Es} {fn : Expr} {as : List Expr} {kws : List Keyword} {p : Pos} (h : cE t Γ (.bi o bb es) (.Call fn as kws p) = true) :
    ∃ nm p1 a1 as', fn = .Name nm p1 ∧ as = a1 :: as' ∧ kws = [] ∧ frC t Γ nm = true ∧ nm = biN bb ∧ ((biX bb = [] ∧ cEs t Γ es (a1 :: as') = true) ∨
      ∃ y p2 T, as' = [.Name y p2] ∧ frC t Γ y = true ∧ bootBuiltins y = some (.type T) ∧ biX bb = [.ty T] ∧ noStar a1 = true ∧ cEs t Γ es [a1] = true) := by
  cases fn <;> first | (cases bb <;> first | (exact Bool.noConfusion h; done) | (cases es <;> first | (exact Bool.noConfusion h; done) | (rename_i es1; cases es1 <;> exact Bool.noConfusion h))) | skip
  rename_i nm p1
  cases kws with
  | cons _ _ =>
    cases as with
    | nil => cases bb <;> first | (exact Bool.noConfusion h; done) | (cases es <;> first | (exact Bool.noConfusion h; done) | (rename_i es1; cases es1 <;> exact Bool.noConfusion h))
    | cons a1 as' =>
      cases bb <;> first | (exact Bool.noConfusion h; done) | skip
      all_goals
        cases es with
        | nil => exact Bool.noConfusion h
        | cons x es1 =>
          cases es1 with
          | cons _ _ => exact Bool.noConfusion h
          | nil =>
            cases as' with
            | nil => exact Bool.noConfusion h
            | cons b as2 =>
              cases as2 with
              | cons _ _ => cases b <;> exact Bool.noConfusion h
              | nil => cases b <;> exact Bool.noConfusion h
  | nil =>
    cases as with
    | nil => cases bb <;> first | (exact Bool.noConfusion h; done) | (cases es <;> first | (exact Bool.noConfusion h; done) | (rename_i es1; cases es1 <;> exact Bool.noConfusion h))
    | cons a1 as' =>
      cases bb with
      | isInt =>
        cases es with
        | nil => exact Bool.noConfusion h
        | cons x es1 =>
          cases es1 with
          | cons _ _ => exact Bool.noConfusion h
          | nil =>
            cases as' with
            | nil => exact Bool.noConfusion h
            | cons b as2 =>
              cases as2 with
              | cons _ _ => cases b <;> exact Bool.noConfusion h
              | nil =>
                cases b <;> first | (exact Bool.noConfusion h; done) | skip
                rename_i y p2
                have h' : (frC t Γ nm && (decide (nm = "isinstance") && (frC t Γ y && (decide (y = "int") && (noStar a1 && cE t Γ x a1))))) = true := h
                simp only [Bool.and_eq_true, decide_eq_true_eq] at h'
                obtain ⟨h1, rfl, h2, rfl, h3, h4⟩ := h'
                exact ⟨_, p1, a1, _, rfl, rfl, rfl, h1, rfl, .inr ⟨_, p2, "int", rfl, h2, boot_ty1, rfl, h3, by show (noStar a1 && (cE t Γ x a1 && true)) = true; rw [h3, h4]; rfl⟩⟩
      | isList =>
        cases es with
        | nil => exact Bool.noConfusion h
        | cons x es1 =>
          cases es1 with
          | cons _ _ => exact Bool.noConfusion h
          | nil =>
            cases as' with
            | nil => exact Bool.noConfusion h
            | cons b as2 =>
              cases as2 with
              | cons _ _ => cases b <;> exact Bool.noConfusion h
              | nil =>
                cases b <;> first | (exact Bool.noConfusion h; done) | skip
                rename_i y p2
                have h' : (frC t Γ nm && (decide (nm = "isinstance") && (frC t Γ y && (decide (y = "list") && (noStar a1 && cE t Γ x a1))))) = true := h
                simp only [Bool.and_eq_true, decide_eq_true_eq] at h'
                obtain ⟨h1, rfl, h2, rfl, h3, h4⟩ := h'
                exact ⟨_, p1, a1, _, rfl, rfl, rfl, h1, rfl, .inr ⟨_, p2, "list", rfl, h2, boot_ty2, rfl, h3, by show (noStar a1 && (cE t Γ x a1 && true)) = true; rw [h3, h4]; rfl⟩⟩
      | _ =>
        have h' : (frC t Γ nm && (decide (nm = biN _) && cEs t Γ es (a1 :: as'))) = true := h
        simp only [Bool.and_eq_true, decide_eq_true_eq] at h'
        exact ⟨nm, p1, a1, as', rfl, rfl, rfl, h'.1, h'.2.1, .inl ⟨rfl, h'.2.2⟩⟩
section
variable {cad : En} {X : Cx} {C : Cfg} {σ : L2.St} {w : Wd}
/-- pairs without tuples for keys -/
theorem kp_flat {K : PySem.W.Frag} : ∀ {ps : List (V × V)} {r : List (Kx × Val)}, Paired (KP K cad w) ps r → (r.all fun q => flatK q.1) = true → ∃ ks : List (Key × V), ps = ks.map (fun kv => (kV kv.1, kv.2)) ∧ r.map (·.1) = ks.map (fun q => Kx.k q.1) ∧ RvLW K cad w (ks.map (·.2)) (r.map (·.2))
  | _, _, .nil, _ => ⟨[], rfl, rfl, .nil⟩
  | _, _, .cons (a := p) (b := q) h t, hf => by
    rw [List.all_cons, Bool.and_eq_true] at hf
    obtain ⟨ks, h1, h2, h3⟩ := kp_flat t hf.2
    obtain ⟨i, e1, e2⟩ := h.1 hf.1
    refine ⟨(i, p.2) :: ks, ?_, ?_, ?_⟩
    · rw [List.map_cons, h1, ← e2]
    · rw [List.map_cons, List.map_cons, h2, e1]
    · exact .cons h.2 h3
theorem dct_sem {kvs : Kvs} {ks : List (Option Expr)} {vs : List Expr} {p : Pos} {st st1 : Store} {env : Env} {r : List (Kx × Val)} {Q : VK} (hk : SoKV cad C X kvs ks vs) (hn : ks ≠ []) (e : evKV C kvs env st = some (r, st1)) (s : SR X.K cad w st) (er : ER X.K cad w env σ) (hf : (r.all fun q => flatK q.1) = true) (hl : r.length ≤ 15) (h15 : ks.length ≤ 15)
    (q : Post X cad w (st1 ++ [.dct (r.foldl (fun acc q => putK acc q.1 q.2) [])]) (.cell st1.length) Q) : WE X (.Dict ks vs p) σ w.H Q := by
  obtain ⟨trs, p1, p2, p3, p4⟩ := hk p
  refine we_of (pe_disp p1 p2 p3 hn h15) fun D hD => ?_
  refine p4 (w.hid D (.dK [])) st env σ r st1 _ e (hid_sr s hD) (er.lp (Lp.start s hD)) fun ps w2 l2 s2 r2 => ?_
  have lp := (Lp.start s hD (o := .dK [])).le l2
  have h2 : w2.H D = some (.dK []) := (l2.xk D List.mem_cons_self).trans upd_same
  obtain ⟨kk, e1, e2, e3⟩ := kp_flat r2 hf
  refine ⟨h2, kk, e1, ?_, ?_⟩
  · rw [← len_fst e2] at hl; exact hl
  · have hm : D ∈ w2.xt := by rw [lp.xt]; exact List.mem_cons_self
    have hDx : D ∉ w.xt := fun h => by
      obtain ⟨u, e⟩ := s.xd D h
      rw [hD] at e; cases e
    obtain ⟨i1, i2⟩ := foldK (X := X) (cad := cad) (w := w2) (ks := []) (kvs := []) e2 e3 rfl .nil
    have s3 := xw_sr (o := .dK (mergeK [] kk)) s2 hm
    have l3 := lp.write (o := .dK (mergeK [] kk)) hDx
    obtain ⟨ex, s4⟩ := cellify s3 l3.xt (Ce.dk upd_same i1 (by
      rw [xw_F hm]
      exact i2.mono (Ext.refl _) ⟨[D], rfl⟩))
    obtain ⟨m, hm2⟩ := l3.tp
    refine q (.ref D) _ ⟨⟨m ++ [D], by show w2.tops ++ [D] = _; rw [show w2.tops = w.tops ++ m from hm2, List.append_assoc]⟩, l3.ex.trans ex, rfl, l3.xk⟩ s4 (.cell ?_)
    show (w2.tops ++ [D])[st1.length]? = some D
    rw [← s2.lt]; simp
variable {a tg : Expr} {st1 st' : Store} {v : Val} {items : List Val} {R : It → Hp → Prop}
theorem frz_dct {st st2 : Store} {v : Val} {ks : List Kx} {ps : List P} {xv : V} (s : SR X.K cad w st) (r : RvW X.K cad w xv v) (e : frz st v = some (.dct ks ps, st2)) (hf : ks.all flatK = true) (hl : ks.length = ps.length) :
    ∃ (w2 : Wd) (d : Addr) (kvs : List (Key × V)), Le w w2 ∧ w2.H = w.H ∧ SR X.K cad w2 st2 ∧ xv = .ref d ∧ Rd w2.F d (.dK kvs) ∧ ks = kvs.map (fun q => Kx.k q.1) ∧ RpL X.K cad w2.F (kvs.map (·.2)) ps := by
  obtain ⟨w2, l2, e2, s2, rp⟩ := frz_val s r e
  cases rp with
  | dk h1 h2 h3 => exact ⟨w2, _, _, l2, e2, s2, rfl, h1, h2, h3⟩
  | @dt d kvs _ _ h1 h2 h3 =>
    obtain ⟨h2, hne⟩ := h2
    cases kvs with
    | nil => exact absurd rfl hne
    | cons q r => rw [h2] at hf; simp [flatK] at hf
/-- the dict is locked, or it is so already -/
theorem lock_rd {w2 : Wd} {st2 : Store} {d : Addr} {kvs : List (Key × V)} (s : SR X.K cad w2 st2) (h : Rd w2.F d (.dK kvs)) : (∃ od, w2.F d = some (.frz od (.dK kvs))) ∨ (w2.H d = some (.dK kvs) ∧ ∀ od, Le w2 (w2.new d (.frz od (.dK kvs))) ∧ SR X.K cad (w2.new d (.frz od (.dK kvs))) st2 ∧ (w2.new d (.frz od (.dK kvs))).F d = some (.frz od (.dK kvs))) := by
  rcases h with h | ⟨od, h⟩
  · refine .inr ⟨(hide_some h).1, fun od => ?_⟩
    obtain ⟨l, s'⟩ := lock_ok (od := od) s h trivial
    refine ⟨l, s', ?_⟩
    show hide (upd w2.H d _) w2.M d = _
    rw [hide_of (hide_some h).2, upd_same]
  · exact .inl ⟨od, h⟩
theorem keys_sem (ih : ∀ Q : VK, Post X cad w st1 v Q → WE X a σ w.H Q) (e : (match frz st1 v with
      | some (.dct ks ps, st) => if (ks.all flatK) && decide (ks.length = ps.length) then some (ks.map fun k => Val.pu (kxP k), st) else none
      | _ => none) = some (items, st')) (q : ∀ J w', Le w w' → SR X.K cad w' st' → ItR X.K cad w' J items → R J w'.H) : WI X tg a σ w.H R := by
  split at e
  rotate_left
  · cases e
  rename_i ks ps st2 hq
  split at e
  rotate_left
  · cases e
  rename_i hc
  cases e
  rw [Bool.and_eq_true, decide_eq_true_eq] at hc
  refine wi_of (pi_keys (pe a)) (WE.lock' (ih _ fun xv w1 l1 s1 r1 => ?_))
  obtain ⟨w2, d, kvs, l2, e2, s2, rfl, h1, h2, h3⟩ := frz_dct s1 r1 hq hc.1 hc.2
  rcases lock_rd s2 h1 with ⟨od, h4⟩ | ⟨h4, h5⟩
  · refine .inl ⟨d, od, rfl, .inl ⟨kvs, by rw [← e2]; exact (hide_some h4).1, ?_⟩⟩
    subst h2
    rw [← e2]
    exact q _ w2 (l1.trans l2) s2 (itr_keys h4)
  · refine .inr ⟨d, .dK kvs, rfl, by rw [← e2]; exact h4, trivial, fun od => ?_⟩
    obtain ⟨l3, s3, h6⟩ := h5 od
    refine ⟨d, od, rfl, .inl ⟨kvs, upd_same, ?_⟩⟩
    subst h2
    rw [← e2]
    exact q _ _ ((l1.trans l2).trans l3) s3 (itr_keys h6)
theorem vals_sem {apos cpos : Pos} (ih : ∀ Q : VK, Post X cad w st1 v Q → WE X a σ w.H Q) (hb : noCall0 a = true) (hline : (apos.endLine == cpos.line) = true) (e : (match frz st1 v with
      | some (.dct ks ps, st) => if (ks.all flatK) && decide (ks.length = ps.length) then some (ps.map Val.pu, st) else none
      | _ => none) = some (items, st')) (q : ∀ J w', Le w w' → SR X.K cad w' st' → ItR X.K cad w' J items → R J w'.H) : WI X tg (.Call (.Attribute a "values" apos) [] [] cpos) σ w.H R := by
  split at e
  rotate_left
  · cases e
  rename_i ks ps st2 hq
  split at e
  rotate_left
  · cases e
  rename_i hc
  cases e
  rw [Bool.and_eq_true, decide_eq_true_eq] at hc
  refine wi_of (pi_values (pe a) (base_of hb) hline) (WE.lock' (ih _ fun xv w1 l1 s1 r1 => ?_))
  obtain ⟨w2, d, kvs, l2, e2, s2, rfl, h1, h2, h3⟩ := frz_dct s1 r1 hq hc.1 hc.2
  rcases lock_rd s2 h1 with ⟨od, h4⟩ | ⟨h4, h5⟩
  · refine .inl ⟨d, od, kvs, rfl, by rw [← e2]; exact (hide_some h4).1, ?_⟩
    rw [← e2]
    exact q _ w2 (l1.trans l2) s2 (itr_vals h4 (.of_p h3))
  · refine .inr ⟨d, .dK kvs, rfl, by rw [← e2]; exact h4, trivial, fun od => ?_⟩
    obtain ⟨l3, s3, h6⟩ := h5 od
    refine ⟨d, od, kvs, rfl, upd_same, ?_⟩
    rw [← e2]
    exact q _ _ ((l1.trans l2).trans l3) s3 (itr_vals h6 (.of_p (RpL.mono l3.ex _ _ h3)))
theorem kv_len {t : Tb} {Γ : Ct} {C : Cfg} : ∀ {kvs : Kvs} {ks : List (Option Expr)} {vs : List Expr} {env : Env} {st st' : Store} {r : List (Kx × Val)}, cKV t Γ kvs ks vs = true → evKV C kvs env st = some (r, st') → ks.length = r.length
  | .nil, [], _, _, _, _, _, _, e => by rw [evKV] at e; cases e; rfl
  | .nil, some _ :: _, _, _, _, _, _, h, _ => by rename_i vs _ _ _ _ ; cases vs <;> exact Bool.noConfusion h
  | .nil, none :: _, _, _, _, _, _, h, _ => by rename_i vs _ _ _ _ ; cases vs <;> exact Bool.noConfusion h
  | .cons _ _ _, [], vs, _, _, _, _, h, _ => by cases vs <;> exact Bool.noConfusion h
  | .cons _ _ _, none :: _, vs, _, _, _, _, h, _ => by cases vs <;> exact Bool.noConfusion h
  | .cons _ _ _, some _ :: _, [], _, _, _, _, h, _ => Bool.noConfusion h
  | .cons kx x kr, some ka :: ks, a :: vs, env, st, st', r, h, e => by
    have h' : (cE t Γ kx ka && (cE t Γ x a && cKV t Γ kr ks vs)) = true := h
    simp only [Bool.and_eq_true] at h'
    rw [evKV] at e
    split at e
    rotate_left
    · cases e
    split at e
    rotate_left
    · cases e
    split at e
    rotate_left
    · cases e
    rename_i q3
    obtain ⟨kk, _, e2⟩ := Option.map_eq_some_iff.mp e
    cases e2
    rw [List.length_cons, List.length_cons, kv_len h'.2.2 q3]
theorem seq_sem (ih : ∀ Q : VK, Post X cad w st1 v Q → WE X a σ w.H Q) (e : seqI v st1 = some (items, st')) (q : ∀ J w', Le w w' → SR X.K cad w' st' → ItR X.K cad w' J items → R J w'.H) : WI X tg a σ w.H R := by
  unfold seqI at e
  split at e
  · rename_i n
    split at e
    rotate_left
    · cases e
    rename_i ps st2 hq
    cases e
    refine wi_of (pi_list (pe a)) (ih _ fun xv w1 l1 s1 r1 => ?_)
    obtain ⟨w2, l2, e2, s2, rp⟩ := frz_val s1 r1 hq
    cases rp with
    | @lst p xs _ h1 h2 =>
      refine ⟨p, rfl, ⟨xs, by rw [← e2]; exact w2.ext.l h1⟩, ?_⟩
      rw [← e2]
      exact q _ w2 (l1.trans l2) s2 (itr_list h1 (.of_p h2))
  · rename_i ps
    cases e
    refine wi_of (pi_list (pe a)) (ih _ fun xv w1 l1 s1 r1 => ?_)
    cases r1 with
    | pu rp => cases rp with
      | @lst p xs _ h1 h2 => exact ⟨p, rfl, ⟨xs, w1.ext.l h1⟩, q _ w1 l1 s1 (itr_list h1 (.of_p h2))⟩
  · rename_i ps
    cases e
    refine wi_of (pi_tup (pe a)) (ih _ fun xv w1 l1 s1 r1 => ?_)
    cases r1 with
    | pu rp => cases rp with
      | @tup p xs _ h1 h2 => exact ⟨p, rfl, ⟨xs, (w1.ext.t h1).sq⟩, q _ w1 l1 s1 (itr_tup h1 (.of_p h2))⟩
  · rename_i vs
    cases e
    refine wi_of (pi_tup (pe a)) (ih _ fun xv w1 l1 s1 r1 => ?_)
    cases r1 with
    | @tupv p xs _ h1 h2 => exact ⟨p, rfl, ⟨xs, (w1.ext.t h1).sq⟩, q _ w1 l1 s1 (itr_tup h1 h2)⟩
  · cases e
theorem small_of {j : Int} (h : small62 j = true) : -(2 ^ 62) ≤ j ∧ j < 2 ^ 62 := by
  unfold small62 at h
  simpa [Bool.and_eq_true, decide_eq_true_eq] using h
theorem pu_int {xv : V} {j : Int} (r : RvW X.K cad w xv (.pu (.int j))) : xv = .int j := by
  cases r with
  | pu h => cases h; rfl
end

mutual
theorem sE (cad : En) (t : Tb) (C : Cfg) : ∀ (x : E) (Γ : Ct) (a : Expr) (X : Cx), Cok cad t C Γ X → cE t Γ x a = true → SoE cad C X x a
  | .slot i, Γ, a, X, k, h => by
    cases a <;> first | (exact Bool.noConfusion h; done) | skip
    rename_i nm p
    intro w st env σ v st' Q e s er q
    rw [evE] at e
    obtain ⟨h1, h2, h3, h4⟩ := vis_of k h
    split at e
    rotate_left
    · cases e
    rename_i vv hv
    cases e
    obtain ⟨u, g1, g2⟩ := er.at_ i _ hv
    exact we_of (pe_var h1 h2 h3 h4) ⟨u, g1, q.here s g2⟩
  | .glob g, Γ, a, X, k, h => by
    cases a <;> first | (exact Bool.noConfusion h; done) | skip
    rename_i nm p
    intro w st env σ v st' Q e s er q
    rw [evE] at e
    have h' : (glC Γ nm && decide (t.gls[g]? = some nm)) = true := h
    rw [Bool.and_eq_true, decide_eq_true_eq] at h'
    obtain ⟨g1, g2⟩ := gl_of k h'.1
    obtain ⟨pp, e1, e2⟩ := Option.map_eq_some_iff.mp e
    cases e2
    obtain ⟨u, vv, k1, k2, k3⟩ := k.glb g pp nm e1 h'.2
    exact we_of (pe_glob g1 k1 k2 g2) (q.here s (.pu (k3 _)))
  | .cint i, Γ, a, X, k, h => by
    cases a <;> first | (exact Bool.noConfusion h; done) | skip
    rename_i c n p
    cases c <;> first | (exact Bool.noConfusion h; done) | skip
    rename_i j
    intro w st env σ v st' Q e s er q
    rw [evE] at e
    have h' : i = j := of_decide_eq_true h
    subst h'
    cases e
    exact we_of pe_int (q.int s)
  | .cstr i, Γ, a, X, k, h => by
    cases a <;> first | (exact Bool.noConfusion h; done) | skip
    rename_i c n p
    cases c <;> first | (exact Bool.noConfusion h; done) | skip
    rename_i j
    intro w st env σ v st' Q e s er q
    rw [evE] at e
    have h' : i = j := of_decide_eq_true h
    subst h'
    cases e
    exact we_of pe_str (q.str s)
  | .cbl i, Γ, a, X, k, h => by
    cases a <;> first | (exact Bool.noConfusion h; done) | skip
    rename_i c n p
    cases c <;> first | (exact Bool.noConfusion h; done) | skip
    rename_i j
    intro w st env σ v st' Q e s er q
    rw [evE] at e
    have h' : i = j := of_decide_eq_true h
    subst h'
    cases e
    exact we_of pe_bl (q.bl s)
  | .cnon, Γ, a, X, k, h => by
    cases a <;> first | (exact Bool.noConfusion h; done) | skip
    rename_i c n p
    cases c <;> first | (exact Bool.noConfusion h; done) | skip
    intro w st env σ v st' Q e s er q
    rw [evE] at e
    cases e
    exact we_of pe_non (q.non s)
  | .bin o op x y, Γ, a, X, k, h => by
    cases a <;> first | (exact Bool.noConfusion h; done) | skip
    rename_i a' op' b' p
    have h' : (decide (opOf op = op') && (cE t Γ x a' && cE t Γ y b')) = true := h
    simp only [Bool.and_eq_true, decide_eq_true_eq] at h'
    obtain ⟨rfl, h1, h2⟩ := h'
    intro w st env σ v st' Q e s er q
    rw [evE] at e
    split at e
    rotate_left
    · cases e
    rename_i vx st1 q1
    split at e
    rotate_left
    · cases e
    rename_i vy st2 q2
    exact we_of (pe_op wop (pe _) (pe _)) (sE cad t C x Γ a' X k h1 w st env σ vx st1 _ q1 s er fun xv w1 l1 s1 r1 => sE cad t C y Γ b' X k h2 w1 st1 env σ vy st2 _ q2 s1 (er.le l1) fun yv w2 l2 s2 r2 => binop_ok e s2 (r1.le l2) r2 ((q.le l1).le l2))
  | .neg x, Γ, a, X, k, h => by
    cases a <;> first | (exact Bool.noConfusion h; done) | skip
    rename_i op a' p
    cases op <;> first | (exact Bool.noConfusion h; done) | skip
    intro w st env σ v st' Q e s er q
    rw [evE] at e
    split at e
    rotate_left
    · cases e
    rename_i vx st1 q1
    split at e
    rotate_left
    · cases e
    rename_i i hv
    cases e
    refine we_of (pe_un un_neg (pe _)) (sE cad t C x Γ a' X k h w st env σ vx _ _ q1 s er fun xv w1 l1 s1 r1 => ?_)
    obtain rfl : xv = .int i := view_ok s1 r1 hv
    exact ⟨i, rfl, (q.le l1).int s1⟩
  | .bop kk es, Γ, a, X, k, h => by
    cases a <;> first | (exact Bool.noConfusion h; done) | skip
    rename_i op as p
    have h' : (decide (op = if kk then .And else .Or) && cB t Γ es as) = true := h
    simp only [Bool.and_eq_true, decide_eq_true_eq] at h'
    obtain ⟨rfl, h1⟩ := h'
    intro w st env σ v st' Q e s er q
    rw [evE] at e
    exact sB cad t C es Γ as X k h1 kk p w st env σ v st' Q e s er q
  | .cmp op x y, Γ, a, X, k, h => by
    cases a <;> first | (exact Bool.noConfusion h; done) | skip
    rename_i a' ops bs p
    match ops, bs, h with
    | [op'], [b'], h =>
      have h' : (decide (copOf op = op') && (noSet b' && (cE t Γ x a' && cE t Γ y b'))) = true := h
      simp only [Bool.and_eq_true, decide_eq_true_eq] at h'
      obtain ⟨rfl, h0, h1, h2⟩ := h'
      intro w st env σ v st' Q e s er q
      rw [evE] at e
      split at e
      rotate_left
      · cases e
      rename_i vx st1 q1
      split at e
      rotate_left
      · cases e
      rename_i vy st2 q2
      obtain ⟨r, e1, e2⟩ := Option.map_eq_some_iff.mp e
      cases e2
      exact we_of (pe_cmpR wop (pe _) (pe _) (beh_of h0)) (sE cad t C x Γ a' X k h1 w st env σ vx st1 _ q1 s er fun xv w1 l1 s1 r1 => sE cad t C y Γ b' X k h2 w1 st1 env σ vy _ _ q2 s1 (er.le l1) fun yv w2 l2 s2 r2 => cmpop_ok k.toXOk (by rw [← k.ct]; exact e1) s2 (r1.le l2) r2 (((q.le l1).le l2).bl s2))
    | [], _, h => exact Bool.noConfusion h
    | [_], [], h => exact Bool.noConfusion h
    | [_], _ :: _ :: _, h => exact Bool.noConfusion h
    | _ :: _ :: _, _, h => exact Bool.noConfusion h
  | .chain op op2 x y z, Γ, a, X, k, h => by
    cases a <;> first | (exact Bool.noConfusion h; done) | skip
    rename_i a' ops bs p
    match ops, bs, h with
    | [op', op2'], [b', c'], h =>
      have h' : (decide (copOf op = op') && (decide (copOf op2 = op2') && (noSet c' && (cE t Γ x a' && (cE t Γ y b' && cE t Γ z c'))))) = true := h
      simp only [Bool.and_eq_true, decide_eq_true_eq] at h'
      obtain ⟨rfl, rfl, h0, h1, h2, h3⟩ := h'
      intro w st env σ v st' Q e s er q
      rw [evE] at e
      split at e
      rotate_left
      · cases e
      rename_i vx st1 q1
      split at e
      rotate_left
      · cases e
      rename_i vy st2 q2
      refine we_of (pe_chain wop wop (pe _) (pe _) (pe _) (beh_of h0)) (sE cad t C x Γ a' X k h1 w st env σ vx st1 _ q1 s er fun xv w1 l1 s1 r1 => sE cad t C y Γ b' X k h2 w1 st1 env σ vy st2 _ q2 s1 (er.le l1) fun yv w2 l2 s2 r2 => ?_)
      split at e
      · rename_i hc
        split at e
        rotate_left
        · cases e
        rename_i vz st3 q3
        obtain ⟨r, e1, e2⟩ := Option.map_eq_some_iff.mp e
        cases e2
        refine cmpop_ok k.toXOk (by rw [← k.ct]; exact hc) s2 (r1.le l2) r2 ⟨true, rfl, ?_⟩
        rw [if_pos rfl]
        exact sE cad t C z Γ c' X k h3 w2 st2 env σ vz _ _ q3 s2 ((er.le l1).le l2) fun zv w3 l3 s3 r3 => cmpop_ok k.toXOk (by rw [← k.ct]; exact e1) s3 (r2.le l3) r3 ((((q.le l1).le l2).le l3).bl s3)
      · rename_i hc
        cases e
        refine cmpop_ok k.toXOk (by rw [← k.ct]; exact hc) s2 (r1.le l2) r2 ⟨false, rfl, ?_⟩
        rw [if_neg Bool.false_ne_true]
        exact ((q.le l1).le l2).bl s2
      · cases e
    | [], _, h => exact Bool.noConfusion h
    | [_], _, h => exact Bool.noConfusion h
    | [_, _], [], h => exact Bool.noConfusion h
    | [_, _], [_], h => exact Bool.noConfusion h
    | [_, _], _ :: _ :: _ :: _, h => exact Bool.noConfusion h
    | _ :: _ :: _ :: _, _, h => exact Bool.noConfusion h
  | .not x, Γ, a, X, k, h => by
    cases a <;> first | (exact Bool.noConfusion h; done) | skip
    rename_i op a' p
    cases op <;> first | (exact Bool.noConfusion h; done) | skip
    intro w st env σ v st' Q e s er q
    rw [evE] at e
    split at e
    rotate_left
    · cases e
    rename_i vx st1 q1
    obtain ⟨r, e1, e2⟩ := Option.map_eq_some_iff.mp e
    cases e2
    exact we_not (sE cad t C x Γ a' X k h w st env σ vx _ _ q1 s er fun xv w1 l1 s1 r1 => truth_ok e1 s1 r1 ((q.le l1).bl s1))
  | .ife c x y, Γ, a, X, k, h => by
    cases a <;> first | (exact Bool.noConfusion h; done) | skip
    rename_i c' a' b' p
    have h' : (cT t Γ c c' && (cE t Γ x a' && cE t Γ y b')) = true := h
    simp only [Bool.and_eq_true] at h'
    obtain ⟨h0, h1, h2⟩ := h'
    intro w st env σ v st' Q e s er q
    rw [evE] at e
    split at e
    · rename_i st1 q1
      refine we_of (pe_ifExp (pt _) (pe _) (pe _)) (sT cad t C c Γ c' X k h0 w st env σ true st1 _ q1 s er fun w1 l1 s1 => ?_)
      rw [if_pos rfl]
      exact sE cad t C x Γ a' X k h1 w1 st1 env σ v st' Q e s1 (er.le l1) (q.le l1)
    · rename_i st1 q1
      refine we_of (pe_ifExp (pt _) (pe _) (pe _)) (sT cad t C c Γ c' X k h0 w st env σ false st1 _ q1 s er fun w1 l1 s1 => ?_)
      rw [if_neg Bool.false_ne_true]
      exact sE cad t C y Γ b' X k h2 w1 st1 env σ v st' Q e s1 (er.le l1) (q.le l1)
    · cases e
  | .tup kk es, Γ, a, X, k, h => by
    cases a <;> first | (exact Bool.noConfusion h; done) | skip
    rename_i as n p
    intro w st env σ v st' Q e s er q
    rw [evE] at e
    split at e
    rotate_left
    · cases e
    rename_i vs st1 q1
    split at e
    rotate_left
    · cases e
    rename_i hz
    exact we_of (pe_tup (pa _)) (sEs cad t C es Γ as X k h w st env σ vs st1 _ q1 s er fun xs w1 l1 s1 r1 => ⟨by rw [r1.length, ← sz_eq]; exact hz, mkT_ok e s1 r1 (q.le l1)⟩)
  | .lst o es, Γ, a, X, k, h => by
    cases a <;> first | (exact Bool.noConfusion h; done) | skip
    rename_i as p
    intro w st env σ v st' Q e s er q
    rw [evE] at e
    split at e
    rotate_left
    · cases e
    rename_i vs st1 q1
    split at e
    rotate_left
    · cases e
    rename_i hz
    exact we_of (pe_lst (pa _)) (sEs cad t C es Γ as X k h w st env σ vs st1 _ q1 s er fun xs w1 l1 s1 r1 => ⟨by rw [r1.length, ← sz_eq]; exact hz, mkL_ok e s1 r1 (q.le l1)⟩)
  | .dct o .nil, Γ, a, X, k, h => by
    cases a <;> first | (exact Bool.noConfusion h; done) | skip
    rename_i ks vs p
    cases ks with
    | cons o _ => cases o <;> cases vs <;> exact Bool.noConfusion h
    | nil => cases vs with
      | cons _ _ => exact Bool.noConfusion h
      | nil =>
        intro w st env σ v st' Q e s er q
        rw [evE] at e
        rw [evKV] at e
        cases o with
        | false => cases e
        | true =>
          cases e
          exact we_of pe_dnewK fun D hD => q (.ref D) (w.newC D (.dK [])) (newC_le s hD) (newC_sr s hD (.dk upd_same rfl .nil)) (.cell (newC_top s))
  | .dct o (.cons kx x kr), Γ, a, X, k, h => by
    cases a <;> first | (exact Bool.noConfusion h; done) | skip
    rename_i ks vs p
    intro w st env σ v st' Q e s er q
    rw [evE] at e
    split at e
    rotate_left
    · cases e
    rename_i r st1 q1
    split at e
    rotate_left
    · cases e
    rename_i hc
    rw [Bool.and_eq_true, decide_eq_true_eq] at hc
    cases o with
    | false => cases e
    | true =>
      rw [if_pos rfl] at e
      cases e
      have hn : ks ≠ [] := by
        rintro rfl
        cases vs <;> exact Bool.noConfusion h
      have h15 : ks.length = r.length := kv_len h q1
      exact dct_sem (sKV cad t C (.cons kx x kr) Γ ks vs X k h) hn q1 s er hc.1 hc.2 (by rw [h15]; exact hc.2) q
  | .sub x i, Γ, a, X, k, h => by
    cases a <;> first | (exact Bool.noConfusion h; done) | skip
    rename_i a' i' p
    have hns : noSlice i' = true ∧ cE t Γ x a' = true ∧ cE t Γ i i' = true := by
      cases i' <;> first | (exact Bool.noConfusion h; done) | (have h' : (true && (cE t Γ x a' && cE t Γ i _)) = true := h; simpa [noSlice] using h')
    obtain ⟨h0, h1, h2⟩ := hns
    intro w st env σ v st' Q e s er q
    rw [evE] at e
    split at e
    rotate_left
    · cases e
    rename_i vx st1 q1
    split at e
    rotate_left
    · cases e
    rename_i vy st2 q2
    obtain ⟨r, e1, e2⟩ := Option.map_eq_some_iff.mp e
    cases e2
    exact we_of (pe_ix wix (pe _) (pe _) (ix_of h0)) (sE cad t C x Γ a' X k h1 w st env σ vx st1 _ q1 s er fun xv w1 l1 s1 r1 => sE cad t C i Γ i' X k h2 w1 st1 env σ vy _ _ q2 s1 (er.le l1) fun yv w2 l2 s2 r2 => subop_ok k.toXOk (by rw [← k.ct]; exact e1) s2 (r1.le l2) r2 ((q.le l1).le l2))
  | .slc o x lo hi, Γ, a, X, k, h => by
    cases a <;> first | (exact Bool.noConfusion h; done) | skip
    rename_i a' i' p
    cases i' <;> first | (exact Bool.noConfusion h; done) | skip
    rename_i lo' hi' step p2
    cases step with
    | some _ => exact Bool.noConfusion h
    | none =>
      have h' : (cE t Γ x a' && (cO t Γ lo lo' && cO t Γ hi hi')) = true := h
      simp only [Bool.and_eq_true] at h'
      obtain ⟨h1, h2, h3⟩ := h'
      intro w st env σ v st' Q e s er q
      rw [evE] at e
      split at e
      rotate_left
      · cases e
      rename_i vx st1 q1
      split at e
      rotate_left
      · cases e
      rename_i l st2 q2
      split at e
      rotate_left
      · cases e
      rename_i u st3 q3
      exact we_of (pe_slice wsl (pe _) (po _) (po _)) (sE cad t C x Γ a' X k h1 w st env σ vx st1 _ q1 s er fun xv w1 l1 s1 r1 => sO cad t C lo Γ lo' X k h2 w1 st1 env σ l st2 _ q2 s1 (er.le l1) fun w2 l2 s2 => sO cad t C hi Γ hi' X k h3 w2 st2 env σ u st3 _ q3 s2 ((er.le l1).le l2) fun w3 l3 s3 => slcop_ok e s3 ((r1.le l2).le l3) (((q.le l1).le l2).le l3))
  | .sset o x, Γ, a, X, k, h => by
    obtain ⟨p, p2, a', p3, p4, rfl, h1, h2, h3, h4⟩ := sset_shape h
    intro w st env σ v st' Q e s er q
    rw [evE] at e
    split at e
    rotate_left
    · cases e
    rename_i vx st1 q1
    split at e
    rotate_left
    · cases e
    rename_i us hv
    split at e
    rotate_left
    · cases e
    rename_i ps hp
    split at e
    rotate_left
    · cases e
    rename_i hok
    obtain ⟨a1, a2, a3, a4⟩ := fr_of k h1
    obtain ⟨b1, b2, b3, b4⟩ := fr_of k h2
    refine we_sset (cad := cad) a1 a3 b1 b3 k.calm h3 (sE cad t C x Γ a' X k h4 w st env σ vx st1 _ q1 s er fun xv w1 l1 s1 r1 => ?_)
    have hvw := view_ok s1 r1 hv
    obtain ⟨L, vs, rfl, hl, rl⟩ := hvw
    exact ⟨L, vs, ps, w1.F, rfl, hl, rl.to_p hp, hok, fun b xs hb rp => mkL_ok e s1 (.of_p rp) (q.le l1) b hb⟩
  | .rev _ _, Γ, a, X, k, h => by cases a <;> exact Bool.noConfusion h
  | .fld _ _, Γ, a, X, k, h => by cases a <;> exact Bool.noConfusion h
  | .meth _ _ _ _, Γ, a, X, k, h => by cases a <;> exact Bool.noConfusion h
  | .make _ _, Γ, a, X, k, h => by cases a <;> exact Bool.noConfusion h
  | .lc2 _ _ _ _ _ _ _ _ _, Γ, a, X, k, h => by cases a <;> exact Bool.noConfusion h
  | .dc _ _ _ _ _ _ _, Γ, a, X, k, h => by cases a <;> exact Bool.noConfusion h
  | .call f es, Γ, a, X, k, h => by
    cases a <;> first | (exact Bool.noConfusion h; done) | skip
    rename_i fn as kws p
    cases fn <;> first | (exact Bool.noConfusion h; done) | skip
    rename_i nm p1
    cases kws with
    | cons _ _ => cases as <;> exact Bool.noConfusion h
    | nil =>
      have h' : (glC Γ nm && (decide (t.fns[f]? = some nm) && cEs t Γ es as)) = true := h
      simp only [Bool.and_eq_true, decide_eq_true_eq] at h'
      obtain ⟨h1, h2, h3⟩ := h'
      obtain ⟨g1, g2⟩ := gl_of k h1
      obtain ⟨fa, m1, m2, m3⟩ := k.calls f nm h2
      intro w st env σ v st' Q e s er q
      rw [evE] at e
      split at e
      rotate_left
      · cases e
      rename_i vs st1 q1
      cases as with
      | nil =>
        cases es with
        | cons _ _ => exact Bool.noConfusion h3
        | nil =>
          rw [evEs] at q1
          cases q1
          exact we_call0 g1 m1 g2 m2 (m3 X ⟨rfl, rfl, rfl, rfl, rfl, rfl, rfl, k.xe⟩ w st st' [] [] v Q e s .nil q)
      | cons a1 as =>
        exact we_call g1 m1 g2 m2 (cEs_star h3) (sEs cad t C es Γ (a1 :: as) X k h3 w st env σ vs st1 _ q1 s er fun xs w1 l1 s1 r1 => m3 X ⟨rfl, rfl, rfl, rfl, rfl, rfl, rfl, k.xe⟩ w1 st1 st' xs vs v Q e s1 r1 (q.le l1))
  | .bi o bb es, Γ, a, X, k, h => by
    obtain ⟨fn, as, kws, p, rfl⟩ := bi_call h
    intro w st env σ v st' Q e s er q
    rw [evE] at e
    split at e
    rotate_left
    · cases e
    rename_i vs st1 q1
    obtain ⟨nm, p1, a1, as', rfl, rfl, rfl, h1, h2, h3⟩ := bi_shape h
    obtain ⟨g1, g2, g3, g4⟩ := fr_of k h1
    subst h2
    rcases h3 with ⟨hx, h3⟩ | ⟨y, p2, T, rfl, hy, hT, hx, h4, h5⟩
    · refine we_bi (isBi_of bb) g1 g3 (boot_of bb) g4 g2 (cEs_star h3) (sEs cad t C es Γ (a1 :: as') X k h3 w st env σ vs st1 _ q1 s er fun xs w1 l1 s1 r1 => ?_)
      have := bi_ok k.toXOk2 e s1 r1 (q.le l1)
      rw [hx, List.append_nil] at this
      exact this
    · obtain ⟨y1, y2, y3, y4⟩ := fr_of k hy
      refine we_bi (isBi_of bb) g1 g3 (boot_of bb) g4 g2 (by rw [List.all_cons, h4]; rfl) ?_
      cases es with
      | nil => exact Bool.noConfusion h5
      | cons x xs =>
        cases xs with
        | cons y ys =>
          have h6 : (noStar a1 && (cE t Γ x a1 && false)) = true := h5
          simp at h6
        | nil =>
          have h6 : (noStar a1 && (cE t Γ x a1 && true)) = true := h5
          simp only [Bool.and_eq_true] at h6
          rw [evEs] at q1
          split at q1
          rotate_left
          · cases q1
          rename_i vx st2 q2
          rw [evEs] at q1
          cases q1
          refine wa_of (pa_cons (pe _) (pa_cons (pe_bltn y1 y3 hT (show RelV (V.ty T) (.type T) from rfl) y4 y2) pa_nil rfl) (star_of h4)) (sE cad t C x Γ a1 X k h6.2.1 w st env σ vx _ _ q2 s er fun xv w1 l1 s1 r1 => ?_)
          have := bi_ok k.toXOk2 e s1 (.cons r1 .nil) (q.le l1)
          rw [hx] at this
          exact this
  | .bm o m x es, Γ, a, X, k, h => by
    cases a <;> first | (exact Bool.noConfusion h; done) | skip
    rename_i fn as kws cpos
    cases fn <;> first | (exact Bool.noConfusion h; done) | skip
    rename_i a' nm apos
    cases kws with
    | cons _ _ => exact Bool.noConfusion h
    | nil =>
      have h' : (decide (nm = bmN m) && (noCall0 a' && ((apos.endLine == cpos.line) && (decide (as.length < 30) && (cE t Γ x a' && cEs t Γ es as))))) = true := h
      simp only [Bool.and_eq_true, decide_eq_true_eq] at h'
      obtain ⟨rfl, h1, h2, h3, h4, h5⟩ := h'
      obtain ⟨b1, b2, b3⟩ := bm_slot m
      intro w st env σ v st' Q e s er q
      rw [evE] at e
      split at e
      rotate_left
      · cases e
      rename_i vx st1 q1
      split at e
      rotate_left
      · cases e
      rename_i hT
      split at e
      rotate_left
      · cases e
      rename_i vs st2 q2
      cases as with
      | nil =>
        cases es with
        | cons _ _ => exact Bool.noConfusion h5
        | nil =>
          rw [evEs] at q2
          cases q2
          exact we_bm0 b1 b2 b3 h1 h2 (sE cad t C x Γ a' X k h4 w st env σ vx _ _ q1 s er fun xv w1 l1 s1 r1 => ⟨tyS_of s1 r1 hT, bm_ok k.toXOk2 (by rw [← k.ct]; exact e) s1 r1 .nil (q.le l1)⟩)
      | cons a1 as =>
        exact we_bm b1 b2 b3 h1 h2 h3 (cEs_star h5) (sE cad t C x Γ a' X k h4 w st env σ vx _ _ q1 s er fun xv w1 l1 s1 r1 => ⟨tyS_of s1 r1 hT, sEs cad t C es Γ (a1 :: as) X k h5 w1 st1 env σ vs st2 _ q2 s1 (er.le l1) fun xs w2 l2 s2 r2 => bm_ok k.toXOk2 (by rw [← k.ct]; exact e) s2 (r1.le l2) r2 ((q.le l1).le l2)⟩)
  | .lc o own g it ts x, Γ, a, X, k, h => by
    cases a <;> first | (exact Bool.noConfusion h; done) | skip
    rename_i elt gens scope p
    match gens, h with
    | [c], h =>
      obtain ⟨tg, iter, ifs, asy⟩ := c
      have h' : (decide (asy = 0) && (blkC Γ.N Γ.sc scope own && (noSet iter && ((gsl g).all (fun i => decide (i ∈ own.map (·.2))) && (cI t Γ it iter && (cG t (blkΓ Γ scope) g tg && (cTs t (blkΓ Γ scope) ts ifs && cE t (blkΓ Γ scope) x elt))))))) = true := h
      simp only [Bool.and_eq_true, decide_eq_true_eq, List.all_eq_true] at h'
      obtain ⟨rfl, h1, h2, h3, h4, h5, h6, h7⟩ := h'
      intro w st env σ v st' Q e s er q
      rw [evE] at e
      split at e
      rotate_left
      · cases e
      rename_i items st1 q1
      split at e
      rotate_left
      · cases e
      rename_i vs st2 q2
      split at e
      rotate_left
      · cases e
      rename_i hz
      have hbk : BlkOk X.N X.env.scope scope own := by rw [k.N, k.sc]; exact blkOk_by h1
      refine we_of (pe_lc (g := fun v σ H Q => ∀ s0 H0 D cl fp, WG (X.blk s0 H0 scope (compEnvC scope cl D X.env) fp) tg v σ H Q) (tt := fun σ H Q => ∀ s0 H0 D cl fp, WTs (X.blk s0 H0 scope (compEnvC scope cl D X.env) fp) ifs σ H Q) (te := fun σ H Q => ∀ s0 H0 D cl fp, WE (X.blk s0 H0 scope (compEnvC scope cl D X.env) fp) elt σ H Q) k.calm k.nd (pi_ tg iter) hbk
        (fun s0 H0 D cl fp => ⟨fun pins s σ H v u Q I r h => h s0 H0 D cl fp pins s u I r⟩) (fun s0 H0 D cl fp => ⟨fun pins s σ H Q I h => h s0 H0 D cl fp pins s I⟩) (fun s0 H0 D cl fp => ⟨fun pins s σ H Q I h => h s0 H0 D cl fp pins s I⟩) (fold_of h2)) (sI cad t C it Γ iter X k h4 tg w st env σ items st1 _ q1 s er fun J w1 l1 s1 hJ => ?_)
      refine fun D hD => lc_sem (own := own.map (·.2)) (σ := σ) (g := fun v σ H Q => ∀ s0 H0 D cl fp, WG (X.blk s0 H0 scope (compEnvC scope cl D X.env) fp) tg v σ H Q) (tt := fun σ H Q => ∀ s0 H0 D cl fp, WTs (X.blk s0 H0 scope (compEnvC scope cl D X.env) fp) ifs σ H Q) (te := fun σ H Q => ∀ s0 H0 D cl fp, WE (X.blk s0 H0 scope (compEnvC scope cl D X.env) fp) elt σ H Q) q2 s1 hz e hJ (fun x0 sa r sb hr => ?_) (q.le l1) D hD fun x0 w2 sa r sb v0 K1 K2 hr sr lp rv k1 k2 => ?_
      · split at hr
        · split at hr
          · split at hr
            · cases hr; exact .inr ⟨_, rfl⟩
            · cases hr
          · cases hr; exact .inl rfl
          · cases hr
        · cases hr
      · intro s0 H0 D0 cl fp
        have kb := k.blk s0 H0 scope D0 cl fp
        split at hr
        rotate_left
        · cases hr
        rename_i env2 sc2 qa
        refine sG cad t C g (blkΓ Γ scope) tg _ kb h5 w2 sa _ _ x0 v0 env2 sc2 _ qa sr ((er.le l1).lp lp |>.wipe _) rv fun σ3 w3 l3 s3 er3 hw3 => ⟨?_, ?_⟩
        · rw [hw3 _ (fun i hi => h3 i hi)]
          exact wipe_wipe _ _ fun i hi => hi
        · intro s0' H0' D0' cl' fp'
          have kb' := k.blk s0' H0' scope D0' cl' fp'
          split at hr
          · rename_i sd qb
            split at hr
            rotate_left
            · cases hr
            rename_i y se qc
            cases hr
            refine sTs cad t C ts (blkΓ Γ scope) ifs _ kb' h6 w3 sc2 env2 σ3 true sd _ qb s3 er3 fun w4 l4 s4 => ?_
            rw [if_pos rfl]
            intro s0'' H0'' D0'' cl'' fp''
            exact sE cad t C x (blkΓ Γ scope) elt _ (k.blk s0'' H0'' scope D0'' cl'' fp'') h7 w4 sd env2 σ3 y _ _ qc s4 (er3.le l4) fun yv w5 l5 s5 r5 => k2 w5 y yv ((l3.trans l4).trans l5) s5 rfl r5
          · rename_i sd qb
            cases hr
            refine sTs cad t C ts (blkΓ Γ scope) ifs _ kb' h6 w3 sc2 env2 σ3 false _ _ qb s3 er3 fun w4 l4 s4 => ?_
            rw [if_neg Bool.false_ne_true]
            exact k1 w4 (l3.trans l4) s4 rfl
          · cases hr
    | [], h => exact Bool.noConfusion h
    | _ :: _ :: _, h => exact Bool.noConfusion h
theorem sEs (cad : En) (t : Tb) (C : Cfg) : ∀ (x : Es) (Γ : Ct) (as : List Expr) (X : Cx), Cok cad t C Γ X → cEs t Γ x as = true → SoEs cad C X x as
  | .nil, Γ, as, X, k, h => by
    cases as with
    | cons _ _ => exact Bool.noConfusion h
    | nil =>
      intro w st env σ vs st' Q e s er q
      rw [evEs] at e
      cases e
      exact wa_of pa_nil (q [] w (Le.refl w) s .nil)
  | .cons x es, Γ, as, X, k, h => by
    cases as with
    | nil => exact Bool.noConfusion h
    | cons a as =>
      have h' : (noStar a && (cE t Γ x a && cEs t Γ es as)) = true := h
      simp only [Bool.and_eq_true] at h'
      obtain ⟨h0, h1, h2⟩ := h'
      intro w st env σ vs st' Q e s er q
      rw [evEs] at e
      split at e
      rotate_left
      · cases e
      rename_i v st1 q1
      split at e
      rotate_left
      · cases e
      rename_i us st2 q2
      cases e
      exact wa_of (pa_cons (pe _) (pa _) (star_of h0)) (sE cad t C x Γ a X k h1 w st env σ v st1 _ q1 s er fun xv w1 l1 s1 r1 => sEs cad t C es Γ as X k h2 w1 st1 env σ us _ _ q2 s1 (er.le l1) fun xs w2 l2 s2 r2 => q (xv :: xs) w2 (l1.trans l2) s2 (.cons (r1.le l2) r2))
theorem sKV (cad : En) (t : Tb) (C : Cfg) : ∀ (x : Kvs) (Γ : Ct) (ks : List (Option Expr)) (vs : List Expr) (X : Cx), Cok cad t C Γ X → cKV t Γ x ks vs = true → SoKV cad C X x ks vs
  | .nil, Γ, ks, vs, X, k, h => by
    cases ks with
    | cons o _ => cases o <;> cases vs <;> exact Bool.noConfusion h
    | nil => cases vs with
      | cons _ _ => exact Bool.noConfusion h
      | nil =>
        intro pos
        refine ⟨[], pps_nil, rfl, rfl, fun w st env σ r st' Q e s er q => ?_⟩
        rw [evKV] at e
        cases e
        exact q [] w (Le.refl w) s .nil
  | .cons kx x r, Γ, ks, vs, X, k, h => by
    cases ks with
    | nil => exact Bool.noConfusion h
    | cons o ks => cases o with
      | none => exact Bool.noConfusion h
      | some ka => cases vs with
        | nil => exact Bool.noConfusion h
        | cons a vs =>
          have h' : (cE t Γ kx ka && (cE t Γ x a && cKV t Γ r ks vs)) = true := h
          simp only [Bool.and_eq_true] at h'
          obtain ⟨h0, h1, h2⟩ := h'
          intro pos
          obtain ⟨trs, p1, p2, p3, p4⟩ := sKV cad t C r Γ ks vs X k h2 pos
          refine ⟨(WE X ka, WE X a) :: trs, pps_cons (pe _) (pe _) p1, by simpa using p2, by simpa using p3, fun w st env σ rr st' Q e s er q => ?_⟩
          rw [evKV] at e
          split at e
          rotate_left
          · cases e
          rename_i vk st1 q1
          split at e
          rotate_left
          · cases e
          rename_i vv st2 q2
          split at e
          rotate_left
          · cases e
          rename_i us st3 q3
          obtain ⟨kk, e1, e2⟩ := Option.map_eq_some_iff.mp e
          cases e2
          refine sE cad t C kx Γ ka X k h0 w st env σ vk st1 _ q1 s er fun xv w1 l1 s1 r1 => sE cad t C x Γ a X k h1 w1 st1 env σ vv st2 _ q2 s1 (er.le l1) fun yv w2 l2 s2 r2 => p4 w2 st2 env σ us _ _ q3 s2 ((er.le l1).le l2) fun ps w3 l3 s3 r3 => q _ w3 ((l1.trans l2).trans l3) s3 (.cons ⟨fun hf => ?_, r2.le l3⟩ r3)
          rcases keyOf_v s3 ((r1.le l2).le l3) e1 with ⟨i, z1, z2⟩ | ⟨js, b, z1, _⟩
          · exact ⟨i, z1, z2⟩
          · rw [z1] at hf; cases hf
theorem sB (cad : En) (t : Tb) (C : Cfg) : ∀ (x : Es) (Γ : Ct) (as : List Expr) (X : Cx), Cok cad t C Γ X → cB t Γ x as = true → SoB cad C X x as
  | .nil, Γ, as, X, k, h => by exact Bool.noConfusion h
  | .cons x .nil, Γ, as, X, k, h => by
    match as, h with
    | [a], h =>
      intro kk pos w st env σ v st' Q e s er q
      rw [evB] at e
      exact we_of (pe_one (pe _)) (sE cad t C x Γ a X k h w st env σ v st' Q e s er q)
    | [], h => exact Bool.noConfusion h
    | _ :: _ :: _, h => exact Bool.noConfusion h
  | .cons x (.cons y es), Γ, as, X, k, h => by
    match as, h with
    | a :: b :: as, h =>
      have h' : (cE t Γ x a && cB t Γ (.cons y es) (b :: as)) = true := h
      rw [Bool.and_eq_true] at h'
      intro kk pos w st env σ v st' Q e s er q
      rw [evB] at e
      split at e
      rotate_left
      · cases e
      rename_i vx st1 q1
      split at e
      rotate_left
      · cases e
      rename_i c hc
      cases kk with
      | true =>
        refine we_and (sE cad t C x Γ a X k h'.1 w st env σ vx st1 _ q1 s er fun xv w1 l1 s1 r1 => truth_ok hc s1 r1 ?_)
        cases c with
        | true =>
          rw [if_pos rfl] at e ⊢
          exact sB cad t C (.cons y es) Γ (b :: as) X k h'.2 true pos w1 st1 env σ v st' Q e s1 (er.le l1) (q.le l1)
        | false =>
          rw [if_neg Bool.false_ne_true] at e ⊢
          cases e
          exact q xv w1 l1 s1 r1
      | false =>
        refine we_or (sE cad t C x Γ a X k h'.1 w st env σ vx st1 _ q1 s er fun xv w1 l1 s1 r1 => truth_ok hc s1 r1 ?_)
        cases c with
        | false =>
          rw [if_pos rfl] at e
          rw [if_neg Bool.false_ne_true]
          exact sB cad t C (.cons y es) Γ (b :: as) X k h'.2 false pos w1 st1 env σ v st' Q e s1 (er.le l1) (q.le l1)
        | true =>
          rw [if_neg (by simp)] at e
          rw [if_pos rfl]
          cases e
          exact q xv w1 l1 s1 r1
    | [], h => exact Bool.noConfusion h
    | [_], h => exact Bool.noConfusion h
theorem sO (cad : En) (t : Tb) (C : Cfg) : ∀ (x : Oe) (Γ : Ct) (a : Option Expr) (X : Cx), Cok cad t C Γ X → cO t Γ x a = true → SoO cad C X x a
  | .none, Γ, a, X, k, h => by
    cases a with
    | some _ => exact Bool.noConfusion h
    | none =>
      intro w st env σ l st' Q e s er q
      rw [evO] at e
      cases e
      exact wo_of po_none (q w (Le.refl w) s)
  | .some x, Γ, a, X, k, h => by
    cases a with
    | none => exact Bool.noConfusion h
    | some a =>
      intro w st env σ l st' Q e s er q
      rw [evO] at e
      split at e
      rotate_left
      · cases e
      rename_i v st1 q1
      split at e
      rotate_left
      · cases e
      rename_i i hv
      cases e
      refine wo_of (po_some (pe _)) (sE cad t C x Γ a X k h w st env σ v _ _ q1 s er fun xv w1 l1 s1 r1 => ?_)
      obtain rfl : xv = .int i := view_ok s1 r1 hv
      exact ⟨i, rfl, q w1 l1 s1⟩
theorem sT (cad : En) (t : Tb) (C : Cfg) : ∀ (x : T) (Γ : Ct) (a : Expr) (X : Cx), Cok cad t C Γ X → cT t Γ x a = true → SoT cad C X x a
  | .val x, Γ, a, X, k, h => by
    have h' : (plainT a && cE t Γ x a) = true := by cases a <;> exact h
    rw [Bool.and_eq_true] at h'
    intro w st env σ b st' Q e s er q
    rw [evT] at e
    split at e
    rotate_left
    · cases e
    rename_i vx st1 q1
    obtain ⟨r, e1, e2⟩ := Option.map_eq_some_iff.mp e
    cases e2
    exact wt_val h'.1 (sE cad t C x Γ a X k h'.2 w st env σ vx _ _ q1 s er fun xv w1 l1 s1 r1 => truth_ok e1 s1 r1 (q w1 l1 s1))
  | .cmp op x y, Γ, a, X, k, h => by
    cases a <;> first | (exact Bool.noConfusion h; done) | skip
    rename_i a' ops bs p
    match ops, bs, h with
    | [op'], [b'], h =>
      have h' : (decide (copOf op = op') && (noSet b' && (cE t Γ x a' && cE t Γ y b'))) = true := h
      simp only [Bool.and_eq_true, decide_eq_true_eq] at h'
      obtain ⟨rfl, h0, h1, h2⟩ := h'
      intro w st env σ b st' Q e s er q
      rw [evT] at e
      split at e
      rotate_left
      · cases e
      rename_i vx st1 q1
      split at e
      rotate_left
      · cases e
      rename_i vy st2 q2
      obtain ⟨r, e1, e2⟩ := Option.map_eq_some_iff.mp e
      cases e2
      exact wt_of (pt_cmpR wop (pe _) (pe _) (beh_of h0)) (sE cad t C x Γ a' X k h1 w st env σ vx st1 _ q1 s er fun xv w1 l1 s1 r1 => sE cad t C y Γ b' X k h2 w1 st1 env σ vy _ _ q2 s1 (er.le l1) fun yv w2 l2 s2 r2 => cmpop_ok k.toXOk (by rw [← k.ct]; exact e1) s2 (r1.le l2) r2 ⟨_, rfl, q w2 (l1.trans l2) s2⟩)
    | [], _, h => exact Bool.noConfusion h
    | [_], [], h => exact Bool.noConfusion h
    | [_], _ :: _ :: _, h => exact Bool.noConfusion h
    | _ :: _ :: _, _, h => exact Bool.noConfusion h
  | .chain op op2 x y z, Γ, a, X, k, h => by
    cases a <;> first | (exact Bool.noConfusion h; done) | skip
    rename_i a' ops bs p
    match ops, bs, h with
    | [op', op2'], [b', c'], h =>
      have h' : (decide (copOf op = op') && (decide (copOf op2 = op2') && (noSet c' && (cE t Γ x a' && (cE t Γ y b' && cE t Γ z c'))))) = true := h
      simp only [Bool.and_eq_true, decide_eq_true_eq] at h'
      obtain ⟨rfl, rfl, h0, h1, h2, h3⟩ := h'
      intro w st env σ b st' Q e s er q
      rw [evT] at e
      split at e
      rotate_left
      · cases e
      rename_i vx st1 q1
      split at e
      rotate_left
      · cases e
      rename_i vy st2 q2
      refine wt_of (pt_chain wop wop (pe _) (pe _) (pe _) (beh_of h0)) (sE cad t C x Γ a' X k h1 w st env σ vx st1 _ q1 s er fun xv w1 l1 s1 r1 => sE cad t C y Γ b' X k h2 w1 st1 env σ vy st2 _ q2 s1 (er.le l1) fun yv w2 l2 s2 r2 => ?_)
      split at e
      · rename_i hc
        split at e
        rotate_left
        · cases e
        rename_i vz st3 q3
        obtain ⟨r, e1, e2⟩ := Option.map_eq_some_iff.mp e
        cases e2
        refine cmpop_ok k.toXOk (by rw [← k.ct]; exact hc) s2 (r1.le l2) r2 ⟨true, rfl, ?_⟩
        rw [if_pos rfl]
        exact sE cad t C z Γ c' X k h3 w2 st2 env σ vz _ _ q3 s2 ((er.le l1).le l2) fun zv w3 l3 s3 r3 => cmpop_ok k.toXOk (by rw [← k.ct]; exact e1) s3 (r2.le l3) r3 ⟨_, rfl, q w3 ((l1.trans l2).trans l3) s3⟩
      · rename_i hc
        cases e
        refine cmpop_ok k.toXOk (by rw [← k.ct]; exact hc) s2 (r1.le l2) r2 ⟨false, rfl, ?_⟩
        rw [if_neg Bool.false_ne_true]
        exact ⟨false, rfl, q w2 (l1.trans l2) s2⟩
      · cases e
    | [], _, h => exact Bool.noConfusion h
    | [_], _, h => exact Bool.noConfusion h
    | [_, _], [], h => exact Bool.noConfusion h
    | [_, _], [_], h => exact Bool.noConfusion h
    | [_, _], _ :: _ :: _ :: _, h => exact Bool.noConfusion h
    | _ :: _ :: _ :: _, _, h => exact Bool.noConfusion h
  | .not c, Γ, a, X, k, h => by
    cases a <;> first | (exact Bool.noConfusion h; done) | skip
    rename_i op a' p
    cases op <;> first | (exact Bool.noConfusion h; done) | skip
    intro w st env σ b st' Q e s er q
    rw [evT] at e
    obtain ⟨r, e1, e2⟩ := Option.map_eq_some_iff.mp e
    obtain ⟨r1, r2⟩ := r
    cases e2
    exact wt_of (pt_not (pt _)) (sT cad t C c Γ a' X k h w st env σ r1 _ _ e1 s er fun w1 l1 s1 => q w1 l1 s1)
  | .bop kk ts, Γ, a, X, k, h => by
    cases a <;> first | (exact Bool.noConfusion h; done) | skip
    rename_i op as p
    have h' : (decide (op = if kk then .And else .Or) && cBT t Γ ts as) = true := h
    simp only [Bool.and_eq_true, decide_eq_true_eq] at h'
    obtain ⟨rfl, h1⟩ := h'
    intro w st env σ b st' Q e s er q
    rw [evT] at e
    exact wt_of (pw _).pt (sBT cad t C ts Γ as X k h1 kk p w st env σ b st' Q e s er q)
theorem sBT (cad : En) (t : Tb) (C : Cfg) : ∀ (x : Ts) (Γ : Ct) (as : List Expr) (X : Cx), Cok cad t C Γ X → cBT t Γ x as = true → SoBT cad C X x as
  | .nil, Γ, as, X, k, h => by exact Bool.noConfusion h
  | .cons x .nil, Γ, as, X, k, h => by
    match as, h with
    | [a], h =>
      intro kk pos w st env σ b st' Q e s er q
      rw [evBT] at e
      have := sT cad t C x Γ a X k h w st env σ b st' Q e s er q
      cases kk with
      | true => exact ww_of (pw_and1 (pt _)) this
      | false => exact ww_of (pw_or1 (pt _)) this
    | [], h => exact Bool.noConfusion h
    | _ :: _ :: _, h => exact Bool.noConfusion h
  | .cons x (.cons y es), Γ, as, X, k, h => by
    match as, h with
    | a :: b :: as, h =>
      have h' : (cT t Γ x a && cBT t Γ (.cons y es) (b :: as)) = true := h
      rw [Bool.and_eq_true] at h'
      intro kk pos w st env σ v st' Q e s er q
      rw [evBT] at e
      split at e
      rotate_left
      · cases e
      rename_i c st1 q1
      cases kk with
      | true =>
        refine ww_of (pw_and (pt _) (pw _)) (sT cad t C x Γ a X k h'.1 w st env σ c st1 _ q1 s er fun w1 l1 s1 => ?_)
        cases c with
        | true =>
          rw [if_pos rfl] at e ⊢
          exact sBT cad t C (.cons y es) Γ (b :: as) X k h'.2 true pos w1 st1 env σ v st' Q e s1 (er.le l1) fun w2 l2 s2 => q w2 (l1.trans l2) s2
        | false =>
          rw [if_neg Bool.false_ne_true] at e ⊢
          cases e
          exact q w1 l1 s1
      | false =>
        refine ww_of (pw_or (pt _) (pw _)) (sT cad t C x Γ a X k h'.1 w st env σ c st1 _ q1 s er fun w1 l1 s1 => ?_)
        cases c with
        | false =>
          rw [if_pos rfl] at e
          rw [if_neg Bool.false_ne_true]
          exact sBT cad t C (.cons y es) Γ (b :: as) X k h'.2 false pos w1 st1 env σ v st' Q e s1 (er.le l1) fun w2 l2 s2 => q w2 (l1.trans l2) s2
        | true =>
          rw [if_neg (by simp)] at e
          rw [if_pos rfl]
          cases e
          exact q w1 l1 s1
    | [], h => exact Bool.noConfusion h
    | [_], h => exact Bool.noConfusion h
theorem sTs (cad : En) (t : Tb) (C : Cfg) : ∀ (x : Ts) (Γ : Ct) (as : List Expr) (X : Cx), Cok cad t C Γ X → cTs t Γ x as = true → SoTs cad C X x as
  | .nil, Γ, as, X, k, h => by
    cases as with
    | cons _ _ => exact Bool.noConfusion h
    | nil =>
      intro w st env σ b st' Q e s er q
      rw [evTs] at e
      cases e
      exact wts_of pts_nil (q w (Le.refl w) s)
  | .cons x .nil, Γ, as, X, k, h => by
    match as, h with
    | [a], h =>
      intro w st env σ b st' Q e s er q
      rw [evTs] at e
      split at e
      · rename_i st1 q1
        rw [evTs] at e
        cases e
        exact wts_of (pts_one (pt _)) (sT cad t C x Γ a X k h w st env σ true _ Q q1 s er q)
      · rename_i st1 q1
        cases e
        exact wts_of (pts_one (pt _)) (sT cad t C x Γ a X k h w st env σ false _ Q q1 s er q)
      · cases e
    | [], h => exact Bool.noConfusion h
    | _ :: _ :: _, h => exact Bool.noConfusion h
  | .cons x (.cons y es), Γ, as, X, k, h => by exact Bool.noConfusion h
theorem sG (cad : En) (t : Tb) (C : Cfg) : ∀ (x : G) (Γ : Ct) (a : Expr) (X : Cx), Cok cad t C Γ X → cG t Γ x a = true → SoG cad C X x a
  | .slot i, Γ, a, X, k, h => by
    cases a <;> first | (exact Bool.noConfusion h; done) | skip
    rename_i nm p
    obtain ⟨h1, h2, h3⟩ := loc_of k h
    intro w st env σ x v env' st' T e s er rv q
    rw [asgG] at e
    split at e
    · cases e
      exact wg_of (pg_name k.nd h1 h2 h3) (q _ w (Le.refl w) s (er.set i rv) fun vs hv => wipe_set (hv i (by simp [gsl])))
    · cases e
  | .tup gs, Γ, a, X, k, h => by
    cases a <;> first | (exact Bool.noConfusion h; done) | skip
    rename_i as n p
    have h' : (as.all noStar && cGs t Γ gs as) = true := h
    rw [Bool.and_eq_true] at h'
    intro w st env σ x v env' st' T e s er rv q
    rw [asgG] at e
    split at e
    · rename_i xs hv
      obtain ⟨l, us, rfl, hl, rl⟩ := view_ok s rv hv
      exact wg_of (pg_tup k.calm (pgs as) (n := xs.length) (by rw [assignEach_len h'.1]; exact asgGs_len h'.2 e) (assignEach_star h'.1)) ⟨l, us, rfl, (w.ext.t hl).sq, rl.length, sGs cad t C gs Γ as X k h'.2 w st env σ xs us env' st' T e s er rl q⟩
    · rename_i xs hv
      obtain ⟨l, us, rfl, hl, rl⟩ := view_ok s rv hv
      exact wg_of (pg_unl k.calm (pgs as) (n := xs.length) (by rw [assignEach_len h'.1]; exact asgGs_len h'.2 e) (assignEach_star h'.1)) ⟨l, us, rfl, hl, rl.length, sGs cad t C gs Γ as X k h'.2 w st env σ xs us env' st' T e s er rl q⟩
    · cases e
  | .sub kk x i, Γ, a, X, k, h => by
    cases a <;> first | (exact Bool.noConfusion h; done) | skip
    rename_i a' i' p
    have h'' : (noSlice i' && (cE t Γ x a' && cE t Γ i i')) = true := h
    rw [Bool.and_eq_true] at h''
    have h0 := h''.1
    have h' := h''.2
    rw [Bool.and_eq_true] at h'
    intro w st env σ xx v env' st' T e s er rv q
    rw [asgG] at e
    split at e
    rotate_left
    · cases e
    rename_i vx st1 q1
    split at e
    rotate_left
    · cases e
    rename_i vy st2 q2
    obtain ⟨st3, e1, e2⟩ := Option.map_eq_some_iff.mp e
    cases e2
    exact wg_of (pg_sub (pe _) (pe _) wset (fun v => asg_sub h0)) (sE cad t C x Γ a' X k h'.1 w st env σ vx st1 _ q1 s er fun xv w1 l1 s1 r1 => sE cad t C i Γ i' X k h'.2 w1 st1 env σ vy st2 _ q2 s1 (er.le l1) fun yv w2 l2 s2 r2 => setItem_ok k.toXOk (by rw [← k.ct]; exact e1) s2 (r1.le l2) r2 ((rv.le l1).le l2) fun w3 l3 s3 => q σ w3 ((l1.trans l2).trans l3) s3 (((er.le l1).le l2).le l3) fun vs _ => rfl)
theorem sGs (cad : En) (t : Tb) (C : Cfg) : ∀ (x : Gs) (Γ : Ct) (as : List Expr) (X : Cx), Cok cad t C Γ X → cGs t Γ x as = true → SoGs cad C X x as
  | .nil, Γ, as, X, k, h => by
    cases as with
    | cons _ _ => exact Bool.noConfusion h
    | nil =>
      intro w st env σ xs vs env' st' T e s er rl q
      cases xs with
      | cons _ _ => rw [asgGs] at e <;> first | (cases e; done) | simp
      | nil =>
        rw [asgGs] at e
        cases e
        cases rl
        exact wgs_of pgs_nil ⟨rfl, q σ w (Le.refl w) s er fun vs _ => rfl⟩
  | .cons g gs, Γ, as, X, k, h => by
    cases as with
    | nil => exact Bool.noConfusion h
    | cons a as =>
      have h'' : (noStar a && (cG t Γ g a && cGs t Γ gs as)) = true := h
      rw [Bool.and_eq_true] at h''
      have h0 := h''.1
      have h' := h''.2
      rw [Bool.and_eq_true] at h'
      intro w st env σ xs vs env' st' T e s er rl q
      cases xs with
      | nil => rw [asgGs] at e <;> first | (cases e; done) | simp
      | cons x xs =>
        rw [asgGs] at e
        split at e
        rotate_left
        · cases e
        rename_i env1 st1 q1
        cases rl with
        | cons r1 r2 =>
          exact wgs_of (pgs_cons (pg _) (pgs _) (by rw [assignEach_cons h0]; rfl)) ⟨_, _, rfl, sG cad t C g Γ a X k h'.1 w st env σ x _ env1 st1 _ q1 s er r1 fun σ1 w1 l1 s1 er1 hw1 => sGs cad t C gs Γ as X k h'.2 w1 st1 env1 σ1 xs _ env' st' T e s1 er1 (r2.le l1) fun σ2 w2 l2 s2 er2 hw2 => q σ2 w2 (l1.trans l2) s2 er2 fun us hu => (hw2 us fun i hi => hu i (List.mem_append_right _ hi)).trans (hw1 us fun i hi => hu i (List.mem_append_left _ hi))⟩
theorem sI (cad : En) (t : Tb) (C : Cfg) : ∀ (x : I) (Γ : Ct) (a : Expr) (X : Cx), Cok cad t C Γ X → cI t Γ x a = true → SoI cad C X x a
  | .seq x, Γ, a, X, k, h => by
    have h' : cE t Γ x a = true := by cases a <;> exact h
    intro tg w st env σ items st' R e s er q
    rw [evI] at e
    split at e
    rotate_left
    · cases e
    rename_i v st1 q1
    exact seq_sem (fun Q hQ => sE cad t C x Γ a X k h' w st env σ v st1 Q q1 s er hQ) e q
  | .keys x, Γ, a, X, k, h => by
    have h' : cE t Γ x a = true := by cases a <;> exact h
    intro tg w st env σ items st' R e s er q
    rw [evI] at e
    split at e
    rotate_left
    · cases e
    rename_i v st1 q1
    exact keys_sem (fun Q hQ => sE cad t C x Γ a X k h' w st env σ v st1 Q q1 s er hQ) e q
  | .keysM _, Γ, a, X, k, h => by cases a <;> exact Bool.noConfusion h
  | .items _, Γ, a, X, k, h => by cases a <;> exact Bool.noConfusion h
  | .enum _, Γ, a, X, k, h => by cases a <;> exact Bool.noConfusion h
  | .zip _ _, Γ, a, X, k, h => by cases a <;> exact Bool.noConfusion h
  | .vals x, Γ, a, X, k, h => by
    cases a <;> first | (exact Bool.noConfusion h; done) | skip
    rename_i fn as kws cpos
    cases fn <;> first | (exact Bool.noConfusion h; done) | skip
    rename_i a' nm apos
    match as, kws, h with
    | [], [], h =>
      have h' : (decide (nm = "values") && (noCall0 a' && ((apos.endLine == cpos.line) && cE t Γ x a'))) = true := h
      simp only [Bool.and_eq_true, decide_eq_true_eq] at h'
      obtain ⟨rfl, h1, h2, h3⟩ := h'
      intro tg w st env σ items st' R e s er q
      rw [evI] at e
      split at e
      rotate_left
      · cases e
      rename_i v st1 q1
      exact vals_sem (fun Q hQ => sE cad t C x Γ a' X k h3 w st env σ v st1 Q q1 s er hQ) h1 h2 e q
    | _ :: _, _, h => exact Bool.noConfusion h
    | [], _ :: _, h => exact Bool.noConfusion h
  | .rng (.cons x .nil), Γ, a, X, k, h => by
    cases a <;> first | (exact Bool.noConfusion h; done) | skip
    rename_i fn as kws cpos
    cases fn <;> first | (exact Bool.noConfusion h; done) | skip
    rename_i nm p1
    match as, kws, h with
    | [a], [], h =>
      have h' : (glC Γ nm && (decide (nm = "range") && (decide (("range" : Str) ∈ t.free) && (noStar a && cE t Γ x a)))) = true := h
      simp only [Bool.and_eq_true, decide_eq_true_eq] at h'
      obtain ⟨h0, rfl, h1, h2, h3⟩ := h'
      obtain ⟨g1, g2⟩ := gl_of k h0
      intro tg w st env σ items st' R e s er q
      rw [evI] at e
      have hes : cEs t Γ (.cons x .nil) [a] = true := by show (noStar a && (cE t Γ x a && true)) = true; rw [h2, h3]; rfl
      split at e
      · rename_i j st1 q1
        split at e
        rotate_left
        · cases e
        rename_i hj
        cases e
        refine wi_of (pi_range1 g1 (k.free _ h1) (pa _) (by rw [star_of h2]; rfl)) (sEs cad t C (.cons x .nil) Γ [a] X k hes w st env σ _ _ _ q1 s er fun xs w1 l1 s1 r1 => ?_)
        obtain ⟨xv, rfl, rv⟩ := rvl1 r1
        refine ⟨j, by rw [pu_int rv], (small_of hj).1, (small_of hj).2, q _ w1 l1 s1 ?_⟩
        have := itr_rng (K := X.K) (cad := cad) (w := w1) (lo := 0) (hi := j)
        rwa [Int.sub_zero] at this
      · rename_i i j st1 q1
        have := evEs_len q1
        simp [lenEs] at this
      · cases e
    | [], _, h => exact Bool.noConfusion h
    | [_], _ :: _, h => exact Bool.noConfusion h
    | _ :: _ :: _, _, h => exact Bool.noConfusion h
  | .rng .nil, Γ, a, X, k, h => by cases a <;> exact Bool.noConfusion h
  | .rng (.cons x (.cons y .nil)), Γ, a, X, k, h => by
    cases a <;> first | (exact Bool.noConfusion h; done) | skip
    rename_i fn as kws cpos
    cases fn <;> first | (exact Bool.noConfusion h; done) | skip
    rename_i nm p1
    match as, kws, h with
    | [a, b], [], h =>
      have h' : (glC Γ nm && (decide (nm = "range") && (decide (("range" : Str) ∈ t.free) && (noStar a && (noStar b && (cE t Γ x a && cE t Γ y b)))))) = true := h
      simp only [Bool.and_eq_true, decide_eq_true_eq] at h'
      obtain ⟨h0, rfl, h1, h2, h3, h4, h5⟩ := h'
      obtain ⟨g1, g2⟩ := gl_of k h0
      intro tg w st env σ items st' R e s er q
      rw [evI] at e
      have hes : cEs t Γ (.cons x (.cons y .nil)) [a, b] = true := by show (noStar a && (cE t Γ x a && (noStar b && (cE t Γ y b && true)))) = true; rw [h2, h3, h4, h5]; rfl
      split at e
      · rename_i j st1 q1
        have := evEs_len q1
        simp [lenEs] at this
      · rename_i i j st1 q1
        split at e
        rotate_left
        · cases e
        rename_i hj
        rw [Bool.and_eq_true] at hj
        cases e
        refine wi_of (pi_range2 g1 (k.free _ h1) (pa _) (by rw [star_of h2, star_of h3]; rfl) (by rw [star_of h3]; rfl)) (sEs cad t C (.cons x (.cons y .nil)) Γ [a, b] X k hes w st env σ _ _ _ q1 s er fun xs w1 l1 s1 r1 => ?_)
        obtain ⟨xv, yv, rfl, rv, ru⟩ := rvl2 r1
        exact ⟨i, j, by rw [pu_int rv, pu_int ru], ⟨(small_of hj.1).1, (small_of hj.1).2, (small_of hj.2).1, (small_of hj.2).2⟩, q _ w1 l1 s1 itr_rng⟩
      · cases e
    | [], _, h => exact Bool.noConfusion h
    | [_], _, h => exact Bool.noConfusion h
    | [_, _], _ :: _, h => exact Bool.noConfusion h
    | _ :: _ :: _ :: _, _, h => exact Bool.noConfusion h
  | .rng (.cons x (.cons y (.cons z zs))), Γ, a, X, k, h => by cases a <;> exact Bool.noConfusion h
end
end Y

set_option linter.all false
set_option maxRecDepth 100000
set_option Elab.async false
/-! YH: .. statements. Written by gen_YH.py. -/
namespace Y
open PySem L2 PySem.SeqAt

theorem set_lc {cad : En} {t : Tb} {C : Cfg} {Γ : Ct} {X : Cx} {i : Nat} {o : Bool} {own : List (Str × Nat)} {g : G} {it : I} {ts : Ts} {x : E} {y : Str} {py pos spos : Pos} {elt : Expr} {gens : List Comprehension} {scope : Scope} (k : Cok cad t C Γ X)
    (h : cE t Γ (.lc o own g it ts x) (.ListComp elt gens scope pos) = true) (hl : locC Γ i y = true) (hs : swapC Γ y py scope pos = true) {w : Wd} {st st' : Store} {env : Env} {σ : L2.St} {v : Val} {D0 : Ends} (e : evE C (.lc o own g it ts x) env st = some (v, st')) (s : SR X.K cad w st) (er : ER X.K cad w env σ)
    (q : Post X cad w st' v fun u H => gName i u σ H D0.nx) : WS X (.Assign [.Name y py] (.ListComp elt gens scope pos) spos) D0 σ w.H := by
  obtain ⟨y1, y2, y3⟩ := loc_of k hl
  match gens, h with
  | [c], h =>
    obtain ⟨tg, iter, ifs, asy⟩ := c
    have h' : (decide (asy = 0) && (blkC Γ.N Γ.sc scope own && (noSet iter && ((gsl g).all (fun i => decide (i ∈ own.map (·.2))) && (cI t Γ it iter && (cG t (blkΓ Γ scope) g tg && (cTs t (blkΓ Γ scope) ts ifs && cE t (blkΓ Γ scope) x elt))))))) = true := h
    simp only [Bool.and_eq_true, decide_eq_true_eq, List.all_eq_true] at h'
    obtain ⟨rfl, h1, h2, h3, h4, h5, h6, h7⟩ := h'
    have hsw : X.env.scope.kind = .function ∧ X.env.scope.names.lookup y = some .local ∧ (py.line == pos.line) = true ∧ (scope.names.any fun (n, k) => n == y && (k == .local || k == .cell)) = false := by
      unfold swapC at hs
      simp only [Bool.and_eq_true, decide_eq_true_eq, Bool.not_eq_true'] at hs
      obtain ⟨z1, z2, z3, z4⟩ := hs
      refine ⟨?_, by rw [k.sc]; exact z2, z3, z4⟩
      rw [k.sc]
      split at z1
      · assumption
      · cases z1
    rw [evE] at e
    split at e
    rotate_left
    · cases e
    rename_i items st1 q1
    split at e
    rotate_left
    · cases e
    rename_i vs st2 q2
    split at e
    rotate_left
    · cases e
    rename_i hz
    have hbk : BlkOk X.N X.env.scope scope own := by rw [k.N, k.sc]; exact blkOk_by h1
    refine ws_of (ps_setLc (g := fun v σ H Q => ∀ s0 H0 D cl fp, WG (X.blk s0 H0 scope (compEnvC scope cl D X.env) fp) tg v σ H Q) (tt := fun σ H Q => ∀ s0 H0 D cl fp, WTs (X.blk s0 H0 scope (compEnvC scope cl D X.env) fp) ifs σ H Q) (te := fun σ H Q => ∀ s0 H0 D cl fp, WE (X.blk s0 H0 scope (compEnvC scope cl D X.env) fp) elt σ H Q) k.calm k.nd y1 hsw.2.1 (sw_true hsw.1 hsw.2.1 hsw.2.2.1 hsw.2.2.2) (pi_ tg iter) hbk
      (fun s0 H0 D cl fp => ⟨fun pins s σ H v u Q I r h => h s0 H0 D cl fp pins s u I r⟩) (fun s0 H0 D cl fp => ⟨fun pins s σ H Q I h => h s0 H0 D cl fp pins s I⟩) (fun s0 H0 D cl fp => ⟨fun pins s σ H Q I h => h s0 H0 D cl fp pins s I⟩) (fold_of h2)) (sI cad t C it Γ iter X k h4 tg w st env σ items st1 _ q1 s er fun J w1 l1 s1 hJ => ?_)
    refine fun D hD => lc_sem (own := own.map (fun z : Str × Nat => z.2)) (σ := σ) (g := fun v σ H Q => ∀ s0 H0 D cl fp, WG (X.blk s0 H0 scope (compEnvC scope cl D X.env) fp) tg v σ H Q) (tt := fun σ H Q => ∀ s0 H0 D cl fp, WTs (X.blk s0 H0 scope (compEnvC scope cl D X.env) fp) ifs σ H Q) (te := fun σ H Q => ∀ s0 H0 D cl fp, WE (X.blk s0 H0 scope (compEnvC scope cl D X.env) fp) elt σ H Q) q2 s1 hz e hJ (fun x0 sa r sb hr => ?_) (q.le l1) D hD fun x0 w2 sa r sb v0 K1 K2 hr sr lp rv k1 k2 => ?_
    · split at hr
      · split at hr
        · split at hr
          · cases hr; exact .inr ⟨_, rfl⟩
          · cases hr
        · cases hr; exact .inl rfl
        · cases hr
      · cases hr
    · intro s0 H0 D0 cl fp
      have kb := k.blk s0 H0 scope D0 cl fp
      split at hr
      rotate_left
      · cases hr
      rename_i env2 sc2 qa
      refine sG cad t C g (blkΓ Γ scope) tg _ kb h5 w2 sa _ _ x0 v0 env2 sc2 _ qa sr ((er.le l1).lp lp |>.wipe _) rv fun σ3 w3 l3 s3 er3 hw3 => ⟨?_, ?_⟩
      · rw [hw3 _ (fun i hi => h3 i hi)]
        exact wipe_wipe _ _ fun i hi => hi
      · intro s0' H0' D0' cl' fp'
        have kb' := k.blk s0' H0' scope D0' cl' fp'
        split at hr
        · rename_i sd qb
          split at hr
          rotate_left
          · cases hr
          rename_i y se qc
          cases hr
          refine sTs cad t C ts (blkΓ Γ scope) ifs _ kb' h6 w3 sc2 env2 σ3 true sd _ qb s3 er3 fun w4 l4 s4 => ?_
          rw [if_pos rfl]
          intro s0'' H0'' D0'' cl'' fp''
          exact sE cad t C x (blkΓ Γ scope) elt _ (k.blk s0'' H0'' scope D0'' cl'' fp'') h7 w4 sd env2 σ3 y _ _ qc s4 (er3.le l4) fun yv w5 l5 s5 r5 => k2 w5 y yv ((l3.trans l4).trans l5) s5 rfl r5
        · rename_i sd qb
          cases hr
          refine sTs cad t C ts (blkΓ Γ scope) ifs _ kb' h6 w3 sc2 env2 σ3 false _ _ qb s3 er3 fun w4 l4 s4 => ?_
          rw [if_neg Bool.false_ne_true]
          exact k1 w4 (l3.trans l4) s4 rfl
        · cases hr
  | [], h => exact Bool.noConfusion h
  | _ :: _ :: _, h => exact Bool.noConfusion h

def SoS (cad : En) (C : Cfg) (X : Cx) (x : S) (a : Stmt) : Prop := ∀ (w : Wd) (st : Store) (env : Env) (σ : L2.St) (fl : Fl) (env' : Env) (st' : Store) (D : Ends), evS C x env st = some (fl, env', st') → SR X.K cad w st → ER X.K cad w env σ → Fin X cad w fl env' st' D → WS X a D σ w.H
def SoSs (cad : En) (C : Cfg) (X : Cx) (x : Ss) (a : List Stmt) : Prop := ∀ (w : Wd) (st : Store) (env : Env) (σ : L2.St) (fl : Fl) (env' : Env) (st' : Store) (D : Ends), evSs C x env st = some (fl, env', st') → SR X.K cad w st → ER X.K cad w env σ → Fin X cad w fl env' st' D → WSs X a D σ w.H

theorem sw_either {cad : En} {t : Tb} {C : Cfg} {Γ : Ct} {X : Cx} (k : Cok cad t C Γ X) {e : Expr} {y : Str} {py : Pos} {l : Nat} (h : (noComp e || celC Γ y) = true) : swapsWith e (some (.Name y py)) l X.env = pure false := by
  cases hn : noComp e with
  | true => exact sw_of hn
  | false =>
    rw [hn, Bool.false_or] at h
    unfold celC at h
    split at h
    rotate_left
    · cases h
    rename_i hy
    have ky : X.env.kindOf y = some .cell := by
      show X.env.scope.names.lookup y = _
      rw [k.sc]; exact hy
    have kz : (X.env.kindOf y == some NameKind.local) = false := by rw [ky]; rfl
    cases e <;> first | rfl | (unfold swapsWith; simp only [kz, Bool.and_false, Bool.false_and]; done) | (unfold swapsWith; simp only [kz, Bool.and_false, Bool.false_and]; rfl)
theorem live_some {asg : Val → Env → Store → Option (Env × Store)} {body : Env → Store → Option (Fl × Env × Store)} {n m i : Nat} {env : Env} {st : Store} {r : Fl × Env × Store} (e : evLive asg body n m i env st = some r) : ∃ vs, st[n]? = some (.lst vs) := by
  cases m with
  | zero => cases e
  | succ m =>
    rw [evLive] at e
    split at e
    · rename_i vs hv
      exact ⟨vs, hv⟩
    · cases e
theorem lc_only {t : Tb} {Γ : Ct} {x : E} {elt : Expr} {gens : List Comprehension} {scope : Scope} {pos : Pos} (h : cE t Γ x (.ListComp elt gens scope pos) = true) : ∃ o own g it ts z, x = .lc o own g it ts z := by
  cases x <;> first | exact ⟨_, _, _, _, _, _, rfl⟩ | (exact Bool.noConfusion h; done) | skip
  rename_i o bb es
  obtain ⟨_, _, _, _, e⟩ := bi_call h
  cases e
theorem set_shape {t : Tb} {Γ : Ct} {i : Nat} {x : E} {a : Stmt} (h : cS t Γ (.setLc i x) a = true) : ∃ y py elt gens scope pos p, a = .Assign [.Name y py] (.ListComp elt gens scope pos) p ∧ locC Γ i y = true ∧ swapC Γ y py scope pos = true ∧ cE t Γ x (.ListComp elt gens scope pos) = true := by
  cases a <;> first | (exact Bool.noConfusion h; done) | skip
  rename_i tgs v p
  cases tgs with
  | nil => exact Bool.noConfusion h
  | cons tg tgs =>
    cases tgs with
    | cons _ _ => cases tg <;> exact Bool.noConfusion h
    | nil =>
      cases tg <;> first | (exact Bool.noConfusion h; done) | skip
      rename_i y py
      cases v <;> first | (exact Bool.noConfusion h; done) | skip
      rename_i elt gens scope pos
      have h' : (locC Γ i y && (swapC Γ y py scope pos && cE t Γ x (.ListComp elt gens scope pos))) = true := h
      simp only [Bool.and_eq_true] at h'
      exact ⟨y, py, elt, gens, scope, pos, p, rfl, h'.1, h'.2.1, h'.2.2⟩
theorem asg_tup {t : Tb} {Γ : Ct} {gs : Gs} {x : E} {a : Stmt} (h : cS t Γ (.asg (.tup gs) x) a = true) : ∃ as n p1 a' p, a = .Assign [.Tuple as n p1] a' p ∧ cG t Γ (.tup gs) (.Tuple as n p1) = true ∧ cE t Γ x a' = true ∧ ((∃ f b kw z, a' = .Call f b kw z) ∨ ∃ y z, a' = .Name y z) := by
  cases a <;> first | (exact Bool.noConfusion h; done) | skip
  rename_i tgs v p
  cases tgs with
  | nil => exact Bool.noConfusion h
  | cons tg tgs =>
    cases tgs with
    | cons _ _ => cases tg <;> first | (exact Bool.noConfusion h; done) | (cases v <;> exact Bool.noConfusion h)
    | nil =>
      cases tg <;> first | (exact Bool.noConfusion h; done) | skip
      rename_i as n p1
      cases v <;> first | (exact Bool.noConfusion h; done) | skip
      · rename_i f b kw z
        have h' : (cG t Γ (.tup gs) (.Tuple as n p1) && cE t Γ x (.Call f b kw z)) = true := h
        rw [Bool.and_eq_true] at h'
        exact ⟨as, n, p1, _, p, rfl, h'.1, h'.2, .inl ⟨f, b, kw, z, rfl⟩⟩
      · rename_i y z
        have h' : (cG t Γ (.tup gs) (.Tuple as n p1) && cE t Γ x (.Name y z)) = true := h
        rw [Bool.and_eq_true] at h'
        exact ⟨as, n, p1, _, p, rfl, h'.1, h'.2, .inr ⟨y, z, rfl⟩⟩
theorem asg_subs {t : Tb} {Γ : Ct} {kk : Bool} {x i y : E} {a : Stmt} (h : cS t Γ (.asg (.sub kk x i) y) a = true) : ∃ a' i' p1 b p, a = .Assign [.Subscript a' i' p1] b p ∧ cG t Γ (.sub kk x i) (.Subscript a' i' p1) = true ∧ cE t Γ y b = true := by
  cases a <;> first | (exact Bool.noConfusion h; done) | skip
  rename_i tgs v p
  cases tgs with
  | nil => exact Bool.noConfusion h
  | cons tg tgs =>
    cases tgs with
    | cons _ _ => cases tg <;> exact Bool.noConfusion h
    | nil =>
      cases tg <;> first | (exact Bool.noConfusion h; done) | skip
      rename_i a' i' p1
      have h' : (cG t Γ (.sub kk x i) (.Subscript a' i' p1) && cE t Γ y v) = true := h
      simp only [Bool.and_eq_true] at h'
      exact ⟨a', i', p1, v, p, rfl, h'.1, h'.2⟩
theorem passes {cad : En} {t : Tb} {C : Cfg} {Γ : Ct} {X : Cx} (k : Cok cad t C Γ X) : PassesOwn (model X.prog X.w) X.A X.env X.xe := fun e s h => (k.xe e s h).elim
mutual
theorem sS (cad : En) (t : Tb) (C : Cfg) : ∀ (x : S) (Γ : Ct) (a : Stmt) (X : Cx), Cok cad t C Γ X → cS t Γ x a = true → SoS cad C X x a
  | .asg (.slot i) x, Γ, a, X, k, h => by
    cases a <;> first | (exact Bool.noConfusion h; done) | skip
    rename_i tgs a' p
    match tgs, h with
    | [.Name nm p1], h =>
      have h' : (locC Γ i nm && ((noComp a' || celC Γ nm) && cE t Γ x a')) = true := h
      simp only [Bool.and_eq_true] at h'
      obtain ⟨h0, h1, h2⟩ := h'
      obtain ⟨y1, y2, y3⟩ := loc_of k h0
      intro w st env σ fl env' st' D e s er q
      rw [evS] at e
      split at e
      rotate_left
      · cases e
      rename_i v st1 q1
      rw [asgG] at e
      split at e
      rotate_left
      · cases e
      rename_i env1 st2 q2
      split at q2
      rotate_left
      · cases q2
      cases q2
      cases e
      exact ws_of (ps_set k.nd y1 y2 (pe _) (sw_either k h1) y3) (sE cad t C x Γ a' X k h2 w st env σ v _ _ q1 s er fun xv w1 l1 s1 r1 => q _ w1 l1 s1 ((er.le l1).set i r1))
    | [], h => exact Bool.noConfusion h
    | .BoolOp .. :: _, h => exact Bool.noConfusion h
    | .NamedExpr .. :: _, h => exact Bool.noConfusion h
    | .BinOp .. :: _, h => exact Bool.noConfusion h
    | .UnaryOp .. :: _, h => exact Bool.noConfusion h
    | .Lambda .. :: _, h => exact Bool.noConfusion h
    | .IfExp .. :: _, h => exact Bool.noConfusion h
    | .Dict .. :: _, h => exact Bool.noConfusion h
    | .Set .. :: _, h => exact Bool.noConfusion h
    | .ListComp .. :: _, h => exact Bool.noConfusion h
    | .SetComp .. :: _, h => exact Bool.noConfusion h
    | .DictComp .. :: _, h => exact Bool.noConfusion h
    | .GeneratorExp .. :: _, h => exact Bool.noConfusion h
    | .Await .. :: _, h => exact Bool.noConfusion h
    | .Yield .. :: _, h => exact Bool.noConfusion h
    | .YieldFrom .. :: _, h => exact Bool.noConfusion h
    | .Compare .. :: _, h => exact Bool.noConfusion h
    | .Call .. :: _, h => exact Bool.noConfusion h
    | .FormattedValue .. :: _, h => exact Bool.noConfusion h
    | .JoinedStr .. :: _, h => exact Bool.noConfusion h
    | .Constant .. :: _, h => exact Bool.noConfusion h
    | .Attribute .. :: _, h => exact Bool.noConfusion h
    | .Subscript .. :: _, h => exact Bool.noConfusion h
    | .Starred .. :: _, h => exact Bool.noConfusion h
    | .List .. :: _, h => exact Bool.noConfusion h
    | .Tuple .. :: _, h => exact Bool.noConfusion h
    | .Slice .. :: _, h => exact Bool.noConfusion h
    | .Name _ _ :: _ :: _, h => exact Bool.noConfusion h
  | .asg (.tup gs) x, Γ, a, X, k, h => by
    obtain ⟨as, n, p1, a', p, rfl, h1, h2, hv⟩ := asg_tup h
    intro w st env σ fl env' st' D e s er q
    rw [evS] at e
    split at e
    rotate_left
    · cases e
    rename_i v st1 q1
    split at e
    rotate_left
    · cases e
    rename_i env1 st2 q2
    cases e
    refine ws_of (ps_asg (pe _) (pg _) (by rcases hv with ⟨f, b, kw, z, rfl⟩ | ⟨y, z, rfl⟩ <;> rfl) (by rcases hv with ⟨f, b, kw, z, rfl⟩ | ⟨y, z, rfl⟩ <;> rfl) rfl) (sE cad t C x Γ a' X k h2 w st env σ v st1 _ q1 s er fun xv w1 l1 s1 r1 => sG cad t C (.tup gs) Γ (.Tuple as n p1) X k h1 w1 st1 env σ v xv _ _ _ q2 s1 (er.le l1) r1 fun σ2 w2 l2 s2 er2 _ => q σ2 w2 (l1.trans l2) s2 er2)
  | .asg (.sub kk x i) y, Γ, a, X, k, h => by
    obtain ⟨a', i', p1, b, p, rfl, h1, h3⟩ := asg_subs h
    intro w st env σ fl env' st' D e s er q
    rw [evS] at e
    split at e
    rotate_left
    · cases e
    rename_i v st1 q1
    split at e
    rotate_left
    · cases e
    rename_i env1 st2 q2
    cases e
    refine ws_of (ps_asg (pe _) (pg _) (by unfold swapsWithSole; exact sw_sub) rfl rfl) (sE cad t C y Γ b X k h3 w st env σ v st1 _ q1 s er fun xv w1 l1 s1 r1 => sG cad t C (.sub kk x i) Γ (.Subscript a' i' p1) X k h1 w1 st1 env σ v xv _ _ _ q2 s1 (er.le l1) r1 fun σ2 w2 l2 s2 er2 _ => q σ2 w2 (l1.trans l2) s2 er2)
  | .par2 _ _ _ _, Γ, a, X, k, h => by cases a <;> exact Bool.noConfusion h
  | .fld _ _ _, Γ, a, X, k, h => by cases a <;> exact Bool.noConfusion h
  | .setLc i x, Γ, a, X, k, h => by
    obtain ⟨y, py, elt, gens, scope, pos, p, rfl, h1, h2, h3⟩ := set_shape h
    intro w st env σ fl env' st' D e s er q
    rw [evS] at e
    split at e
    rotate_left
    · cases e
    rename_i v st1 q1
    split at e
    rotate_left
    · cases e
    cases e
    obtain ⟨o, own, g, it, ts, z, rfl⟩ := lc_only h3
    exact set_lc k h3 h1 h2 q1 s er fun xv w1 l1 s1 r1 => q _ w1 l1 s1 ((er.le l1).set i r1)
  | .expr x, Γ, a, X, k, h => by
    cases a <;> first | (exact Bool.noConfusion h; done) | skip
    rename_i a' p
    have h' : (noComp a' && cE t Γ x a') = true := h
    rw [Bool.and_eq_true] at h'
    intro w st env σ fl env' st' D e s er q
    rw [evS] at e
    split at e
    rotate_left
    · cases e
    rename_i v st1 q1
    cases e
    exact ws_of (ps_expr (pe _) (sw_of h'.1)) (sE cad t C x Γ a' X k h'.2 w st env σ v _ _ q1 s er fun xv w1 l1 s1 r1 => q σ w1 l1 s1 (er.le l1))
  | .ret x, Γ, a, X, k, h => by
    cases a <;> first | (exact Bool.noConfusion h; done) | skip
    rename_i a' p
    cases a' with
    | none => exact Bool.noConfusion h
    | some a' =>
      intro w st env σ fl env' st' D e s er q
      rw [evS] at e
      split at e
      rotate_left
      · cases e
      rename_i v st1 q1
      cases e
      exact ws_of (ps_ret (pe _)) (sE cad t C x Γ a' X k h w st env σ v _ _ q1 s er fun xv w1 l1 s1 r1 => q xv w1 l1 s1 r1)
  | .retN, Γ, a, X, k, h => by
    cases a <;> first | (exact Bool.noConfusion h; done) | skip
    rename_i a' p
    cases a' with
    | some _ => exact Bool.noConfusion h
    | none =>
      intro w st env σ fl env' st' D e s er q
      rw [evS] at e
      cases e
      exact ws_of ps_retN (q .non w (Le.refl w) s (.pu .non))
  | .ife c x y, Γ, a, X, k, h => by
    cases a <;> first | (exact Bool.noConfusion h; done) | skip
    rename_i c' a' b' p
    have h' : (cT t Γ c c' && (cSs t Γ x a' && cSs t Γ y b')) = true := h
    simp only [Bool.and_eq_true] at h'
    obtain ⟨h0, h1, h2⟩ := h'
    intro w st env σ fl env' st' D e s er q
    rw [evS] at e
    split at e
    · rename_i st1 q1
      refine ws_of (ps_if (pt _) (pss _) (pss _)) (sT cad t C c Γ c' X k h0 w st env σ true st1 _ q1 s er fun w1 l1 s1 => ?_)
      rw [if_pos rfl]
      exact sSs cad t C x Γ a' X k h1 w1 st1 env σ fl env' st' D e s1 (er.le l1) (q.le l1)
    · rename_i st1 q1
      refine ws_of (ps_if (pt _) (pss _) (pss _)) (sT cad t C c Γ c' X k h0 w st env σ false st1 _ q1 s er fun w1 l1 s1 => ?_)
      rw [if_neg Bool.false_ne_true]
      exact sSs cad t C y Γ b' X k h2 w1 st1 env σ fl env' st' D e s1 (er.le l1) (q.le l1)
    · cases e
  | .whl c x, Γ, a, X, k, h => by
    cases a <;> first | (exact Bool.noConfusion h; done) | skip
    rename_i c' b' els p
    cases els with
    | cons _ _ => exact Bool.noConfusion h
    | nil =>
      have h' : (cT t Γ c c' && cSs t Γ x b') = true := h
      rw [Bool.and_eq_true] at h'
      intro w st env σ fl env' st' D e s er q
      rw [evS] at e
      exact ws_of (ps_while (passes k) (pt _) (pss _)) (while_sem e s er q (fun w2 env σ st b st1 T h1 h2 h3 h4 => sT cad t C c Γ c' X k h'.1 w2 st env σ b st1 T h1 h2 h3 h4) fun w2 env σ st fl env1 st1 D h1 h2 h3 h4 => sSs cad t C x Γ b' X k h'.2 w2 st env σ fl env1 st1 D h1 h2 h3 h4)
  | .for_ g it x, Γ, a, X, k, h => by
    cases a <;> first | (exact Bool.noConfusion h; done) | skip
    rename_i tg iter b' els p
    cases els with
    | cons _ _ => exact Bool.noConfusion h
    | nil =>
      have h' : (noSet iter && (cI t Γ it iter && (cG t Γ g tg && cSs t Γ x b'))) = true := h
      simp only [Bool.and_eq_true] at h'
      obtain ⟨h0, h1, h2, h3⟩ := h'
      intro w st env σ fl env' st' D e s er q
      rw [evS] at e
      split at e
      rotate_left
      · cases e
      rename_i items st1 q1
      refine ws_of (ps_for (passes k) k.calm (pi_ tg iter) (pg tg) (pss b') (fold_of h0)) (sI cad t C it Γ iter X k h1 tg w st env σ items st1 _ q1 s er fun J w1 l1 s1 hJ => ?_)
      exact for_sem e s1 (er.le l1) hJ (q.le l1) (fun x0 w2 env σ st v env1 st1 T h1 h4 h5 h6 h7 => sG cad t C g Γ tg X k h2 w2 st env σ x0 v env1 st1 T h1 h4 h5 h6 fun σ' w3 l3 s3 er3 _ => h7 σ' w3 l3 s3 er3) fun w2 env σ st fl env1 st1 D h1 h4 h5 h6 => sSs cad t C x Γ b' X k h3 w2 st env σ fl env1 st1 D h1 h4 h5 h6
  | .forL g x y, Γ, a, X, k, h => by
    cases a <;> first | (exact Bool.noConfusion h; done) | skip
    rename_i tg iter b' els p
    cases els with
    | cons _ _ => exact Bool.noConfusion h
    | nil =>
      have h' : (noSet iter && (cE t Γ x iter && (cG t Γ g tg && cSs t Γ y b'))) = true := h
      simp only [Bool.and_eq_true] at h'
      obtain ⟨h0, h1, h2, h3⟩ := h'
      intro w st env σ fl env' st' D e s er q
      rw [evS] at e
      split at e
      rotate_left
      · cases e
      rename_i n st1 q1
      refine ws_of (ps_for (passes k) k.calm (pi_list (pe iter)) (pg tg) (pss b') (fold_of h0)) (sE cad t C x Γ iter X k h1 w st env σ _ _ _ q1 s er fun xv w1 l1 s1 r1 => ?_)
      cases r1 with
      | cell ht =>
        rename_i ad
        obtain ⟨vs, hvs⟩ := live_some e
        obtain ⟨a2, own, c1, c2, ce⟩ := s1.cl n _ hvs
        have ea : a2 = ad := by rw [ht] at c1; injection c1 with c1; exact c1.symm
        subst ea
        refine ⟨a2, rfl, ?_, ?_⟩
        · cases ce with
          | lst hp r => exact ⟨_, .of hp⟩
        · exact live_sem e s1 (er.le l1) ht (q.le l1) (fun x0 w2 env σ st v env1 st1 T h1 h4 h5 h6 h7 => sG cad t C g Γ tg X k h2 w2 st env σ x0 v env1 st1 T h1 h4 h5 h6 fun σ' w3 l3 s3 er3 _ => h7 σ' w3 l3 s3 er3) fun w2 env σ st fl env1 st1 D h1 h4 h5 h6 => sSs cad t C y Γ b' X k h3 w2 st env σ fl env1 st1 D h1 h4 h5 h6
  | .pass, Γ, a, X, k, h => by
    cases a <;> first | (exact Bool.noConfusion h; done) | skip
    intro w st env σ fl env' st' D e s er q
    rw [evS] at e
    cases e
    exact ws_of ps_pass (q σ w (Le.refl w) s er)
  | .cont, Γ, a, X, k, h => by
    cases a <;> first | (exact Bool.noConfusion h; done) | skip
    intro w st env σ fl env' st' D e s er q
    rw [evS] at e
    cases e
    exact ws_of ps_continue (q σ w (Le.refl w) s er)
theorem sSs (cad : En) (t : Tb) (C : Cfg) : ∀ (x : Ss) (Γ : Ct) (a : List Stmt) (X : Cx), Cok cad t C Γ X → cSs t Γ x a = true → SoSs cad C X x a
  | .nil, Γ, a, X, k, h => by
    cases a with
    | cons _ _ => exact Bool.noConfusion h
    | nil =>
      intro w st env σ fl env' st' D e s er q
      rw [evSs] at e
      cases e
      exact wss_of pss_nil (q σ w (Le.refl w) s er)
  | .cons x xs, Γ, a, X, k, h => by
    cases a with
    | nil => exact Bool.noConfusion h
    | cons a as =>
      have h' : (cS t Γ x a && cSs t Γ xs as) = true := h
      rw [Bool.and_eq_true] at h'
      intro w st env σ fl env' st' D e s er q
      rw [evSs] at e
      refine wss_of (pss_cons (ps _) (pss _)) ?_
      split at e
      · rename_i env1 st1 q1
        exact sS cad t C x Γ a X k h'.1 w st env σ .nx env1 st1 _ q1 s er fun σ1 w1 l1 s1 er1 => sSs cad t C xs Γ as X k h'.2 w1 st1 env1 σ1 fl env' st' D e s1 er1 (q.le l1)
      · rename_i f env1 st1 hne q1
        cases e
        refine sS cad t C x Γ a X k h'.1 w st env σ _ _ _ _ q1 s er ?_
        cases fl with
        | nx => exact absurd rfl hne
        | ct => exact q
        | rt v => exact q
      · cases e
end
end Y

set_option linter.all false
set_option maxRecDepth 100000
set_option Elab.async false
/-! YI: the program's functions. -/
namespace Y
open PySem L2 PySem.SeqAt PyProof.Rows
variable {cad : En}

/-! ### what a call leaves -/
section
variable {K : PySem.W.Frag} {w : Wd} {st : Store}
/-- cells from b on are dropped -/
abbrev Wd.cutC (w : Wd) (b : Nat) : Wd := { w with tops := w.tops.take b, owns := w.owns.take b }
mutual
theorem blw_rv {b : Nat} : ∀ (x : Val) (v : V), blw b x = true → RvW K cad w v x → RvW K cad (w.cutC b) v x
  | .pu p, v, _, r => by
    cases r with
    | pu h => exact .pu (h.mono Fb_ext)
  | .cell n, v, h, r => by
    cases r with
    | cell hn =>
      have hb : n < b := of_decide_eq_true h
      refine .cell ?_
      show (w.tops.take b)[n]? = _
      rw [List.getElem?_take_of_lt hb]
      exact hn
  | .tupv vs, v, h, r => by
    cases r with
    | tupv h1 h2 => exact .tupv (Fb_ext.t h1) (blw_rvL vs _ (by simpa [blw] using h) h2)
theorem blw_rvL {b : Nat} : ∀ (xs : List Val) (vs : List V), blwL b xs = true → RvLW K cad w vs xs → RvLW K cad (w.cutC b) vs xs
  | [], vs, _, r => by cases r; exact .nil
  | x :: xs, vs, h, r => by
    cases r with
    | cons r1 r2 =>
      rw [blwL, Bool.and_eq_true] at h
      exact .cons (blw_rv x _ h.1 r1) (blw_rvL xs _ h.2 r2)
end
theorem take_at {α : Type} {l : List α} {b n : Nat} {x : α} (h : (l.take b)[n]? = some x) : n < b ∧ l[n]? = some x := by
  have hn := (List.getElem?_eq_some_iff.mp h).1
  rw [List.length_take] at hn
  have hb : n < b := by omega
  rw [List.getElem?_take_of_lt hb] at h
  exact ⟨hb, h⟩
theorem cut_sr {b : Nat} (s : SR K cad w st) (hb : (st.take b).all (blwC b) = true) : SR K cad (w.cutC b) (st.take b) := by
  refine ⟨by show (w.tops.take b).length = _; rw [List.length_take, List.length_take, s.lt], by show (w.owns.take b).length = _; rw [List.length_take, List.length_take, s.lo], ?_, s.xd, fun n c h => ?_⟩
  · have nd := s.nd
    show ((w.owns.take b).flatten ++ w.xt).Nodup
    rw [show w.M = (w.owns.take b).flatten ++ ((w.owns.drop b).flatten ++ w.xt) from by
      show w.owns.flatten ++ w.xt = _
      rw [← List.append_assoc, ← List.flatten_append, List.take_append_drop]] at nd
    rw [List.nodup_append] at nd ⊢
    obtain ⟨n1, n2, n3⟩ := nd
    exact ⟨n1, (List.nodup_append.mp n2).2.1, fun a ha c hc => n3 a ha c (List.mem_append_right _ hc)⟩
  · obtain ⟨hn, hc⟩ := take_at h
    obtain ⟨a, own, h1, h2, h3⟩ := s.cl n c hc
    have hbl : blwC b c = true := List.all_eq_true.mp hb c (List.mem_of_getElem? h)
    refine ⟨a, own, ?_, ?_, ?_⟩
    · show (w.tops.take b)[n]? = some a
      rw [List.getElem?_take_of_lt hn]; exact h1
    · show (w.owns.take b)[n]? = some own
      rw [List.getElem?_take_of_lt hn]; exact h2
    · cases h3 with
      | lst g1 g2 => exact .lst g1 (blw_rvL _ _ hbl g2)
      | dk g1 g2 g3 => exact .dk g1 g2 (blw_rvL _ _ hbl g3)
      | dt g1 g2 g3 => exact .dt g1 g2 (blw_rvL _ _ hbl g3)
      | ins g1 g2 g3 g4 => exact .ins g1 g2 g3 (blw_rvL _ _ hbl g4)
      | dead g => exact .dead (g.mono Fb_ext)
theorem finish_ok {m : Nat} {w' : Wd} {st st1 st' : Store} {v0 v : Val} {x : V} (l : Le w w') (s0 : SR K cad w st) (s : SR K cad w' st1) (r : RvW K cad w' x v0) (e : finish m st.length v0 st1 = some (v, st')) : ∃ w2, Le w w2 ∧ w2.H = w'.H ∧ SR K cad w2 st' ∧ RvW K cad w2 x v := by
  unfold finish at e
  split at e
  · split at e
    rotate_left
    · cases e
    rename_i hb
    obtain ⟨p, h1, h2⟩ := Option.map_eq_some_iff.mp e
    cases h2
    refine ⟨w'.cutC st.length, ⟨⟨[], ?_⟩, l.ex.trans Fb_ext, l.xt, l.xk⟩, rfl, cut_sr s hb, .pu (toP_ok s FU v0 x p r h1)⟩
    obtain ⟨m, hm⟩ := l.tp
    show w'.tops.take st.length = w.tops ++ []
    rw [hm, ← s0.lt, List.take_left, List.append_nil]
  · cases e
    exact ⟨w', l, rfl, s, r⟩
end

/-! ### the functions -/
/-- a function of the text: its row in the table -/
structure FnI (t : Tb) (fd : Fd) (x : Str) (K : PySem.W.Frag) (mg : Str → Option Value) (a : Addr) : Prop where
  mgf : mg x = some (.ref a)
  kp : PySem.W.keepIn K (.ref a) = true
  ex : ∃ (oc : Value) (od : Option Addr) (params : Arguments) (body : List Stmt) (scope : Scope) (dV kV doc pm cdv ct : Value) (an : Option Addr) (osl : Array (Option Value)) (N ps : List Str),
    K.lookup a = some ⟨oc, od, .func (PySem.W.fnOf x x params body scope dV kV doc pm an cdv ct), osl⟩ ∧ PySem.W.codeIn K cdv x = true ∧ FnScope N ps scope ∧ ps.length = fd.np ∧ N.length = fd.ns ∧ cSs t ⟨N, scope, none⟩ fd.body body = true ∧
    ∀ (s : Shared) (us : List Value), us.length = ps.length → BindsTo s (PySem.W.fnOf x x params body scope dV kV doc pm an cdv ct) ⟨us, []⟩ (ps.zip us)
structure Wo (cad : En) (t : Tb) (tbl : List Fd) (gl : Nat → Option P) (K : PySem.W.Frag) (mg : Str → Option Value) : Prop where
  fns : ∀ (f : Nat) (x : Str), t.fns[f]? = some x → ∃ fd a, tbl[f]? = some fd ∧ FnI t fd x K mg a
  free : ∀ x ∈ t.free, mg x = none
  glb : ∀ (g : Nat) (p : P) (x : Str), gl g = some p → t.gls[g]? = some x → ∃ (u : Value) (v : V), mg x = some u ∧ RelV v u ∧ ∀ F : Hp, Rp K cad F v p
  sm : SysK K
section
variable {t : Tb} {tbl : List Fd} {cls : List Cd} {gl : Nat → Option P} {wf : Nat} {P : Program} {W : World} {K : PySem.W.Frag} {mg : Str → Option Value} {base : Heap}
theorem er_start {w : Wd} {N : List Str} {xs : List V} {vs : List Val} {ns np : Nat} (r : RvLW K cad w xs vs) (h1 : N.length = ns) (h2 : vs.length = np) : ER K cad w (vs.map some ++ List.replicate (ns - np) none) (L2.start N xs) := by
  have hl := r.length
  refine ⟨by unfold L2.start; simp [h1, ← h2, hl], fun i x e => ?_⟩
  by_cases hi : i < vs.length
  · rw [List.getElem?_append_left (by simpa using hi), List.getElem?_map] at e
    obtain ⟨y, e1, e2⟩ := Option.map_eq_some_iff.mp e
    cases e2
    obtain ⟨v, h3, h4⟩ := r.get e1
    refine ⟨v, ?_, h4⟩
    unfold L2.start
    rw [List.getElem?_append_left (by simpa [hl] using hi), List.getElem?_map, h3]; rfl
  · rw [List.getElem?_append_right (by simpa using hi), List.getElem?_replicate] at e
    split at e <;> cases e
/-- a call -/
theorem fg_run (wo : Wo cad t tbl gl K mg) (k : Nat)
    (ih : ∀ (X : Cx), X.prog = P → X.w = W → X.K = K → X.mg = mg → X.base = base → X.calm = true → X.A.guards = some [] → (∀ e s, ¬ X.xe e s) → Room k X.A → ∀ (f : Nat) (x : Str), t.fns[f]? = some x → ∃ a : Addr, X.mg x = some (.ref a) ∧ PySem.W.keepIn X.K (.ref a) = true ∧
      ∀ (w : Wd) (st st' : Store) (xs : List V) (vs : List Val) (v : Val) (Q : VK), (lv tbl cls gl cad.ct wf k).call f vs st = some (v, st') → SR X.K cad w st → RvLW X.K cad w xs vs → Post X cad w st' v Q → WCall X (.ref a) xs w.H Q)
    {f : Nat} {x : Str} {fd : Fd} {a : Addr} (hf : tbl[f]? = some fd) (I : FnI t fd x K mg a) {A : Around} {outer : List PySem.Env} {s : Shared} {w : Wd} {st st' : Store} {xs : List V} {vs : List Val} {us : List Value} {v : Val} {Q : VK}
    (hg : A.guards = some []) (hr : Room (k + 1) A) (e0 : Env0 P W K mg base A outer s w.H) (r : Vals xs us) (e : runF tbl (lv tbl cls gl cad.ct wf k) f vs st = some (v, st')) (sr : SR K cad w st) (rv : RvLW K cad w xs vs)
    (q : ∀ u w', Le w w' → SR K cad w' st' → RvW K cad w' u v → Q u w'.H) : codeAny (model P W) A (.call (.ref a) ⟨us, []⟩) (CR CX0 outer P W w.H s Q E0) s := by
  obtain ⟨oc, od, params, body, scope, dV, kV, doc, pm, cdv, ct, an, osl, N, ps, lk, hcd, S, hnp, hns, hc, hb⟩ := I.ex
  unfold runF at e
  rw [hf] at e
  simp only at e
  split at e
  rotate_left
  · cases e
  rename_i hlen
  have KX : K.In s.heap := e0.mod.kin.keeps fun b o e => (e0.bs b o e).1
  have lim : s.heap.NoLimit := e0.mod.nolimit.keeps fun b o e => (e0.bs b o e).1
  have hxl : xs.length = ps.length := by rw [rv.length, hlen, hnp]
  have hul : us.length = ps.length := by rw [← r.length]; exact hxl
  have kinds : ∀ y ∈ ps.zip us, scope.names.lookup y.1 = some .local ∨ (scope.names.lookup y.1 = some .cell ∧ ((cellsFrom (s.heap.objs.size + 1) scope.names []).lookup y.1).isSome = true) := fun ⟨n, z⟩ hy => by
    rcases S.par n (List.of_mem_zip hy).1 with h | h
    · exact .inl h
    · exact .inr ⟨h, PySem.W.cellsFrom_some _ _ _ (.inl h)⟩
  refine codeAny_call_function hr.depth (KX _ _ lk) rfl S.co S.gen rfl (PySem.W.codeRec_of KX hcd) (hb s us hul _ _ _ _ ?_)
  refine wpAny_newFunctionEnv_cells S.kind kinds fun env he s1 x1 => ?_
  subst he
  refine ⟨lim.keeps x1.toInCall.keep, codeAny_func ?_⟩
  have J : Inv (cxOf CX0 P W K mg base N x scope a cdv A outer s w.H E0) [] (L2.start N xs) w.H s1 := inv_start S hr.hd e0 hxl r x1
  have Jn := J.wish (fun _ _ => False)
  have hr2 := hr.deeper (envOfC x scope s.heap.objs.size a cdv)
  have ck : Cok cad t (lv tbl cls gl cad.ct wf k) ⟨N, scope, none⟩ (cxOf CX0 P W K mg base N x scope a cdv A outer s w.H E0).nox := by
    refine ⟨⟨⟨rfl, ?_, S.nd⟩, hg, wo.sm⟩, rfl, rfl, fun _ _ h => h, fun _ _ => rfl, ?_, wo.free, ?_, fun f' x' hx' => ?_⟩
    · have := hr2.un
      show (A.deeper _).units + 200 < cLine
      omega
    · cases k <;> rfl
    · intro g p y h1 h2
      refine wo.glb g p y ?_ h2
      cases k <;> exact h1
    · obtain ⟨a', m1, m2, _⟩ := ih (cxOf CX0 P W K mg base N x scope a cdv A outer s w.H E0).nox rfl rfl rfl rfl rfl rfl hg (fun _ _ h => h) hr2 f' x' hx'
      refine ⟨a', m1, m2, fun Y mY => ?_⟩
      obtain ⟨a2, n1, _, n3⟩ := ih Y mY.prog mY.w mY.K mY.mg mY.base mY.calm (by rw [mY.A]; exact hg) mY.xe (by rw [mY.A]; exact hr2) f' x' hx'
      rw [mY.mg] at n1
      have ea : a2 = a' := by
        have z := n1.symm.trans m1
        cases z; rfl
      subst ea
      exact n3
  have er := er_start (N := N) (ns := fd.ns) (np := fd.np) rv hns hlen
  have fin : ∀ {σ' : L2.St} {H' : Hp} {s' : Shared} {y : V} {u : Value}, Inv (cxOf CX0 P W K mg base N x scope a cdv A outer s w.H E0).nox [] σ' H' s' → RelV y u → Q y H' → CE outer P W w.H s Q u s' :=
    fun {σ' H' s' y u} J ry q => ⟨y, H', J.os, J.bare, J.base, J.hok, ry, q⟩
  have run : ∀ {fl env' st1}, evSs (lv tbl cls gl cad.ct wf k) fd.body (vs.map some ++ List.replicate (fd.ns - fd.np) none) st = some (fl, env', st1) → Fin (cxOf CX0 P W K mg base N x scope a cdv A outer s w.H E0).nox cad w fl env' st1 { nx := fun _ H' => Q .non H', rt := Q } →
      wpAny (model P W) (A.deeper (envOfC x scope s.heap.objs.size a cdv)) (execs body (envOfC x scope s.heap.objs.size a cdv)) (fun fl s' => SP (cxOf CX0 P W K mg base N x scope a cdv A outer s w.H E0).nox [] { nx := fun _ H' => Q .non H', rt := Q } fl s') (fun _ _ => False) s1 := fun h1 h2 =>
    sSs cad t _ fd.body ⟨N, scope, none⟩ body _ ck hc w st _ (L2.start N xs) _ _ _ _ h1 sr er h2 [] s1 Jn
  have post : ∀ {fl : Flow} {s' : Shared}, SP (cxOf CX0 P W K mg base N x scope a cdv A outer s w.H E0).nox [] { nx := fun _ H' => Q .non H', rt := Q } fl s' → (match fl with | .ret u => CE outer P W w.H s Q u s' | .next => CE outer P W w.H s Q Value.none s' | _ => False) := by
    intro fl s' hs
    cases fl with
    | ret u => obtain ⟨y, σ', H', J', ry, qq⟩ := hs; exact fin J' ry qq
    | next => obtain ⟨σ', H', J', qq⟩ := hs; exact fin (y := .non) (u := .none) J' rfl qq
    | brk => obtain ⟨_, _, _, qq⟩ := hs; exact False.elim qq
    | cont => obtain ⟨_, _, _, qq⟩ := hs; exact False.elim qq
  split at e
  · rename_i v0 env' st1 hev
    refine wpAny_mono (run hev fun y w' l' s' r' => ?_) (fun fl s' hs => ?_) fun _ _ z => False.elim z
    · obtain ⟨w2, l2, e2, s2, r2⟩ := finish_ok l' sr s' r' e
      have := q y w2 l2 s2 r2
      rw [e2] at this
      exact this
    · have := post hs
      cases fl <;> first | exact this | exact False.elim this
  · rename_i env' st1 hev
    refine wpAny_mono (run hev fun σ' w' l' s' _ => ?_) (fun fl s' hs => ?_) fun _ _ z => False.elim z
    · obtain ⟨w2, l2, e2, s2, r2⟩ := finish_ok l' sr s' (.pu .non) e
      have := q .non w2 l2 s2 r2
      rw [e2] at this
      exact this
    · have := post hs
      cases fl <;> first | exact this | exact False.elim this
  · cases e
theorem calls_ok (wo : Wo cad t tbl gl K mg) : ∀ (k : Nat) (X : Cx), X.prog = P → X.w = W → X.K = K → X.mg = mg → X.base = base → X.calm = true → X.A.guards = some [] → (∀ e s, ¬ X.xe e s) → Room k X.A → ∀ (f : Nat) (x : Str), t.fns[f]? = some x → ∃ a : Addr, X.mg x = some (.ref a) ∧ PySem.W.keepIn X.K (.ref a) = true ∧
      ∀ (w : Wd) (st st' : Store) (xs : List V) (vs : List Val) (v : Val) (Q : VK), (lv tbl cls gl cad.ct wf k).call f vs st = some (v, st') → SR X.K cad w st → RvLW X.K cad w xs vs → Post X cad w st' v Q → WCall X (.ref a) xs w.H Q := by
  intro k
  induction k with
  | zero =>
    intro X hP hW hK hmg hbase hc hg hx hr f x hf
    obtain ⟨fd, a, h1, h2⟩ := wo.fns f x hf
    exact ⟨a, by rw [hmg]; exact h2.mgf, by rw [hK]; exact h2.kp, fun w st st' xs vs v Q e => by cases e⟩
  | succ k ih =>
    intro X hP hW hK hmg hbase hc hg hx hr f x hf
    obtain ⟨fd, a, h1, h2⟩ := wo.fns f x hf
    refine ⟨a, by rw [hmg]; exact h2.mgf, by rw [hK]; exact h2.kp, fun w st st' xs vs v Q e sr rv q pins s σ us I r => ?_⟩
    subst hP hW hK hmg hbase
    refine wpAny_call (codeAny_mono (fg_run (cls := cls) (wf := wf) wo k ih h1 h2 hg hr I.env0 r e sr rv q) fun rr s' hq => ?_)
    cases rr with
    | error e => exact False.elim hq
    | ok fl =>
      cases fl with
      | ret u => exact I.after hq
      | next => exact False.elim hq
      | brk => exact False.elim hq
      | cont => exact False.elim hq
end
end Y

set_option linter.all false
set_option maxRecDepth 100000
set_option Elab.async false
/-! YJ: a law's end: the evaluator's answer at the script is the program's. -/
namespace Y
open PySem L2 PySem.SeqAt PyProof.Rows PySem.Spec
variable {cad : En} {t : Tb} {tbl : List Fd} {cls : List Cd} {gl : Nat → Option P} {wf : Nat}

theorem rp_ints {K : PySem.W.Frag} {H : Hp} : ∀ zs : List Int, RpL K cad H (zs.map V.int) (zs.map P.int)
  | [] => .nil
  | z :: zs => .cons (.int z) (rp_ints zs)
/-- the world in which nothing but the script is known -/
theorem sr_nil {K : PySem.W.Frag} (H : Hp) : SR K cad ⟨H, [], [], []⟩ [] :=
  ⟨rfl, rfl, List.nodup_nil, fun a ha => absurd ha (by simp), fun n c h => by simp at h⟩
theorem F_nil (H : Hp) : (⟨H, [], [], []⟩ : Wd).F = H := by
  funext b
  show hide H _ b = H b
  rw [hide_of (by simp)]
section
variable {P0 : Program} {W : World} {K : PySem.W.Frag} {mg mb : Str → Option Value} {fa a : Addr} {s1 : Shared} {us : List Value} {zs : List Int} {k f : Nat} {x : Str} {fd : Fd}
/-- the script's object -/
abbrev scr (us : List Value) : Obj := { cls := .type "list", data := .seq us.toArray }
structure Start (K : PySem.W.Frag) (a : Addr) (us : List Value) (zs : List Int) (H : Hp) : Prop where
  only : ∀ b, H b = none ∨ (b = a ∧ K.lookup a = none ∧ H b = some (.frz (scr us) (.lst (zs.map V.int))))
  sq : SqL K H a (zs.map V.int)
theorem law_at (wo : Wo cad t tbl gl K mg) (KX : K.In s1.heap) (hns : s1.heap.Ns mainGlobals mg) (hbl : s1.heap.Ns builtinsNs mb) (hbb : ∀ y : Str, y ≠ "__name__" → mb y = bootBuiltins y) (hlim : s1.heap.NoLimit) (hgens : s1.gens = #[])
    (ha : s1.heap.get? a = some (scr us)) (hi : IntsAre us zs) (hl : zs.length ≤ sizeLine) (hr : Room (k + 1) callerA) (hf : tbl[f]? = some fd) (I : FnI t fd x K mg fa)
    (ev : ∃ st', runF tbl (lv tbl cls gl cad.ct wf k) f [.pu (.lst (zs.map P.int))] [] = some (.pu (.bl true), st')) {H : Hp} (S : Start K a us zs H) :
    codeAny (model P0 W) callerA (.call (.ref fa) ⟨[.ref a], []⟩) (fun r s' => r = .ok (.ret (.bool true)) ∧ OldK s1.heap s'.heap ∧ s'.os = s1.os ∧ AllBare s'.gens) s1 := by
  obtain ⟨st', ev⟩ := ev
  have noneAt : ∀ {b : Addr} {o : Obj}, s1.heap.get? b = some o → o.cls ≠ .type "list" ∨ (∃ es ep, o.data = .dict es ep) → H b = none := fun {b o} e h => by
    rcases S.only b with z | ⟨rfl, _, _⟩
    · exact z
    · rw [ha] at e
      cases e
      rcases h with h | ⟨es, ep, h⟩
      · exact absurd rfl h
      · cases h
  have nsAt : ∀ {b : Addr} {m : Str → Option Value}, s1.heap.Ns b m → (hidT s1.heap H).Ns b m := fun {b m} ⟨o, es, ep, e, d, r⟩ => ⟨o, es, ep, hidT_get e (noneAt e (.inr ⟨es, ep, d⟩)), d, r⟩
  have KB : K.In (hidT s1.heap H) := fun b o e => hidT_get (KX b o e) (by
    rcases S.only b with z | ⟨rfl, z, _⟩
    · exact z
    · rw [z] at e; cases e)
  have M : Mod K mg (hidT s1.heap H) := ⟨KB, nsAt hns, ⟨mb, nsAt hbl, hbb⟩, let ⟨mc, z1, z2⟩ := hlim; ⟨mc, nsAt z1, z2⟩⟩
  have ok : HOk P0 W H s1.heap := fun b u e => by
    rcases S.only b with z | ⟨rfl, _, z⟩
    · rw [z] at e; cases e
    · rw [z] at e
      cases e
      exact ⟨ha, by rw [List.length_map]; exact hl, us, _, vals_ints hi, ha⟩
  have e0 : Env0 P0 W K mg (hidT s1.heap H) callerA [] s1 (⟨H, [], [], []⟩ : Wd).H := ⟨rfl, M, fun b o e => of_hidT e, Nat.le_of_eq (hidT_size _ _), trivial, fun b hb => absurd (show b ∈ ([] : List Addr) from hb) (by simp), ok, .of_eq hgens⟩
  refine codeAny_mono (fg_run (cls := cls) (wf := wf) (Q := fun v _ => v = .bl true) wo k (calls_ok wo k) hf I rfl hr e0 (xs := [.ref a]) (.cons rfl .nil) ev (sr_nil H) (.cons (.pu (.lst (by rw [F_nil]; exact S.sq) (rp_ints zs))) .nil) fun u w' _ _ ru => ?_) fun r s' h => ?_
  · cases ru with
    | pu h => cases h; rfl
  · cases r with
    | error e => exact False.elim h
    | ok fl =>
      cases fl with
      | next => exact False.elim h
      | brk => exact False.elim h
      | cont => exact False.elim h
      | ret u =>
        obtain ⟨v, H', os, bare, un, ok', ru, q⟩ := h
        have q' : v = .bl true := q
        subst q'
        obtain rfl : u = Value.bool true := ru
        refine ⟨rfl, OldK.of_keep fun b o e => ?_, os, bare⟩
        rcases S.only b with z | ⟨rfl, _, z⟩
        · exact un.keep b o e z (by intro y; exact absurd (show b ∈ ([] : List Addr) from y) (by simp)) (by simp)
        · obtain ⟨e2, _⟩ := ok' b _ (un.frzs b _ _ z)
          rw [ha] at e
          cases e
          exact e2
theorem law_on (wo : Wo cad t tbl gl K mg) (KX : K.In s1.heap) (hns : s1.heap.Ns mainGlobals mg) (hbl : s1.heap.Ns builtinsNs mb) (hbb : ∀ y : Str, y ≠ "__name__" → mb y = bootBuiltins y) (hlim : s1.heap.NoLimit) (hgens : s1.gens = #[])
    (ha : s1.heap.get? a = some (scr us)) (hi : IntsAre us zs) (hl : zs.length ≤ sizeLine) (hr : Room (k + 1) callerA) (hf : tbl[f]? = some fd) (I : FnI t fd x K mg fa)
    (ev : ∃ st', runF tbl (lv tbl cls gl cad.ct wf k) f [.pu (.lst (zs.map P.int))] [] = some (.pu (.bl true), st')) :
    codeAny (model P0 W) callerA (.call (.ref fa) ⟨[.ref a], []⟩) (fun r s' => r = .ok (.ret (.bool true)) ∧ OldK s1.heap s'.heap ∧ s'.os = s1.os ∧ AllBare s'.gens) s1 := by
  cases hk : K.lookup a with
  | some o =>
    have e := KX a o hk
    rw [ha] at e
    cases e
    exact law_at wo KX hns hbl hbb hlim hgens ha hi hl hr hf I ev (H := fun _ => none) ⟨fun _ => .inl rfl, .inr ⟨_, us.toArray, _, hk, rfl, rfl, rfl, by rw [List.size_toArray, hi.length]; exact hl, by simpa using vals_ints hi⟩⟩
  | none =>
    refine law_at wo KX hns hbl hbb hlim hgens ha hi hl hr hf I ev (H := fun b => if b = a then some (.frz (scr us) (.lst (zs.map V.int))) else none) ⟨fun b => ?_, .inl (.inr ⟨scr us, if_pos rfl⟩)⟩
    by_cases hb : b = a
    · exact .inr ⟨hb, hk, if_pos hb⟩
    · exact .inl (if_neg hb)
end
/-- a law over the evaluator -/
theorem walk_ofY {l : PySem.W.OpenLaw} {n k f : Nat} {q : Program} {loose : List Str} {XP : (Str → Option Value) → Heap → Prop} {YP : World → Heap → Prop} {d : DefRec}
    (hn : l.most = some n) (hn2 : n ≤ sizeLine) (hdf : d.params.defaults = []) (hr : Room (k + 1) callerA)
    (F : ∀ (w : World) (mg : Str → Option Value) (fa : Addr) (h : Heap), YP w h → h.Ns mainGlobals mg → mg d.name = some (.ref fa) →
      ∃ (K : PySem.W.Frag) (cad : En) (t : Tb) (tbl : List Fd) (cls : List Cd) (gl : Nat → Option P) (wf : Nat) (fd : Fd) (x : Str), K.In h ∧ Wo cad t tbl gl K mg ∧ tbl[f]? = some fd ∧ FnI t fd x K mg fa ∧
        ∀ zs : List Int, zs.length ≤ n → ∃ st', runF tbl (lv tbl cls gl cad.ct wf k) f [.pu (.lst (zs.map P.int))] [] = some (.pu (.bl true), st')) :
    PySem.W.WalkO q loose XP YP l.row.toRowW d [] (fun f vs => PySem.call f vs) := by
  refine Att.attach_call hn hdf fun w s0 s1 mg mb fa o pm cd doc a us zs G Yh ho hd hcd hmg hobj hints hlen hg => ?_
  obtain ⟨K, cad, t, tbl, cls, gl, wf, fd, x, KX, wo, hf, I, ev⟩ := F w mg fa _ Yh G.T.g hmg
  exact law_on wo KX G.T.g G.T.b G.T.builtins G.T.nolimit hg hobj hints (Nat.le_trans hlen hn2) hr hf I (ev zs hlen)
end Y

set_option linter.all false
set_option maxRecDepth 100000
set_option Elab.async false
/-! YK: the head: what stands behind the program's top, read off by one Hook. -/
namespace Y
open PySem L2 PySem.SeqAt PyProof.Rows PySem.Spec

/-- a def of the text: its name, statement, slots, parameters, row in the table -/
structure Row where
  x : Str
  st : Stmt
  N : List Str
  ps : List Str
  fd : Fd
abbrev Row.d (r : Row) : He.DefD := ⟨(r.x, none), r.x, r.x, defArgs r.st, defBody r.st, defScope r.st, [], []⟩
abbrev fnY (rows : List Row) : List He.DefD := rows.map Row.d
def glFa (c : Str × P) : He.Fa := match c.2 with
  | .int i => .int c.1 i
  | .str z => .str c.1 z
  | _ => .glo c.1
abbrev faY (rows : List Row) (cs : List (Str × P)) (fr : List Str) : List He.Fa := rows.map (fun r => He.Fa.glo r.x) ++ (cs.map glFa ++ fr.map He.Fa.free)
abbrev tbY (rows : List Row) (cs : List (Str × P)) (fr : List Str) : Tb := ⟨rows.map (fun r => r.x), cs.map (·.1), fr⟩
abbrev tblY (rows : List Row) : List Fd := rows.map (fun r => r.fd)
abbrev glY (cs : List (Str × P)) (g : Nat) : Option P := (cs[g]?).map (·.2)
structure Row.Ok (r : Row) (t : Tb) : Prop where
  sc : C8.scC r.N r.ps (defScope r.st) = true
  np : r.ps.length = r.fd.np
  ns : r.N.length = r.fd.ns
  bd : cSs t ⟨r.N, defScope r.st, none⟩ r.fd.body (defBody r.st) = true
  bi : ∀ (kV doc pm : Value) (an : Option Addr) (cdv ct : Value) (us : List Value), us.length = r.ps.length → bindArgs (PySem.W.fnOf r.x r.x (defArgs r.st) (defBody r.st) (defScope r.st) .none kV doc pm an cdv ct) ⟨us, []⟩ = pure (r.ps.zip us)
def glOk (c : Str × P) : Bool := match c.2 with
  | .int _ => true
  | .str _ => true
  | _ => false
/-! ### the Hook -/
def sysB (K : PySem.W.Frag) : Bool := match K.lookup sysModules with
  | some o => decide (o.cls = .type "dict")
  | none => false
theorem sysB_ok {K : PySem.W.Frag} (h : sysB K = true) : SysK K := by
  unfold sysB at h
  split at h
  · rename_i o e
    exact ⟨o, e, of_decide_eq_true h⟩
  · cases h
abbrev AlY : Type := He.AlD × Bool
def obsK (fa : List He.Fa) (fn : List He.DefD) (K : PySem.W.Frag) : AlY := (He.obsD fa fn K, sysB K)
def obsY (n : Nat) (fa : List He.Fa) (fn : List He.DefD) (g : Addr → Option Obj) : AlY := obsK fa fn (He.frG g (sysModules :: He.asD g n))
def hookY (n : Nat) (fa : List He.Fa) (fn : List He.DefD) : PySem.W.Hook where
  α := AlY
  obs := fun s => obsY n fa fn s.heap.get?
  val := fun _ => (He.valD fn, true)
  says := fun _ h => ∃ K : PySem.W.Frag, K.In h ∧ He.SaysD fa fn K ∧ SysK K
  of := fun _ _ e => ⟨_, He.frG_in, congrArg Prod.fst e, sysB_ok (congrArg Prod.snd e)⟩
  keeps := fun _ _ _ ⟨K, hK, c, d⟩ k => ⟨K, PySem.W.Frag.In.keeps hK k, c, d⟩
theorem obsY_eq {n : Nat} {fa : List He.Fa} {fn : List He.DefD} {g : Addr → Option Obj} {s : Shared} (h : ∀ a, g a = s.heap.get? a) : obsY n fa fn g = (hookY n fa fn).obs s := by
  have e : g = s.heap.get? := funext h
  rw [e] <;> rfl
/-! ### what it gives -/
section
variable {K : PySem.W.Frag} {h : Heap} {mg : Str → Option Value} {cad : En} {t : Tb}
theorem fn_at {r : Row} {a : Addr} {fd : FuncData} (F : FunD K r.x r.x (defArgs r.st) (defBody r.st) (defScope r.st) [] [] a fd) (ok : r.Ok t) (e : mg r.x = some (.ref a)) : FnI t r.fd r.x K mg a := by
  obtain ⟨oc, od, dV, kV, doc, pm, an, cdv, ct, osl, rfl, lk, hcd, hD, hK⟩ := F.ex
  rcases hD with ⟨_, rfl⟩ | ⟨e, _⟩
  · exact ⟨e, F.kp, oc, od, _, _, _, .none, kV, doc, pm, cdv, ct, an, osl, r.N, r.ps, lk, hcd, C8.fnScope_by ok.sc, ok.np, ok.ns, ok.bd, fun s us hl => .of_eq (ok.bi kV doc pm an cdv ct us hl)⟩
  · exact absurd rfl e
theorem wo_rows {rows : List Row} {cs : List (Str × P)} {fr : List Str} (X : K.In h) (G : h.Ns mainGlobals mg) (c : He.SaysD (faY rows cs fr) (fnY rows) K) (sm : SysK K) (hc : cs.all glOk = true) (ok : ∀ r ∈ rows, r.Ok (tbY rows cs fr)) : Wo cad (tbY rows cs fr) (tblY rows) (glY cs) K mg := by
  refine ⟨fun f x hx => ?_, fun x hx => ?_, fun g p x hg hx => ?_, sm⟩
  · have hx' : (rows.map (fun r => r.x))[f]? = some x := hx
    rw [List.getElem?_map] at hx'
    obtain ⟨r, hr, rfl⟩ := Option.map_eq_some_iff.mp hx'
    obtain ⟨fd, F⟩ := c.def_ f (d := r.d) (by rw [List.getElem?_map, hr]; rfl)
    have hl := (List.getElem?_eq_some_iff.mp hr).1
    have e : mg r.x = some (.ref (He.ga K r.x)) := He.glo_ok X G (c.fact f (f := .glo r.x) (by
      rw [List.getElem?_append_left (by simpa using hl), List.getElem?_map, hr]; rfl))
    exact ⟨r.fd, He.ga K r.x, by rw [List.getElem?_map, hr]; rfl, fn_at F (ok r (List.mem_of_getElem? hr)) e⟩
  · have c1 := (He.ba (show (((faY rows cs fr).all fun f => f.ok K) && (fnY rows).all fun d => d.ok K) = true from congrArg (fun z : He.AlD => z.1) c)).1
    exact He.free_ok X G (List.all_eq_true.mp c1 (.free x) (List.mem_append_right _ (List.mem_append_right _ (List.mem_map_of_mem hx))))
  · obtain ⟨q, hq, rfl⟩ := Option.map_eq_some_iff.mp hg
    have hx' : (cs.map (·.1))[g]? = some x := hx
    rw [List.getElem?_map, hq] at hx'
    cases hx'
    have hm := List.mem_of_getElem? hq
    have c1 := (He.ba (show (((faY rows cs fr).all fun f => f.ok K) && (fnY rows).all fun d => d.ok K) = true from congrArg (fun z : He.AlD => z.1) c)).1
    have c2 := List.all_eq_true.mp c1 (glFa q) (List.mem_append_right _ (List.mem_append_left _ (List.mem_map_of_mem hm)))
    have c3 := List.all_eq_true.mp hc q hm
    obtain ⟨x, p⟩ := q
    cases p with
    | int i =>
      obtain ⟨tg, e⟩ := He.int_ok X G (x := x) (i := i) c2
      exact ⟨_, .int i, e, ⟨tg, rfl⟩, fun F => .int i⟩
    | str z =>
      obtain ⟨tg, e⟩ := He.str_ok X G (x := x) (z := z) c2
      exact ⟨_, .str z, e, ⟨tg, rfl⟩, fun F => .str z⟩
    | _ => cases c3
end
end Y

set_option linter.all false
set_option maxRecDepth 100000
set_option Elab.async false
/-! YL: rules for the evaluator: what it answers, backwards. -/
namespace Y.Pl
open PySem
/-- it answers, and so -/
def W {α : Type} (o : Option α) (Q : α → Prop) : Prop := ∃ a, o = some a ∧ Q a
theorem W_some {α : Type} {a : α} {Q : α → Prop} : W (some a) Q ↔ Q a := ⟨fun ⟨_, e, q⟩ => by cases e; exact q, fun q => ⟨_, rfl, q⟩⟩
theorem W_none {α : Type} {Q : α → Prop} : W (none : Option α) Q ↔ False := ⟨fun ⟨_, e, _⟩ => by (cases e), fun h => h.elim⟩
theorem W_map {α β : Type} {o : Option α} {f : α → β} {Q : β → Prop} : W (o.map f) Q ↔ W o fun a => Q (f a) := by
  cases o <;> simp [W_some, W_none]
theorem W_mono {α : Type} {o : Option α} {Q R : α → Prop} (h : W o Q) (i : ∀ a, Q a → R a) : W o R := let ⟨a, e, q⟩ := h; ⟨a, e, i a q⟩
theorem W_of {α : Type} {o : Option α} {a : α} {Q : α → Prop} (h : o = some a) (q : Q a) : W o Q := ⟨a, h, q⟩
abbrev WE (C : Cfg) (e : E) (env : Env) (st : Store) (Q : Val → Store → Prop) : Prop := W (evE C e env st) fun q => Q q.1 q.2
abbrev WEs (C : Cfg) (es : Es) (env : Env) (st : Store) (Q : List Val → Store → Prop) : Prop := W (evEs C es env st) fun q => Q q.1 q.2
abbrev WT (C : Cfg) (t : T) (env : Env) (st : Store) (Q : Bool → Store → Prop) : Prop := W (evT C t env st) fun q => Q q.1 q.2
section
variable {C : Cfg} {env : Env} {st : Store} {Q : Val → Store → Prop}
theorem we_int {i : Int} : WE C (.cint i) env st Q ↔ Q (.pu (.int i)) st := by rw [WE, evE, W_some]
theorem we_str {i : Str} : WE C (.cstr i) env st Q ↔ Q (.pu (.str i)) st := by rw [WE, evE, W_some]
theorem we_bl {i : Bool} : WE C (.cbl i) env st Q ↔ Q (.pu (.bl i)) st := by rw [WE, evE, W_some]
theorem we_non : WE C .cnon env st Q ↔ Q (.pu .non) st := by rw [WE, evE, W_some]
theorem we_bin {o : Bool} {op : BOp} {a b : E} : WE C (.bin o op a b) env st Q ↔ WE C a env st fun x s => WE C b env s fun y s => W (binop o op x y s) fun q => Q q.1 q.2 := by
  unfold WE
  rw [evE]
  cases evE C a env st with
  | none => simp [W_none]
  | some q =>
    obtain ⟨x, s⟩ := q
    simp only [W_some]
    cases evE C b env s with
    | none => simp [W_none]
    | some q => simp only [W_some]
theorem we_cmp {op : COp} {a b : E} : WE C (.cmp op a b) env st Q ↔ WE C a env st fun x s => WE C b env s fun y s => W (cmpop C.ct op x y s) fun r => Q (.pu (.bl r)) s := by
  unfold WE
  rw [evE]
  cases evE C a env st with
  | none => simp [W_none]
  | some q =>
    obtain ⟨x, s⟩ := q
    simp only [W_some]
    cases evE C b env s with
    | none => simp [W_none]
    | some q => simp only [W_some, W_map]
theorem we_sub {a b : E} : WE C (.sub a b) env st Q ↔ WE C a env st fun x s => WE C b env s fun y s => W (subop C.ct x y s) fun r => Q r s := by
  unfold WE
  rw [evE]
  cases evE C a env st with
  | none => simp [W_none]
  | some q =>
    obtain ⟨x, s⟩ := q
    simp only [W_some]
    cases evE C b env s with
    | none => simp [W_none]
    | some q => simp only [W_some, W_map]
theorem we_call {f : Nat} {es : Es} : WE C (.call f es) env st Q ↔ WEs C es env st fun vs s => W (C.call f vs s) fun q => Q q.1 q.2 := by
  unfold WE WEs
  rw [evE]
  cases evEs C es env st with
  | none => simp [W_none]
  | some q => simp only [W_some]
theorem we_bi {o : Bool} {b : Bi} {es : Es} : WE C (.bi o b es) env st Q ↔ WEs C es env st fun vs s => W (bi o b vs s) fun q => Q q.1 q.2 := by
  unfold WE WEs
  rw [evE]
  cases evEs C es env st with
  | none => simp [W_none]
  | some q => simp only [W_some]
theorem wes_nil {Q : List Val → Store → Prop} : WEs C .nil env st Q ↔ Q [] st := by rw [WEs, evEs, W_some]
theorem wes_cons {e : E} {es : Es} {Q : List Val → Store → Prop} : WEs C (.cons e es) env st Q ↔ WE C e env st fun v s => WEs C es env s fun vs s => Q (v :: vs) s := by
  unfold WE WEs
  rw [evEs]
  cases evE C e env st with
  | none => simp [W_none]
  | some q =>
    obtain ⟨x, s⟩ := q
    simp only [W_some]
    cases evEs C es env s with
    | none => simp [W_none]
    | some q => simp only [W_some]
theorem we_slot {i : Nat} : WE C (.slot i) env st Q ↔ ∃ v, env[i]? = some (some v) ∧ Q v st := by
  unfold WE
  rw [evE]
  constructor
  · rintro ⟨q, e, h⟩
    split at e
    · cases e; exact ⟨_, ‹_›, h⟩
    · cases e
  · rintro ⟨v, e, h⟩
    exact ⟨(v, st), by rw [e], h⟩
theorem we_not {a : E} : WE C (.not a) env st Q ↔ WE C a env st fun x s => W (truth s x) fun b => Q (.pu (.bl (!b))) s := by
  unfold WE
  rw [evE]
  cases evE C a env st with
  | none => simp [W_none]
  | some q => simp only [W_some, W_map]
theorem we_ife {t : T} {a b : E} : WE C (.ife t a b) env st Q ↔ WT C t env st fun r s => (r = true → WE C a env s Q) ∧ (r = false → WE C b env s Q) := by
  unfold WE WT
  rw [evE]
  cases evT C t env st with
  | none => simp [W_none]
  | some q =>
    obtain ⟨r, s⟩ := q
    cases r <;> simp [W_some]
theorem we_tup {k : Bool} {es : Es} : WE C (.tup k es) env st Q ↔ WEs C es env st fun vs s => vs.length ≤ SZ ∧ W (mkT k vs s) fun q => Q q.1 q.2 := by
  unfold WE WEs
  rw [evE]
  cases evEs C es env st with
  | none => simp [W_none]
  | some q =>
    simp only [W_some]
    by_cases h : q.1.length ≤ SZ
    · rw [if_pos h]; simp [h]
    · rw [if_neg h]; simp [h, W_none]
theorem we_lst {k : Bool} {es : Es} : WE C (.lst k es) env st Q ↔ WEs C es env st fun vs s => vs.length ≤ SZ ∧ W (mkL k vs s) fun q => Q q.1 q.2 := by
  unfold WE WEs
  rw [evE]
  cases evEs C es env st with
  | none => simp [W_none]
  | some q =>
    simp only [W_some]
    by_cases h : q.1.length ≤ SZ
    · rw [if_pos h]; simp [h]
    · rw [if_neg h]; simp [h, W_none]
theorem we_bm {o : Bool} {m : Bm} {a : E} {es : Es} : WE C (.bm o m a es) env st Q ↔ WE C a env st fun x s => isTy (bmT m) (view s x) = true ∧ WEs C es env s fun vs s => W (bm C.ct o m x vs s) fun q => Q q.1 q.2 := by
  unfold WE WEs
  rw [evE]
  cases evE C a env st with
  | none => simp [W_none]
  | some q =>
    obtain ⟨x, s⟩ := q
    simp only [W_some]
    by_cases h : isTy (bmT m) (view s x) = true
    · rw [if_pos h]
      cases evEs C es env s with
      | none => simp [W_none]
      | some q => simp [W_some, h]
    · rw [if_neg h]; simp [h, W_none]
/-- a test -/
theorem wt_val {e : E} {Q : Bool → Store → Prop} : WT C (.val e) env st Q ↔ WE C e env st fun v s => W (truth s v) fun b => Q b s := by
  unfold WE WT
  rw [evT]
  cases evE C e env st with
  | none => simp [W_none]
  | some q => simp only [W_some, W_map]
theorem wt_cmp {op : COp} {a b : E} {Q : Bool → Store → Prop} : WT C (.cmp op a b) env st Q ↔ WE C a env st fun x s => WE C b env s fun y s => W (cmpop C.ct op x y s) fun r => Q r s := by
  unfold WE WT
  rw [evT]
  cases evE C a env st with
  | none => simp [W_none]
  | some q =>
    obtain ⟨x, s⟩ := q
    simp only [W_some]
    cases evE C b env s with
    | none => simp [W_none]
    | some q => simp only [W_some, W_map]
theorem wt_bop {k : Bool} {ts : Ts} {Q : Bool → Store → Prop} : WT C (.bop k ts) env st Q ↔ W (evBT C k ts env st) fun q => Q q.1 q.2 := by
  unfold WT
  rw [evT]
theorem wb_one {k : Bool} {t : T} {Q : Bool × Store → Prop} : W (evBT C k (.cons t .nil) env st) Q ↔ WT C t env st fun b s => Q (b, s) := by
  unfold WT
  rw [evBT]
theorem wb_cons {k : Bool} {t t2 : T} {ts : Ts} {Q : Bool × Store → Prop} : W (evBT C k (.cons t (.cons t2 ts)) env st) Q ↔ WT C t env st fun b s => if b = k then W (evBT C k (.cons t2 ts) env s) Q else Q (b, s) := by
  unfold WT
  rw [evBT]
  cases evT C t env st with
  | none => simp [W_none]
  | some q =>
    obtain ⟨b, s⟩ := q
    simp only [W_some]
    by_cases h : b = k
    · rw [if_pos h, if_pos h]
    · rw [if_neg h, if_neg h, W_some]
/-! ### statements -/
abbrev WS (C : Cfg) (x : S) (env : Env) (st : Store) (Q : Fl → Env → Store → Prop) : Prop := W (evS C x env st) fun q => Q q.1 q.2.1 q.2.2
abbrev WSs (C : Cfg) (x : Ss) (env : Env) (st : Store) (Q : Fl → Env → Store → Prop) : Prop := W (evSs C x env st) fun q => Q q.1 q.2.1 q.2.2
variable {R : Fl → Env → Store → Prop}
theorem wss_nil : WSs C .nil env st R ↔ R .nx env st := by rw [WSs, evSs, W_some]
/-- what follows a statement: the rest, if it goes on -/
def nxt (K : Env → Store → Prop) (R : Fl → Env → Store → Prop) : Fl → Env → Store → Prop
  | .nx, e, s => K e s
  | .ct, e, s => R .ct e s
  | .rt v, e, s => R (.rt v) e s
theorem nxt_nx {K : Env → Store → Prop} {e : Env} {s : Store} : nxt K R .nx e s ↔ K e s := Iff.rfl
theorem nxt_rt {K : Env → Store → Prop} {v : Val} {e : Env} {s : Store} : nxt K R (.rt v) e s ↔ R (.rt v) e s := Iff.rfl
theorem nxt_ct {K : Env → Store → Prop} {e : Env} {s : Store} : nxt K R .ct e s ↔ R .ct e s := Iff.rfl
theorem wss_cons {x : S} {xs : Ss} : WSs C (.cons x xs) env st R ↔ WS C x env st (nxt (fun e s => WSs C xs e s R) R) := by
  unfold WSs WS
  rw [evSs]
  cases evS C x env st with
  | none => simp [W_none]
  | some q =>
    obtain ⟨f, en, s⟩ := q
    cases f <;> simp only [W_some, nxt]
theorem ws_ret {e : E} : WS C (.ret e) env st R ↔ WE C e env st fun v s => R (.rt v) env s := by
  unfold WS WE
  rw [evS]
  cases evE C e env st with
  | none => simp [W_none]
  | some q => simp only [W_some]
theorem ws_expr {e : E} : WS C (.expr e) env st R ↔ WE C e env st fun v s => R .nx env s := by
  unfold WS WE
  rw [evS]
  cases evE C e env st with
  | none => simp [W_none]
  | some q => simp only [W_some]
theorem ws_ife {t : T} {a b : Ss} : WS C (.ife t a b) env st R ↔ WT C t env st fun r s => (r = true → WSs C a env s R) ∧ (r = false → WSs C b env s R) := by
  unfold WS WT WSs
  rw [evS]
  cases evT C t env st with
  | none => simp [W_none]
  | some q =>
    obtain ⟨r, s⟩ := q
    cases r <;> simp [W_some]
theorem ws_asg {g : G} {e : E} : WS C (.asg g e) env st R ↔ WE C e env st fun v s => W (asgG C g v env s) fun q => R .nx q.1 q.2 := by
  unfold WS WE
  rw [evS]
  cases evE C e env st with
  | none => simp [W_none]
  | some q =>
    obtain ⟨v, s⟩ := q
    simp only [W_some]
    cases asgG C g v env s with
    | none => simp [W_none]
    | some q => simp only [W_some]
theorem ws_for {g : G} {it : I} {b : Ss} : WS C (.for_ g it b) env st R ↔ W (evI C it env st) fun q => W (evFor (fun v env st => asgG C g v env st) (fun env st => evSs C b env st) q.1 env q.2) fun q => R q.1 q.2.1 q.2.2 := by
  unfold WS
  rw [evS]
  cases evI C it env st with
  | none => simp [W_none]
  | some q => simp only [W_some]
/-- a loop by its invariant -/
theorem for_inv {asg : Val → Env → Store → Option (Env × Store)} {body : Env → Store → Option (Fl × Env × Store)} (J : List Val → Env → Store → Prop) (R : Fl → Env → Store → Prop)
    (h0 : ∀ env st, J [] env st → R .nx env st)
    (h : ∀ v vs env st, J (v :: vs) env st → W (asg v env st) fun q => W (body q.1 q.2) fun q => match q.1 with
      | .rt r => R (.rt r) q.2.1 q.2.2
      | _ => J vs q.2.1 q.2.2) : ∀ (vs : List Val) (env : Env) (st : Store), J vs env st → W (evFor asg body vs env st) fun q => R q.1 q.2.1 q.2.2
  | [], env, st, j => ⟨_, rfl, h0 _ _ j⟩
  | v :: vs, env, st, j => by
    obtain ⟨⟨e1, s1⟩, q1, ⟨f, e2, s2⟩, q2, q⟩ := h v vs env st j
    rw [evFor, q1]
    simp only
    rw [show body e1 s1 = _ from q2]
    cases f with
    | rt r => exact ⟨_, rfl, q⟩
    | nx => exact for_inv J R h0 h vs e2 s2 q
    | ct => exact for_inv J R h0 h vs e2 s2 q
/-- a comprehension that changes no cell -/
theorem lc_same {α : Type} {f : Val → Store → Option (List α × Store)} (g : Val → List α) (st : Store) : ∀ (vs : List Val), (∀ v ∈ vs, f v st = some (g v, st)) → evLc f vs st = some (vs.flatMap g, st)
  | [], _ => rfl
  | v :: vs, h => by
    rw [evLc, h v List.mem_cons_self]
    simp only
    rw [lc_same g st vs fun u hu => h u (List.mem_cons_of_mem _ hu)]
    rfl
theorem wg_slot {i : Nat} {v : Val} {Q : Env × Store → Prop} : W (asgG C (.slot i) v env st) Q ↔ i < env.length ∧ Q (env.set i (some v), st) := by
  rw [asgG]
  by_cases h : i < env.length
  · rw [if_pos h, W_some]; simp [h]
  · rw [if_neg h, W_none]; simp [h]
theorem wg_sub {k : Bool} {a i : E} {v : Val} {Q : Env × Store → Prop} : W (asgG C (.sub k a i) v env st) Q ↔ WE C a env st fun x s => WE C i env s fun y s => W (setItem C.ct k x y v s) fun s => Q (env, s) := by
  unfold WE
  rw [asgG]
  cases evE C a env st with
  | none => simp [W_none]
  | some q =>
    obtain ⟨x, s⟩ := q
    simp only [W_some]
    cases evE C i env s with
    | none => simp [W_none]
    | some q => simp only [W_some, W_map]
theorem wi_seq {e : E} {Q : List Val × Store → Prop} : W (evI C (.seq e) env st) Q ↔ WE C e env st fun v s => W (seqI v s) Q := by
  unfold WE
  rw [evI]
  cases evE C e env st with
  | none => simp [W_none]
  | some q => simp only [W_some]
theorem ws_setLc {i : Nat} {e : E} : WS C (.setLc i e) env st R ↔ WE C e env st fun v s => i < env.length ∧ R .nx (env.set i (some v)) s := by
  unfold WS WE
  rw [evS]
  cases evE C e env st with
  | none => simp [W_none]
  | some q =>
    simp only [W_some]
    by_cases h : i < env.length
    · rw [if_pos h, W_some]; simp [h]
    · rw [if_neg h, W_none]; simp [h]
end
end Y.Pl

set_option linter.all false
set_option maxRecDepth 100000
set_option Elab.async false
/-! YM: the operations on ints, texts, cells. -/
namespace Y.Pl
open PySem
section
variable {st : Store} {i j : Int} {o : Bool} {ct : List Key → Bool}
theorem b_add : binop o .add (.pu (.int i)) (.pu (.int j)) st = some (.pu (.int (i + j)), st) := rfl
theorem b_sub : binop o .sub (.pu (.int i)) (.pu (.int j)) st = some (.pu (.int (i - j)), st) := rfl
theorem b_mod (h : j ≠ 0) : binop o .mod (.pu (.int i)) (.pu (.int j)) st = some (.pu (.int (i.fmod j)), st) := by
  show (if j ≠ 0 then _ else _) = _
  rw [if_pos h]
theorem b_mul (h : -(2 ^ 64) < j ∧ j < 2 ^ 64) : binop o .mul (.pu (.int i)) (.pu (.int j)) st = some (.pu (.int (i * j)), st) := by
  show (if _ ∨ _ then _ else _) = _
  rw [if_pos (.inr h)]
theorem b_mul' (h : -(2 ^ 64) < i ∧ i < 2 ^ 64) : binop o .mul (.pu (.int i)) (.pu (.int j)) st = some (.pu (.int (i * j)), st) := by
  show (if _ ∨ _ then _ else _) = _
  rw [if_pos (.inl h)]
theorem b_fdiv (h : j ≠ 0) (h2 : j.natAbs < 1073741824) : binop o .fdiv (.pu (.int i)) (.pu (.int j)) st = some (.pu (.int (i.fdiv j)), st) := by
  show (if j ≠ 0 ∧ _ then _ else _) = _
  rw [if_pos ⟨h, h2⟩]
theorem c_eq : cmpop ct .eq (.pu (.int i)) (.pu (.int j)) st = some (i == j) := rfl
theorem c_lt : cmpop ct .lt (.pu (.int i)) (.pu (.int j)) st = some (decide (i < j)) := rfl
theorem c_gt : cmpop ct .gt (.pu (.int i)) (.pu (.int j)) st = some (decide (j < i)) := rfl
theorem c_ge : cmpop ct .ge (.pu (.int i)) (.pu (.int j)) st = some (decide (j ≤ i)) := rfl
theorem s_cell {n : Nat} {vs : List Val} (h : st[n]? = some (.lst vs)) : subop ct (.cell n) (.pu (.int i)) st = at_ vs i := by
  unfold subop
  rw [show view st (.cell n) = some (.seqL vs) from by simp only [view, h]]
  rfl
theorem s_lst {ps : List P} : subop ct (.pu (.lst ps)) (.pu (.int i)) st = at_ (ps.map .pu) i := rfl
theorem s_tup {ps : List P} : subop ct (.pu (.tup ps)) (.pu (.int i)) st = at_ (ps.map .pu) i := rfl
end
end Y.Pl

set_option linter.all false
set_option maxRecDepth 100000
set_option Elab.async false
/-! YN: calls, functions that draw, loops and comprehensions over lists. -/
namespace Y.Pl
open PySem
/-! ### calls -/
/-- how a def hands back -/
def fin (m b : Nat) (Q : Val → Store → Prop) : Fl → Env → Store → Prop
  | .rt v, _, s => W (finish m b v s) fun q => Q q.1 q.2
  | .nx, _, s => W (finish m b (.pu .non) s) fun q => Q q.1 q.2
  | .ct, _, _ => False
theorem w_run {tbl : List Fd} {C : Cfg} {f : Nat} {fd : Fd} {vs : List Val} {st : Store} {Q : Val → Store → Prop} (h : tbl[f]? = some fd) (hn : vs.length = fd.np)
    (b : WSs C fd.body (vs.map some ++ List.replicate (fd.ns - fd.np) none) st (fin fd.ret st.length Q)) : W (runF tbl C f vs st) fun q => Q q.1 q.2 := by
  obtain ⟨⟨fl, e, s⟩, h1, h2⟩ := b
  unfold runF
  rw [h]
  simp only
  rw [if_pos hn, h1]
  cases fl with
  | nx => exact h2
  | rt v => exact h2
  | ct => exact h2.elim
theorem fin0_rt {b : Nat} {Q : Val → Store → Prop} {p : P} {e : Env} {s : Store} (hc : (s.take b).all (blwC b) = true) (q : Q (.pu p) (s.take b)) : fin 0 b Q (.rt (.pu p)) e s := by
  show W (finish 0 b (.pu p) s) _
  unfold finish
  simp only
  rw [if_pos hc]
  exact ⟨_, rfl, q⟩
theorem mapM_pu {b k : Nat} {s : Store} : ∀ ps : List P, (ps.map Val.pu).mapM (toP b s k) = some ps
  | [] => rfl
  | p :: ps => by
    have e : toP b s k (.pu p) = some p := by cases k <;> rfl
    rw [List.map_cons, List.mapM_cons, e, mapM_pu ps]
    rfl
theorem toP_lst {b n k : Nat} {ps : List P} {s : Store} (h : s[n]? = some (.lst (ps.map .pu))) (hb : b ≤ n) : toP b s (k + 1) (.cell n) = some (.lst ps) := by
  rw [toP, h]
  simp only
  rw [if_pos hb, mapM_pu]
  rfl
theorem toP_dead {b n k : Nat} {p : P} {s : Store} (h : s[n]? = some (.dead p)) : toP b s (k + 1) (.cell n) = some p := by
  rw [toP, h]
theorem fin0_lst {b n : Nat} {Q : Val → Store → Prop} {ps : List P} {e : Env} {s : Store} (hc : (s.take b).all (blwC b) = true) (h : s[n]? = some (.lst (ps.map .pu))) (hb : b ≤ n) (q : Q (.pu (.lst ps)) (s.take b)) : fin 0 b Q (.rt (.cell n)) e s := by
  show W (finish 0 b (.cell n) s) _
  unfold finish
  simp only
  rw [if_pos hc, toP_lst h hb]
  exact ⟨_, rfl, q⟩
theorem fin2_rt {m b : Nat} {Q : Val → Store → Prop} {v : Val} {e : Env} {s : Store} (q : Q v s) : fin (m + 1) b Q (.rt v) e s := ⟨_, rfl, q⟩
mutual
theorem blw_mono {b c : Nat} (h : b ≤ c) : ∀ v : Val, blw b v = true → blw c v = true
  | .pu _, _ => by rw [blw]
  | .cell n, e => by
    rw [blw] at e ⊢
    have := of_decide_eq_true e
    exact decide_eq_true (by omega)
  | .tupv vs, e => by
    rw [blw] at e ⊢
    exact blwL_mono h vs e
theorem blwL_mono {b c : Nat} (h : b ≤ c) : ∀ v : List Val, blwL b v = true → blwL c v = true
  | [], _ => by rw [blwL]
  | v :: vs, e => by
    rw [blwL, Bool.and_eq_true] at e ⊢
    exact ⟨blw_mono h v e.1, blwL_mono h vs e.2⟩
end
theorem blwC_mono {b c : Nat} (h : b ≤ c) {x : CellC} (e : blwC b x = true) : blwC c x = true := by
  cases x with
  | lst vs => exact blwL_mono h _ e
  | dct kvs => exact blwL_mono h _ e
  | ins d fs => exact blwL_mono h _ e
  | dead p => rfl
theorem blwL_pu {b : Nat} : ∀ ps : List P, blwL b (ps.map .pu) = true
  | [] => by rw [List.map_nil, blwL]
  | p :: ps => by rw [List.map_cons, blwL, blw, blwL_pu ps]; rfl
theorem blwC_pu {b : Nat} {ps : List P} : blwC b (.lst (ps.map .pu)) = true := blwL_pu ps
theorem blwC_two {b : Nat} {x y : P} : blwC b (.lst [.pu x, .pu y]) = true := blwL_pu [x, y]
theorem blwC_nil {b : Nat} : blwC b (.lst []) = true := by show blwL b [] = true; rw [blwL]
theorem blwC_dnil {b : Nat} : blwC b (.dct []) = true := by show blwL b [] = true; rw [blwL]
theorem blwC_dead {b : Nat} {p : P} : blwC b (.dead p) = true := rfl
theorem all_mono {b c : Nat} (h : b ≤ c) {s : Store} (e : s.all (blwC b) = true) : s.all (blwC c) = true := by
  rw [List.all_eq_true] at e ⊢
  exact fun x hx => blwC_mono h (e x hx)
/-! ### functions that draw -/
abbrev two (a b : Int) : CellC := .lst [.pu (.int a), .pu (.int b)]
structure Base (st0 : Store) (n : Nat) : Prop where
  lt : n < st0.length
  cl : st0.all (blwC st0.length) = true
/-- st0 with the state of the draw -/
def Gd (st0 : Store) (n : Nat) (s : Store) : Prop := ∃ a b : Int, 0 ≤ a ∧ 0 ≤ b ∧ s = st0.set n (two a b)
section
variable {st0 s l : Store} {n : Nat} {C : Cfg} {f : Nat} {vs : List Val} {Φ : P → Prop}
theorem Gd.len (g : Gd st0 n s) : s.length = st0.length := by
  obtain ⟨a, b, _, _, rfl⟩ := g
  exact List.length_set
theorem all_set {b : Nat} {c : CellC} (hc : blwC b c = true) : ∀ {s : Store} {n : Nat}, s.all (blwC b) = true → (s.set n c).all (blwC b) = true
  | [], _, _ => by simp
  | x :: xs, 0, h => by
    rw [List.all_cons, Bool.and_eq_true] at h
    rw [List.set_cons_zero, List.all_cons, hc, h.2]
    rfl
  | x :: xs, n + 1, h => by
    rw [List.all_cons, Bool.and_eq_true] at h
    rw [List.set_cons_succ, List.all_cons, h.1, all_set hc h.2]
    rfl
theorem Gd.cl (B : Base st0 n) (g : Gd st0 n s) : s.all (blwC s.length) = true := by
  rw [g.len]
  obtain ⟨a, b, _, _, rfl⟩ := g
  exact all_set blwC_two B.cl
theorem Gd.set (g : Gd st0 n s) {a b : Int} (ha : 0 ≤ a) (hb : 0 ≤ b) : Gd st0 n (s.set n (two a b)) := by
  obtain ⟨c, d, _, _, rfl⟩ := g
  exact ⟨a, b, ha, hb, List.set_set ..⟩
theorem Gd.get (B : Base st0 n) (g : Gd st0 n s) : ∃ a b : Int, 0 ≤ a ∧ 0 ≤ b ∧ s[n]? = some (two a b) := by
  obtain ⟨a, b, ha, hb, rfl⟩ := g
  exact ⟨a, b, ha, hb, by rw [List.getElem?_set_self B.lt]⟩
theorem Gd.app (B : Base st0 n) (g : Gd st0 n s) : Gd (st0 ++ l) n (s ++ l) := by
  obtain ⟨a, b, ha, hb, rfl⟩ := g
  exact ⟨a, b, ha, hb, by rw [List.set_append_left _ _ B.lt]⟩
theorem Gd.of_app (B : Base st0 n) {t : Store} (g : Gd (st0 ++ l) n t) : ∃ s, t = s ++ l ∧ Gd st0 n s := by
  obtain ⟨a, b, ha, hb, rfl⟩ := g
  exact ⟨_, by rw [List.set_append_left _ _ B.lt], a, b, ha, hb, rfl⟩
theorem Base.app (B : Base st0 n) (hl : l.all (blwC (st0.length + l.length)) = true) : Base (st0 ++ l) n := by
  refine ⟨by rw [List.length_append]; exact Nat.lt_of_lt_of_le B.lt (Nat.le_add_right ..), ?_⟩
  rw [List.length_append, List.all_append, hl, all_mono (Nat.le_add_right ..) B.cl]
  rfl
/-- a function that draws and answers data -/
def Sp (C : Cfg) (f : Nat) (vs : List Val) (Φ : P → Prop) : Prop := ∀ st0 n s, Base st0 n → Gd st0 n s → W (C.call f (.cell n :: vs) s) fun q => ∃ p, q.1 = .pu p ∧ Φ p ∧ Gd st0 n q.2
theorem sp_use {Q : Val × Store → Prop} (sp : Sp C f vs Φ) (B : Base st0 n) (g : Gd st0 n s) (hl : l.all (blwC (st0.length + l.length)) = true) (H : ∀ p s', Φ p → Gd st0 n s' → Q (.pu p, s' ++ l)) : W (C.call f (.cell n :: vs) (s ++ l)) Q := by
  refine W_mono (sp _ _ _ (B.app hl) (g.app B)) ?_
  rintro ⟨v, t⟩ ⟨p, rfl, hp, g2⟩
  obtain ⟨s', rfl, g3⟩ := Gd.of_app B g2
  exact H p s' hp g3
theorem sp_use0 {Q : Val × Store → Prop} (sp : Sp C f vs Φ) (B : Base st0 n) (g : Gd st0 n s) (H : ∀ p s', Φ p → Gd st0 n s' → Q (.pu p, s')) : W (C.call f (.cell n :: vs) s) Q := by
  refine W_mono (sp _ _ _ B g) ?_
  rintro ⟨v, t⟩ ⟨p, rfl, hp, g2⟩
  exact H p t hp g2
theorem Gd.take (g : Gd st0 n s) : (s ++ l).take s.length = s := by rw [List.take_left]
/-- such a function, by its body -/
theorem sp_of {tbl : List Fd} {cls : List Cd} {gl : Nat → Option P} {ct : List Key → Bool} {wf k : Nat} {fd : Fd} (h : tbl[f]? = some fd) (hn : vs.length + 1 = fd.np) (hr : fd.ret = 0)
    (H : ∀ st0 n s, Base st0 n → Gd st0 n s → WSs (lv tbl cls gl ct wf k) fd.body (some (.cell n) :: vs.map some ++ List.replicate (fd.ns - fd.np) none) s fun fl _ t => ∃ v s' l, fl = .rt v ∧ t = s' ++ l ∧ Gd st0 n s' ∧ (∃ p, toP s'.length t FU v = some p ∧ Φ p)) :
    Sp (lv tbl cls gl ct wf (k + 1)) f vs Φ := fun st0 n s B g => by
  refine w_run (Q := fun v s => ∃ p, v = .pu p ∧ Φ p ∧ Gd st0 n s) h hn ?_
  refine W_mono (H st0 n s B g) ?_
  rintro ⟨fl, e, t⟩ ⟨v, s', l, rfl, rfl, g', p, hp, hΦ⟩
  rw [hr]
  have hl : s.length = s'.length := by rw [g.len, g'.len]
  show W (finish 0 s.length v (s' ++ l)) _
  rw [hl]
  unfold finish
  simp only
  rw [List.take_left, if_pos (g'.cl B), hp]
  exact ⟨_, rfl, p, rfl, hΦ, g'⟩
end
/-! ### loops over lists -/
/-- what follows a turn -/
def lp (K : Env → Store → Prop) (R : Fl → Env → Store → Prop) : Fl → Env → Store → Prop
  | .nx, e, s => K e s
  | .ct, e, s => K e s
  | .rt v, e, s => R (.rt v) e s
theorem for_g {α : Type} {g : α → Val} {asg : Val → Env → Store → Option (Env × Store)} {body : Env → Store → Option (Fl × Env × Store)} {xs : List α} (J : List α → Env → Store → Prop) {R : Fl → Env → Store → Prop} {env : Env} {st : Store}
    (j : J [] env st) (h0 : ∀ env st, J xs env st → R .nx env st)
    (h : ∀ ds x rs env st, xs = ds ++ x :: rs → J ds env st → W (asg (g x) env st) fun q => W (body q.1 q.2) fun q => lp (J (ds ++ [x])) R q.1 q.2.1 q.2.2) : W (evFor asg body (xs.map g) env st) fun q => R q.1 q.2.1 q.2.2 := by
  refine for_inv (fun vs e s => ∃ ds rs, xs = ds ++ rs ∧ vs = rs.map g ∧ J ds e s) R ?_ ?_ _ _ _ ⟨[], xs, rfl, rfl, j⟩
  · rintro e s ⟨ds, rs, h1, h2, h3⟩
    cases rs with
    | nil => rw [List.append_nil] at h1; subst h1; exact h0 _ _ h3
    | cons r rs => simp at h2
  · rintro v vs e s ⟨ds, rs, h1, h2, h3⟩
    cases rs with
    | nil => simp at h2
    | cons r rs =>
      rw [List.map_cons, List.cons.injEq] at h2
      obtain ⟨rfl, rfl⟩ := h2
      refine W_mono (h ds r rs e s h1 h3) fun q hq => W_mono hq ?_
      rintro ⟨fl, e2, s2⟩ hq
      cases fl with
      | nx => exact ⟨ds ++ [r], rs, by rw [h1, List.append_assoc]; rfl, rfl, hq⟩
      | ct => exact ⟨ds ++ [r], rs, by rw [h1, List.append_assoc]; rfl, rfl, hq⟩
      | rt v => exact hq
theorem for_rng {asg : Val → Env → Store → Option (Env × Store)} {body : Env → Store → Option (Fl × Env × Store)} {m : Nat} (J : Nat → Env → Store → Prop) {R : Fl → Env → Store → Prop} {env : Env} {st : Store}
    (j : J 0 env st) (h0 : ∀ env st, J m env st → R .nx env st)
    (h : ∀ i env st, i < m → J i env st → W (asg (.pu (.int (i : Nat))) env st) fun q => W (body q.1 q.2) fun q => lp (J (i + 1)) R q.1 q.2.1 q.2.2) : W (evFor asg body ((List.range m).map fun i => .pu (.int (i : Nat))) env st) fun q => R q.1 q.2.1 q.2.2 := by
  refine for_g (g := fun i : Nat => Val.pu (.int (i : Int))) (fun ds => J ds.length) j (by rw [List.length_range]; exact h0) ?_
  intro ds x rs e s hx hJ
  have hd : x = ds.length ∧ ds.length < m := by
    have h1 := congrArg List.length hx
    have h2 := congrArg (fun l => l[ds.length]?) hx
    simp only [List.length_range, List.length_append, List.length_cons] at h1
    have : ds.length < m := by omega
    simp [this] at h2
    exact ⟨h2.symm, this⟩
  obtain ⟨rfl, hd⟩ := hd
  rw [List.length_append, List.length_singleton]
  exact h _ e s hd hJ
section
variable {st0 s l : Store} {n i : Nat} {c : CellC}
theorem Gd.at (g : Gd st0 n s) : (s ++ l)[st0.length + i]? = l[i]? := by
  rw [← g.len, List.getElem?_append_right (Nat.le_add_right ..), Nat.add_sub_cancel_left]
theorem Gd.at0 (g : Gd st0 n s) : (s ++ l)[st0.length]? = l[0]? := g.at (i := 0)
theorem Gd.put (g : Gd st0 n s) : (s ++ l).set (st0.length + i) c = s ++ l.set i c := by
  rw [← g.len, List.set_append_right _ _ (Nat.le_add_right ..), Nat.add_sub_cancel_left]
theorem Gd.put0 (g : Gd st0 n s) : (s ++ l).set st0.length c = s ++ l.set 0 c := g.put (i := 0)
end
section
variable {st : Store} {n : Nat} {ct : List Key → Bool} {o : Bool} {v : Val} {xs : List Val} {kvs : List (Kx × Val)}
theorem isTy_list (h : st[n]? = some (.lst xs)) : isTy "list" (view st (.cell n)) = true := by rw [view, h]; rfl
theorem isTy_dict (h : st[n]? = some (.dct kvs)) : isTy "dict" (view st (.cell n)) = true := by rw [view, h]; rfl
theorem bm_append (h : st[n]? = some (.lst xs)) (hl : xs.length < SZ) : bm ct o .append (.cell n) [v] st = some (.pu .non, st.set n (.lst (xs ++ [v]))) := by
  unfold bm
  simp only [h]
  rw [if_pos hl]
theorem blwl1 {b : Nat} {c : CellC} (h : blwC b c = true) : ([c] : Store).all (blwC b) = true := by rw [List.all_cons, h]; rfl
end
/-! ### comprehensions -/
def lcF (C : Cfg) (own : List (Str × Nat)) (g : G) (ts : Ts) (e : E) (env : Env) (v : Val) (st : Store) : Option (List Val × Store) := match asgG C g v (wipeE env (own.map (·.2))) st with
  | some (env2, st) => match evTs C ts env2 st with
    | some (true, st) => match evE C e env2 st with
      | some (x, st) => some ([x], st)
      | none => none
    | some (false, st) => some ([], st)
    | none => none
  | none => none
section
variable {C : Cfg} {env : Env} {st : Store}
theorem we_lc {o : Bool} {own : List (Str × Nat)} {g : G} {it : I} {ts : Ts} {e : E} {Q : Val → Store → Prop} : WE C (.lc o own g it ts e) env st Q ↔ W (evI C it env st) fun q => W (evLc (lcF C own g ts e env) q.1 q.2) fun r => r.1.length ≤ SZ ∧ W (mkL o r.1 r.2) fun q => Q q.1 q.2 := by
  unfold WE
  rw [evE]
  cases evI C it env st with
  | none => simp [W_none]
  | some q =>
    obtain ⟨items, s⟩ := q
    simp only [W_some]
    show W (match evLc (lcF C own g ts e env) items s with | some (vs, st) => _ | none => none) _ ↔ _
    cases evLc (lcF C own g ts e env) items s with
    | none => simp [W_none]
    | some q =>
      simp only [W_some]
      by_cases h : q.1.length ≤ SZ
      · rw [if_pos h]; simp [h]
      · rw [if_neg h]; simp [h, W_none]
theorem w_lcF {own : List (Str × Nat)} {g : G} {ts : Ts} {e : E} {v : Val} {Q : List Val × Store → Prop} : W (lcF C own g ts e env v st) Q ↔ W (asgG C g v (wipeE env (own.map (·.2))) st) fun q => W (evTs C ts q.1 q.2) fun r => (r.1 = true → WE C e q.1 r.2 fun x s => Q ([x], s)) ∧ (r.1 = false → Q ([], r.2)) := by
  unfold lcF WE
  cases asgG C g v (wipeE env (own.map (·.2))) st with
  | none => simp [W_none]
  | some q =>
    obtain ⟨e2, s⟩ := q
    simp only [W_some]
    cases evTs C ts e2 s with
    | none => simp [W_none]
    | some r =>
      obtain ⟨b, s2⟩ := r
      cases b with
      | false => simp [W_some]
      | true =>
        simp only [W_some]
        cases evE C e e2 s2 with
        | none => simp [W_none]
        | some x => simp [W_some]
theorem wts_nil {Q : Bool × Store → Prop} : W (evTs C .nil env st) Q ↔ Q (true, st) := by rw [evTs, W_some]
theorem wts_one {t : T} {Q : Bool × Store → Prop} : W (evTs C (.cons t .nil) env st) Q ↔ WT C t env st fun b s => Q (b, s) := by
  unfold WT
  rw [evTs]
  cases evT C t env st with
  | none => simp [W_none]
  | some q =>
    obtain ⟨b, s⟩ := q
    cases b <;> simp [W_some, evTs]
/-- a comprehension that changes no cell -/
theorem lc_g {α : Type} {g : α → Val} {f : Val → Store → Option (List Val × Store)} {h : α → List Val} {Q : List Val × Store → Prop} : ∀ {xs : List α}, (∀ x ∈ xs, W (f (g x) st) fun q => q = (h x, st)) → Q (xs.flatMap h, st) → W (evLc f (xs.map g) st) Q := by
  intro xs H q
  suffices z : evLc f (xs.map g) st = some (xs.flatMap h, st) from ⟨_, z, q⟩
  clear q
  induction xs with
  | nil => rfl
  | cons x xs ih =>
    obtain ⟨a, e, rfl⟩ := H x List.mem_cons_self
    rw [List.map_cons, evLc, e]
    simp only
    rw [ih fun y hy => H y (List.mem_cons_of_mem _ hy)]
    rfl
end
/-! ### operations -/
theorem at_ok {α : Type} {xs : List α} {d : Int} (h0 : 0 ≤ d) (h : d < xs.length) : ∃ hd : d.toNat < xs.length, at_ xs d = some xs[d.toNat] := by
  obtain ⟨k, rfl⟩ := Int.eq_ofNat_of_zero_le h0
  have hk : k < xs.length := by omega
  refine ⟨hk, ?_⟩
  unfold at_ ixN L2.ixN
  simp [hk]
theorem at_neg {α : Type} {xs : List α} (x : α) : at_ (xs ++ [x]) (-1) = some x := by
  unfold at_ ixN L2.ixN
  rw [if_neg (by decide), if_pos (by rw [List.length_append, List.length_singleton]; omega)]
  have e : (-1 + ((xs ++ [x]).length : Int)).toNat = xs.length := by rw [List.length_append, List.length_singleton]; omega
  simp only [Option.bind_some, e]
  simp
end Y.Pl

set_option linter.all false
set_option maxRecDepth 100000
set_option Elab.async false
/-! YO: dicts with texts as keys; what repr needs; slices, sorting. -/
namespace Y.Pl
open PySem
/-! ### dicts with texts as keys -/
abbrev kS (z : Str) : Kx := .k (.inr z)
section
variable {α : Type} {f : α → Val} {kvs : List (Str × α)} {z : Str} {a : α} {ct : List Key → Bool} {st : Store} {n : Nat} {o : Bool}
def emv (f : α → Val) (kvs : List (Str × α)) : List (Kx × Val) := kvs.map fun q => (kS q.1, f q.2)
def look (kvs : List (Str × α)) (z : Str) : Option α := (kvs.find? fun q => decide (q.1 = z)).map (·.2)
def putS (kvs : List (Str × α)) (z : Str) (a : α) : List (Str × α) := if (look kvs z).isSome then kvs.map fun q => if q.1 = z then (q.1, a) else q else kvs ++ [(z, a)]
theorem kS_eq {x y : Str} : (kS x = kS y) ↔ x = y := ⟨fun h => by injection h with h; injection h, fun h => by rw [h]⟩
theorem valK_emv : valK (emv f kvs) (kS z) = (look kvs z).map f := by
  unfold valK emv look
  rw [List.find?_map]
  have : ((fun kv : Kx × Val => decide (kv.1 = kS z)) ∘ fun q : Str × α => (kS q.1, f q.2)) = fun q => decide (q.1 = z) := by
    funext q
    show decide (kS q.1 = kS z) = _
    by_cases h : q.1 = z
    · rw [decide_eq_true h, decide_eq_true (kS_eq.mpr h)]
    · rw [decide_eq_false h, decide_eq_false (fun e => h (kS_eq.mp e))]
  rw [this, Option.map_map, Option.map_map]
  rfl
theorem putK_emv : putK (emv f kvs) (kS z) (f a) = emv f (putS kvs z a) := by
  unfold putK putS
  rw [valK_emv, Option.isSome_map]
  split
  · unfold emv
    rw [List.map_map, List.map_map]
    refine List.map_congr_left fun q _ => ?_
    show (if kS q.1 = kS z then (kS q.1, f a) else (kS q.1, f q.2)) = _
    by_cases h : q.1 = z
    · rw [if_pos (kS_eq.mpr h)]; simp [h]
    · rw [if_neg (fun e => h (kS_eq.mp e))]; simp [h]
  · unfold emv
    rw [List.map_append]
    rfl
theorem kOk_emv : kOk (emv f kvs) (kS z) = true := by
  unfold kOk emv
  rw [List.all_map, List.all_eq_true]
  intro q _
  rfl
theorem flat_emv : (emv f kvs).all (fun q => flatK q.1) = true := by
  unfold emv
  rw [List.all_map, List.all_eq_true]
  intro q _
  rfl
theorem len_emv : (emv f kvs).length = kvs.length := List.length_map ..
theorem dget_emv : dget (emv f kvs) (kS z) = some ((look kvs z).map f) := by
  unfold dget
  rw [if_pos kOk_emv, valK_emv]
theorem keyOf_str : keyOf ct st (.pu (.str z)) = some (kS z) := rfl
theorem len_putS_le : (putS kvs z a).length ≤ kvs.length + 1 := by
  unfold putS
  split
  · rw [List.length_map]; omega
  · rw [List.length_append]; exact Nat.le_refl _
theorem set_dct {v : Val} {b : Bool} (h : st[n]? = some (.dct (emv f kvs))) (hl : kvs.length < SZ) (hv : f a = v) : setItem ct b (.cell n) (.pu (.str z)) v st = some (st.set n (.dct (emv f (putS kvs z a)))) := by
  unfold setItem
  simp only [h]
  rw [keyOf_str]
  simp only
  rw [if_pos (by rw [kOk_emv, len_emv]; simpa using hl), ← hv, putK_emv]
theorem sub_dct (h : st[n]? = some (.dct (emv f kvs))) : subop ct (.cell n) (.pu (.str z)) st = (look kvs z).map f := by
  unfold subop
  simp only [view, h]
  rw [keyOf_str, Option.bind_some, dget_emv, Option.bind_some]
/-- a dict as data -/
def dP (kvs : List (Str × P)) : P := .dct (kvs.map fun q => kS q.1) (kvs.map (·.2))
theorem view_dP {kvs : List (Str × P)} : viewP (dP kvs) = .dic (emv .pu kvs) := by
  unfold dP emv
  rw [viewP, List.map_map, List.zip_map']
  rfl
theorem sub_dP {kvs : List (Str × P)} : subop ct (.pu (dP kvs)) (.pu (.str z)) st = (look kvs z).map .pu := by
  unfold subop
  simp only [view, view_dP]
  rw [keyOf_str, Option.bind_some, dget_emv, Option.bind_some]
theorem in_dP {kvs : List (Str × P)} : cmpop ct .in_ (.pu (.str z)) (.pu (dP kvs)) st = some (look kvs z).isSome := by
  unfold cmpop
  simp only [view, view_dP]
  rw [keyOf_str, Option.bind_some, dget_emv, Option.map_some, Option.isSome_map]
theorem allPuK_emv : ∀ {kvs : List (Str × P)}, allPuK (emv .pu kvs) = some (kvs.map (fun q => kS q.1), kvs.map (·.2))
  | [] => rfl
  | q :: kvs => by
    show (allPuK (emv .pu kvs)).map _ = _
    rw [allPuK_emv]
    rfl
theorem frz_dct {kvs : List (Str × P)} (h : st[n]? = some (.dct (emv .pu kvs))) : frz st (.cell n) = some (dP kvs, st.set n (.dead (dP kvs))) := by
  unfold frz
  simp only [h]
  rw [allPuK_emv]
  rfl
theorem allPu_map : ∀ {ps : List P}, allPu (ps.map .pu) = some ps
  | [] => rfl
  | p :: ps => by rw [List.map_cons, allPu, allPu_map]; rfl
theorem frz_lst {ps : List P} (h : st[n]? = some (.lst (ps.map .pu))) : frz st (.cell n) = some (.lst ps, st.set n (.dead (.lst ps))) := by
  unfold frz
  simp only [h]
  rw [allPu_map]
  rfl
theorem frz_dead {p : P} (h : st[n]? = some (.dead p)) : frz st (.cell n) = some (p, st) := by
  unfold frz
  simp only [h]
theorem setdefault_dct (h : st[n]? = some (.dct (emv f kvs))) (hl : kvs.length < SZ) {v : Val} (hv : f a = v) : bm ct o .setdefault (.cell n) [.pu (.str z), v] st = match look kvs z with
    | some b => some (f b, st)
    | none => some (v, st.set n (.dct (emv f (putS kvs z a)))) := by
  unfold bm
  simp only [h]
  rw [keyOf_str]
  simp only
  rw [dget_emv]
  cases look kvs z with
  | some b => rfl
  | none =>
    simp only [Option.map_none]
    rw [len_emv, if_pos hl, ← hv, putK_emv]
/-- look and putS -/
theorem look_mem {kvs : List (Str × α)} (h : look kvs z = some a) : (z, a) ∈ kvs := by
  unfold look at h
  obtain ⟨q, hq, rfl⟩ := Option.map_eq_some_iff.mp h
  have h1 := List.find?_some hq
  have h2 := List.mem_of_find?_eq_some hq
  have h3 : q.1 = z := of_decide_eq_true h1
  subst h3
  exact h2
theorem look_some {kvs : List (Str × α)} (h : z ∈ kvs.map (·.1)) : ∃ a, look kvs z = some a := by
  obtain ⟨q, hq, rfl⟩ := List.mem_map.mp h
  unfold look
  cases e : kvs.find? fun p => decide (p.1 = q.1) with
  | some b => exact ⟨_, rfl⟩
  | none => exact absurd (decide_eq_true rfl) (List.find?_eq_none.mp e q hq)
theorem look_none {kvs : List (Str × α)} (h : z ∉ kvs.map (·.1)) : look kvs z = none := by
  cases e : look kvs z with
  | none => rfl
  | some a => exact absurd (List.mem_map.mpr ⟨_, look_mem e, rfl⟩) h
theorem look_put {kvs : List (Str × α)} {y : Str} : look (putS kvs z a) y = if z = y then some a else look kvs y := by
  unfold putS
  by_cases hs : (look kvs z).isSome = true
  · rw [if_pos hs]
    unfold look
    rw [List.find?_map]
    have : ((fun q : Str × α => decide (q.1 = y)) ∘ fun q : Str × α => if q.1 = z then (q.1, a) else q) = fun q => decide (q.1 = y) := by
      funext q
      show decide ((if q.1 = z then (q.1, a) else q).1 = y) = _
      split <;> rfl
    rw [this, Option.map_map]
    by_cases h : z = y
    · subst h
      rw [if_pos rfl]
      cases e : kvs.find? fun q => decide (q.1 = z) with
      | none => unfold look at hs; rw [e] at hs; cases hs
      | some q =>
        have h1 : decide (q.1 = z) = true := List.find?_some (p := fun q : Str × α => decide (q.1 = z)) e
        have := of_decide_eq_true h1
        simp [this]
    · rw [if_neg h]
      cases e : kvs.find? fun q => decide (q.1 = y) with
      | none => rfl
      | some q =>
        have h0 : decide (q.1 = y) = true := List.find?_some (p := fun q : Str × α => decide (q.1 = y)) e
        have h1 : q.1 = y := of_decide_eq_true h0
        have : q.1 ≠ z := fun e2 => h (e2 ▸ h1)
        simp [this]
  · rw [if_neg hs]
    unfold look
    rw [List.find?_append]
    have hn : look kvs z = none := by simpa using hs
    by_cases h : z = y
    · subst h
      have : kvs.find? (fun q => decide (q.1 = z)) = none := by unfold look at hn; simpa using hn
      rw [this, if_pos rfl]
      simp
    · rw [if_neg h]
      simp [h]
theorem keys_put {kvs : List (Str × α)} : (putS kvs z a).map (·.1) = if z ∈ kvs.map (·.1) then kvs.map (·.1) else kvs.map (·.1) ++ [z] := by
  unfold putS
  by_cases h : z ∈ kvs.map (·.1)
  · obtain ⟨b, hb⟩ := look_some h
    rw [hb, if_pos h, if_pos (show (some b).isSome = true from rfl), List.map_map]
    refine List.map_congr_left fun q _ => ?_
    show (if q.1 = z then (q.1, a) else q).1 = q.1
    split <;> rfl
  · rw [look_none h, if_neg h, if_neg (show ¬(none : Option α).isSome = true from fun h => by cases h), List.map_append]
    rfl
theorem mem_put {kvs : List (Str × α)} {q : Str × α} (h : q ∈ putS kvs z a) : q ∈ kvs ∨ q = (z, a) := by
  unfold putS at h
  split at h
  · obtain ⟨r, hr, rfl⟩ := List.mem_map.mp h
    split
    · rename_i e; exact .inr (by rw [e])
    · exact .inl hr
  · rcases List.mem_append.mp h with h | h
    · exact .inl h
    · exact .inr (by simpa using h)
theorem nodup_put {kvs : List (Str × α)} (h : (kvs.map (·.1)).Nodup) : ((putS kvs z a).map (·.1)).Nodup := by
  rw [keys_put]
  split
  · exact h
  · rename_i hn
    rw [List.nodup_append]
    refine ⟨h, by simp, ?_⟩
    intro x hx y hy e
    rw [List.mem_singleton] at hy
    exact hn (hy ▸ e ▸ hx)
theorem look_of_mem {kvs : List (Str × α)} (h : (kvs.map (·.1)).Nodup) (hm : (z, a) ∈ kvs) : look kvs z = some a := by
  induction kvs with
  | nil => cases hm
  | cons q kvs ih =>
    rw [List.map_cons, List.nodup_cons] at h
    unfold look
    rw [List.find?_cons]
    rcases List.mem_cons.mp hm with rfl | hm
    · simp
    · have : q.1 ≠ z := fun e => h.1 (e ▸ List.mem_map.mpr ⟨_, hm, rfl⟩)
      rw [decide_eq_false this]
      exact ih h.2 hm
theorem put_new {kvs : List (Str × α)} (h : z ∉ kvs.map (·.1)) : putS kvs z a = kvs ++ [(z, a)] := by
  unfold putS
  rw [look_none h, if_neg (show ¬(none : Option α).isSome = true from fun h => by cases h)]
theorem put_same {kvs : List (Str × α)} (h : (kvs.map (·.1)).Nodup) (hm : look kvs z = some a) : putS kvs z a = kvs := by
  unfold putS
  rw [hm, if_pos (show (some a).isSome = true from rfl)]
  conv => rhs; rw [← List.map_id kvs]
  refine List.map_congr_left fun q hq => ?_
  by_cases e : q.1 = z
  · rw [if_pos e]
    have : look kvs q.1 = some q.2 := look_of_mem h hq
    rw [e, hm] at this
    injection this with this
    show (q.1, a) = q
    rw [this]
  · rw [if_neg e]; rfl
end
/-! ### what repr needs -/
abbrev sgn : Str := "abcdefghijklmnopqrstuvwxyz0123456789"
/-- of letters and digits -/
def alp (z : Str) : Prop := ∀ c ∈ z.cps.toList, c ∈ sgn.cps.toList
theorem alp_app {a b : Str} (ha : alp a) (hb : alp b) : alp (a ++ b) := by
  intro c hc
  have : (a ++ b).cps.toList = a.cps.toList ++ b.cps.toList := Array.toList_append ..
  rw [this] at hc
  rcases List.mem_append.mp hc with h | h
  · exact ha c h
  · exact hb c h
theorem str_app (a b : Str) : (a ++ b).length = a.length + b.length := by
  show (a.cps ++ b.cps).size = _
  rw [Array.size_append]
  rfl
theorem alp_repr {z : Str} (h : alp z) : (reprText z).length ≤ 2 * z.length + 2 := by
  rw [← reprLen_eq]
  have hc : ∀ c ∈ sgn.cps.toList, (Builtin.Str.reprChar 34 c).length ≤ 2 ∧ (Builtin.Str.reprChar 39 c).length ≤ 2 := by decide +kernel
  have hq : reprQuote z = 34 ∨ reprQuote z = 39 := by unfold reprQuote; split <;> simp
  have : ∀ (l : List Nat) (n : Nat), (∀ c ∈ l, c ∈ sgn.cps.toList) → l.foldl (fun n c => n + (Builtin.Str.reprChar (reprQuote z) c).length) n ≤ n + 2 * l.length := by
    intro l
    induction l with
    | nil => intro n _; exact Nat.le_refl _
    | cons c l ih =>
      intro n hl
      rw [List.foldl_cons, List.length_cons]
      have h1 := ih (n + (Builtin.Str.reprChar (reprQuote z) c).length) fun d hd => hl d (List.mem_cons_of_mem _ hd)
      have h2 := hc c (hl c List.mem_cons_self)
      rcases hq with q | q <;> rw [q] at h1 ⊢ <;> omega
  have := this z.cps.toList 2 h
  rw [Array.foldl_toList, Array.length_toList] at this
  have e : z.length = z.cps.size := rfl
  omega
structure Sh (d w : Nat) (p : P) : Prop where
  fl : flatD p = true
  sh : (toD p).showable = true
  dp : (toD p).depth ≤ d
  ln : (toD p).shown.length ≤ w
theorem Sh.mono {d w d' w' : Nat} {p : P} (h : Sh d w p) (hd : d ≤ d') (hw : w ≤ w') : Sh d' w' p := ⟨h.fl, h.sh, Nat.le_trans h.dp hd, Nat.le_trans h.ln hw⟩
theorem Sh.repr {d w : Nat} {p : P} (h : Sh d w p) (hd : d ≤ 60) (hw : w ≤ SZ) : reprP p = some (toD p).shown := by
  unfold reprP
  rw [if_pos]
  simp only [Bool.and_eq_true, decide_eq_true_eq]
  exact ⟨⟨⟨h.fl, h.sh⟩, Nat.le_trans h.dp hd⟩, Nat.le_trans h.ln hw⟩
theorem Sh.str {n : Nat} {z : Str} (h : alp z) (hl : z.length ≤ n) : Sh 0 (2 * n + 2) (.str z) :=
  ⟨by rw [flatD] <;> intros <;> contradiction, rfl, Nat.le_refl _, Nat.le_trans (alp_repr h) (by omega)⟩
theorem sh_ints (k : Nat) (hk : k < 2048) : (PyData.int (k : Int)).showable = true ∧ (PyData.int (k : Int)).shown.length ≤ 4 := by
  have hs : (List.range 2048).all (fun k => (PyData.int (k : Int)).showable && decide ((PyData.int (k : Int)).shown.length ≤ 4)) = true := by decide +kernel
  have := List.all_eq_true.mp hs k (List.mem_range.mpr hk)
  rw [Bool.and_eq_true] at this
  exact ⟨this.1, of_decide_eq_true this.2⟩
theorem Sh.int {i : Int} (h0 : 0 ≤ i) (h : i < 2048) : Sh 0 4 (.int i) := by
  obtain ⟨k, rfl⟩ := Int.eq_ofNat_of_zero_le h0
  have := sh_ints k (by omega)
  exact ⟨by rw [flatD] <;> intros <;> contradiction, by rw [toD]; exact this.1, by rw [toD]; exact Nat.le_refl _, by rw [toD]; exact this.2⟩
theorem sh_all {d w : Nat} : ∀ {ps : List P}, (∀ p ∈ ps, Sh d w p) → flatDs ps = true ∧ PyData.showableAll (toDs ps) = true ∧ PyData.depthAll (toDs ps) ≤ d ∧ (PyData.shownAll (toDs ps)).length = ps.length ∧ ∀ z ∈ PyData.shownAll (toDs ps), z.length ≤ w
  | [], _ => ⟨by rw [flatDs], rfl, Nat.zero_le _, rfl, fun z h => by cases h⟩
  | p :: ps, h => by
    obtain ⟨h1, h2, h3, h4, h5⟩ := sh_all (ps := ps) fun q hq => h q (List.mem_cons_of_mem _ hq)
    have hp := h p List.mem_cons_self
    refine ⟨by rw [flatDs, hp.fl, h1]; rfl, ?_, ?_, ?_, ?_⟩
    · rw [toDs, PyData.showableAll, hp.sh, h2]; rfl
    · rw [toDs, PyData.depthAll]; exact Nat.max_le.mpr ⟨hp.dp, h3⟩
    · rw [toDs, PyData.shownAll, List.length_cons, h4, List.length_cons]
    · intro z hz
      rw [toDs, PyData.shownAll] at hz
      rcases List.mem_cons.mp hz with rfl | hz
      · exact hp.ln
      · exact h5 z hz
theorem textFrom_le {w : Nat} : ∀ (ts : List Str) (k : Nat) (acc : Str), (∀ t ∈ ts, t.length ≤ w) → (textFrom k acc ts).length ≤ acc.length + ts.length * (w + 2)
  | [], k, acc, _ => by rw [textFrom]; exact Nat.le_add_right ..
  | t :: ts, k, acc, h => by
    rw [textFrom]
    refine Nat.le_trans (textFrom_le ts _ _ fun u hu => h u (List.mem_cons_of_mem _ hu)) ?_
    have h1 := h t List.mem_cons_self
    have h2 : (((if k > 0 then ", " else "" : String) : Str)).length ≤ 2 := by split <;> decide +kernel
    rw [str_app, str_app, List.length_cons, Nat.succ_mul]
    omega
theorem join_le {w : Nat} {sep : Str} (hs : sep.length ≤ 2) : ∀ (ts : List Str), (∀ t ∈ ts, t.length ≤ w) → (Str.join sep ts).length ≤ ts.length * (w + 2)
  | [], _ => Nat.zero_le _
  | [t], h => by rw [Str.join]; have := h t List.mem_cons_self; simp; omega
  | t :: u :: ts, h => by
    rw [Str.join, str_app, str_app]
    have h1 := h t List.mem_cons_self
    have h2 := join_le hs (u :: ts) fun x hx => h x (List.mem_cons_of_mem _ hx)
    rw [List.length_cons, Nat.succ_mul]
    omega
    intro e; cases e
theorem Sh.lst {d w : Nat} {ps : List P} (h : ∀ p ∈ ps, Sh d w p) {n : Nat} (hn : ps.length ≤ n) : Sh (d + 1) (n * (w + 2) + 2) (.lst ps) := by
  obtain ⟨h1, h2, h3, h4, h5⟩ := sh_all h
  refine ⟨by rw [flatD, h1], by rw [toD, PyData.showable, h2], by rw [toD, PyData.depth]; omega, ?_⟩
  rw [toD, PyData.shown, listText, str_app]
  have := textFrom_le (PyData.shownAll (toDs ps)) 0 "[" h5
  rw [h4] at this
  have e1 : (("[" : String) : Str).length = 1 := by decide +kernel
  have e2 : (("]" : String) : Str).length = 1 := by decide +kernel
  have e3 : ps.length * (w + 2) ≤ n * (w + 2) := Nat.mul_le_mul_right _ hn
  rw [e1] at this
  rw [e2]
  omega
theorem Sh.tup {d w : Nat} {ps : List P} (h : ∀ p ∈ ps, Sh d w p) {n : Nat} (hn : ps.length ≤ n) : Sh (d + 1) (n * (w + 2) + 3) (.tup ps) := by
  obtain ⟨h1, h2, h3, h4, h5⟩ := sh_all h
  refine ⟨by rw [flatD, h1], by rw [toD, PyData.showable, h2], by rw [toD, PyData.depth]; omega, ?_⟩
  rw [toD, PyData.shown, tupleText, str_app, str_app]
  have := join_le (sep := ", ") (by decide +kernel) (PyData.shownAll (toDs ps)) h5
  rw [h4] at this
  have e1 : (("(" : String) : Str).length = 1 := by decide +kernel
  have e2 : ∀ b : Bool, (((if b then ",)" else ")" : String)) : Str).length ≤ 2 := by decide +kernel
  have e2 := e2 ((PyData.shownAll (toDs ps)).length == 1)
  have e3 : ps.length * (w + 2) ≤ n * (w + 2) := Nat.mul_le_mul_right _ hn
  omega
end Y.Pl

set_option linter.all false
set_option maxRecDepth 100000
set_option Elab.async false
/-! YP: more rules: dict displays, slices, sorted, iteration over dicts, update. -/
namespace Y.Pl
open PySem
section
variable {C : Cfg} {env : Env} {st : Store} {Q : Val → Store → Prop}
theorem we_dct {kvs : Kvs} : WE C (.dct true kvs) env st Q ↔ W (evKV C kvs env st) fun q => ((q.1.all fun q => flatK q.1) && decide (q.1.length ≤ 15)) = true ∧ Q (.cell q.2.length) (q.2 ++ [.dct (q.1.foldl (fun acc q => putK acc q.1 q.2) [])]) := by
  unfold WE
  rw [evE]
  cases evKV C kvs env st with
  | none => simp [W_none]
  | some q =>
    simp only [W_some]
    by_cases h : ((q.1.all fun q => flatK q.1) && decide (q.1.length ≤ 15)) = true
    · rw [if_pos h]; simp only [if_true, W_some]; exact ⟨fun z => ⟨h, z⟩, fun z => z.2⟩
    · rw [if_neg h]; simp only [W_none]; exact ⟨fun z => z.elim, fun z => h z.1⟩
theorem wkv_nil {Q : List (Kx × Val) × Store → Prop} : W (evKV C .nil env st) Q ↔ Q ([], st) := by rw [evKV, W_some]
theorem wkv_cons {z : Str} {e : E} {r : Kvs} {Q : List (Kx × Val) × Store → Prop} : W (evKV C (.cons (.cstr z) e r) env st) Q ↔ WE C e env st fun v s => W (evKV C r env s) fun q => Q ((kS z, v) :: q.1, q.2) := by
  unfold WE
  rw [evKV, evE]
  simp only
  cases evE C e env st with
  | none => simp [W_none]
  | some q =>
    obtain ⟨v, s⟩ := q
    simp only [W_some]
    cases evKV C r env s with
    | none => simp [W_none]
    | some q =>
      simp only [keyOf_str, Option.map_some, W_some]
theorem we_negc {i : Int} : WE C (.neg (.cint i)) env st Q ↔ Q (.pu (.int (-i))) st := by
  unfold WE
  rw [evE, evE]
  simp only [view, viewP, W_some]
abbrev WO (C : Cfg) (o : Oe) (env : Env) (st : Store) (Q : Option Int → Store → Prop) : Prop := W (evO C o env st) fun q => Q q.1 q.2
theorem wo_none {Q : Option Int → Store → Prop} : WO C .none env st Q ↔ Q none st := by unfold WO; rw [evO, W_some]
theorem wo_some {e : E} {Q : Option Int → Store → Prop} : WO C (.some e) env st Q ↔ WE C e env st fun v s => ∃ i, view s v = some (.int i) ∧ Q (some i) s := by
  unfold WO WE
  rw [evO]
  cases evE C e env st with
  | none => simp [W_none]
  | some q =>
    obtain ⟨v, s⟩ := q
    simp only [W_some]
    constructor
    · intro h
      split at h
      · obtain ⟨_, e, z⟩ := h
        cases e
        exact ⟨_, ‹_›, z⟩
      · exact (W_none.mp h).elim
    · rintro ⟨i, e, h⟩
      rw [e]
      exact W_some.mpr h
theorem view_int {i : Int} : view st (.pu (.int i)) = some (.int i) := rfl
theorem ex_int {i : Int} {R : Int → Prop} : (∃ j, (some (Vw.int i) = some (.int j)) ∧ R j) ↔ R i := ⟨fun ⟨j, e, h⟩ => by injection e with e; injection e with e; rw [e]; exact h, fun h => ⟨i, rfl, h⟩⟩
theorem we_slc {o : Bool} {a : E} {lo hi : Oe} : WE C (.slc o a lo hi) env st Q ↔ WE C a env st fun x s => WO C lo env s fun l s => WO C hi env s fun h s => W (slcop o x l h s) fun q => Q q.1 q.2 := by
  unfold WE WO
  rw [evE]
  cases evE C a env st with
  | none => simp [W_none]
  | some q =>
    obtain ⟨x, s⟩ := q
    simp only [W_some]
    cases evO C lo env s with
    | none => simp [W_none]
    | some q =>
      obtain ⟨l, s⟩ := q
      simp only [W_some]
      cases evO C hi env s with
      | none => simp [W_none]
      | some q => simp only [W_some]
theorem mkL_pu {ps : List P} : mkL false (ps.map .pu) st = some (.pu (.lst ps), st) := by
  have h : ∀ ps : List P, frzs st (ps.map .pu) = some (ps, st) := fun ps => by
    induction ps with
    | nil => rfl
    | cons p ps ih => rw [List.map_cons, frzs, frz]; simp only; rw [ih]
  rw [mkL, if_neg (by decide), h]
theorem mkT_pu {ps : List P} : mkT true (ps.map .pu) st = some (.pu (.tup ps), st) := by
  rw [mkT, if_pos rfl, allPu_map]
theorem cut_map {α β : Type} {f : α → β} {xs : List α} {lo hi : Option Int} : cut (xs.map f) lo hi = (cut xs lo hi).map f := by
  unfold cut
  rw [List.length_map, List.map_take, List.map_drop]
theorem cut_mem {α : Type} {xs : List α} {lo hi : Option Int} {x : α} (h : x ∈ cut xs lo hi) : x ∈ xs := List.mem_of_mem_drop (List.mem_of_mem_take h)
theorem cut_len {α : Type} {xs : List α} {lo hi : Option Int} : (cut xs lo hi).length ≤ xs.length := by
  unfold cut
  rw [List.length_take, List.length_drop]
  omega
theorem slc_pu {ps : List P} {lo hi : Option Int} : slcop false (.pu (.lst ps)) lo hi st = some (.pu (.lst (cut ps lo hi)), st) := by
  show mkL false (cut (ps.map .pu) lo hi) st = _
  rw [cut_map, mkL_pu]
theorem slc_put {ps : List P} {lo hi : Option Int} : slcop false (.pu (.tup ps)) lo hi st = some (.pu (.tup (cut ps lo hi)), st) := by
  show mkT true (cut (ps.map .pu) lo hi) st = _
  rw [cut_map, mkT_pu]
theorem b_addl {a b : List P} (h : a.length + b.length ≤ SZ) : binop false .add (.pu (.lst a)) (.pu (.lst b)) st = some (.pu (.lst (a ++ b)), st) := by
  show (if (a.map Val.pu).length + (b.map Val.pu).length ≤ SZ then mkL false (a.map Val.pu ++ b.map Val.pu) st else none) = _
  rw [List.length_map, List.length_map, if_pos h, ← List.map_append, mkL_pu]
theorem bi_sorted {ps : List P} (h : sortOk ps = true) : bi false .sorted [.pu (.lst ps)] st = some (.pu (.lst (sortP ps)), st) := by
  show (match allPu (ps.map .pu) with | some ps => if sortOk ps then mkL false ((sortP ps).map .pu) st else none | none => none) = _
  rw [allPu_map]
  simp only
  rw [if_pos h, mkL_pu]
theorem bi_sortedc {n : Nat} {ps : List P} (hn : st[n]? = some (.lst (ps.map .pu))) (h : sortOk ps = true) : bi false .sorted [.cell n] st = some (.pu (.lst (sortP ps)), st) := by
  unfold bi
  simp only [view, hn, allPu_map]
  rw [if_pos h, mkL_pu]
theorem bi_sortedt {n : Nat} {ps : List P} (hn : st[n]? = some (.lst (ps.map .pu))) (h : sortOk ps = true) : bi true .sorted [.cell n] st = some (.cell st.length, st ++ [.lst ((sortP ps).map .pu)]) := by
  unfold bi
  simp only [view, hn, allPu_map]
  rw [if_pos h]
  rfl
theorem bi_tuple {o : Bool} {ps : List P} : bi o .tuple [.pu (.lst ps)] st = some (.pu (.tup ps), st) := mkT_pu
theorem bi_listf {ps : List P} : bi false .list [.pu (.lst ps)] st = some (.pu (.lst ps), st) := mkL_pu
theorem bi_listt {ps : List P} : bi true .list [.pu (.lst ps)] st = some (.cell st.length, st ++ [.lst (ps.map .pu)]) := rfl
theorem bi_listc {n : Nat} {ps : List P} (hn : st[n]? = some (.lst (ps.map .pu))) : bi false .list [.cell n] st = some (.pu (.lst ps), st) := by
  unfold bi
  simp only [view, hn]
  exact mkL_pu
theorem sortP_perm (ps : List P) : (sortP ps).Perm ps := List.mergeSort_perm ..
theorem sortP_len (ps : List P) : (sortP ps).length = ps.length := (sortP_perm ps).length_eq
theorem sortP_mem {ps : List P} {p : P} : p ∈ sortP ps ↔ p ∈ ps := (sortP_perm ps).mem_iff
theorem sortOk_strs {zs : List Str} : sortOk (zs.map .str) = true := by
  unfold sortOk
  simp only [Bool.and_eq_true, Bool.or_eq_true]
  refine ⟨⟨?_, ?_⟩, .inl (.inl (.inr ?_))⟩
  · simp only [List.all_map, List.all_eq_true]
    intro x _
    show zs.all _ = true
    rw [List.all_eq_true]
    intro y _
    rfl
  · simp only [List.all_map, List.all_eq_true]
    intro x _
    rfl
  · simp only [List.all_map, List.all_eq_true]
    intro x _
    rfl
theorem sortOk_of {ps : List P} (h1 : ∀ p ∈ ps, ∀ q ∈ ps, cmpb p q = true) (h2 : ∀ p ∈ ps, plain p = true ∧ depth p ≤ 60 ∧ fst_ isS p = true) : sortOk ps = true := by
  unfold sortOk
  simp only [Bool.and_eq_true, Bool.or_eq_true]
  refine ⟨⟨?_, ?_⟩, .inr ?_⟩
  · rw [List.all_eq_true]
    intro p hp
    rw [List.all_eq_true]
    exact fun q hq => h1 p hp q hq
  · rw [List.all_eq_true]
    intro p hp
    rw [Bool.and_eq_true]
    exact ⟨(h2 p hp).1, decide_eq_true (h2 p hp).2.1⟩
  · rw [List.all_eq_true]
    exact fun p hp => (h2 p hp).2.2
theorem map_of {α : Type} {f : α → P} : ∀ {ps : List P}, (∀ p ∈ ps, ∃ a, p = f a) → ∃ as : List α, ps = as.map f
  | [], _ => ⟨[], rfl⟩
  | p :: ps, h => by
    obtain ⟨a, rfl⟩ := h p List.mem_cons_self
    obtain ⟨as, rfl⟩ := map_of fun q hq => h q (List.mem_cons_of_mem _ hq)
    exact ⟨a :: as, rfl⟩
/-- a sorted list of rows is one of rows again -/
theorem sortP_map {α : Type} {f : α → P} (as : List α) : ∃ bs : List α, sortP (as.map f) = bs.map f ∧ bs.Perm as := by
  let bs := as.mergeSort fun a b => !ltP (f b) (f a)
  refine ⟨bs, ?_, List.mergeSort_perm ..⟩
  unfold sortP
  rw [List.map_mergeSort]
  intro a _ b _
  rfl
/-! iteration -/
theorem wi_keys {kvs : List (Str × P)} {e : E} {R : List Val × Store → Prop} (h : WE C e env st fun v s => v = .pu (dP kvs) ∧ R (kvs.map fun q => .pu (.str q.1), s)) : W (evI C (.keys e) env st) R := by
  obtain ⟨⟨v, s⟩, h1, rfl, h3⟩ := h
  rw [evI, h1]
  simp only [frz, dP]
  have e1 : ((kvs.map fun q => kS q.1).all flatK && decide ((kvs.map fun q => kS q.1).length = (kvs.map (·.2)).length)) = true := by
    rw [List.length_map, List.length_map, decide_eq_true rfl, Bool.and_true, List.all_map, List.all_eq_true]
    exact fun q _ => rfl
  rw [if_pos e1, List.map_map]
  exact ⟨_, rfl, h3⟩
theorem wi_vals {kvs : List (Str × P)} {e : E} {R : List Val × Store → Prop} (h : WE C e env st fun v s => v = .pu (dP kvs) ∧ R (kvs.map fun q => .pu q.2, s)) : W (evI C (.vals e) env st) R := by
  obtain ⟨⟨v, s⟩, h1, rfl, h3⟩ := h
  rw [evI, h1]
  simp only [frz, dP]
  have e1 : ((kvs.map fun q => kS q.1).all flatK && decide ((kvs.map fun q => kS q.1).length = (kvs.map (·.2)).length)) = true := by
    rw [List.length_map, List.length_map, decide_eq_true rfl, Bool.and_true, List.all_map, List.all_eq_true]
    exact fun q _ => rfl
  rw [if_pos e1, List.map_map]
  exact ⟨_, rfl, h3⟩
theorem seqI_lst {ps : List P} : seqI (.pu (.lst ps)) st = some (ps.map .pu, st) := rfl
theorem seqI_tup {ps : List P} : seqI (.pu (.tup ps)) st = some (ps.map .pu, st) := rfl
theorem seqI_cell {n : Nat} {ps : List P} (h : st[n]? = some (.lst (ps.map .pu))) : seqI (.cell n) st = some (ps.map .pu, st.set n (.dead (.lst ps))) := by
  rw [seqI, frz_lst h]
theorem seqI_dead {n : Nat} {ps : List P} (h : st[n]? = some (.dead (.lst ps))) : seqI (.cell n) st = some (ps.map .pu, st) := by
  rw [seqI, frz_dead h]
theorem fold_emv {α : Type} {f : α → Val} : ∀ {rs kvs : List (Str × α)}, (emv f rs).foldl (fun acc q => putK acc q.1 q.2) (emv f kvs) = emv f (rs.foldl (fun acc q => putS acc q.1 q.2) kvs)
  | [], _ => rfl
  | r :: rs, kvs => by
    show (emv f rs).foldl _ (putK (emv f kvs) (kS r.1) (f r.2)) = _
    rw [putK_emv, fold_emv]
    rfl
theorem fold_emv0 {α : Type} {f : α → Val} {rs : List (Str × α)} : (emv f rs).foldl (fun acc q => putK acc q.1 q.2) [] = emv f (rs.foldl (fun acc q => putS acc q.1 q.2) []) := fold_emv (kvs := [])
theorem bm_update {ct : List Key → Bool} {o : Bool} {n m : Nat} {kvs rs : List (Str × P)} (h : st[n]? = some (.dct (emv .pu kvs))) (h2 : st[m]? = some (.dct (emv .pu rs))) (hm : m ≠ n) (hl : kvs.length + rs.length ≤ SZ) :
    bm ct o .update (.cell n) [.cell m] st = some (.pu .non, st.set n (.dct (emv .pu (rs.foldl (fun acc q => putS acc q.1 q.2) kvs)))) := by
  unfold bm
  simp only [h, view, h2]
  rw [if_pos ⟨by rw [len_emv, len_emv]; exact hl, flat_emv, flat_emv, decide_eq_true hm⟩, fold_emv]
theorem wg_tupt {gs : Gs} {ps : List P} {R : Env × Store → Prop} : W (asgG C (.tup gs) (.pu (.tup ps)) env st) R ↔ W (asgGs C gs (ps.map .pu) env st) R := by rw [asgG]; rfl
theorem wg_tupl {gs : Gs} {ps : List P} {R : Env × Store → Prop} : W (asgG C (.tup gs) (.pu (.lst ps)) env st) R ↔ W (asgGs C gs (ps.map .pu) env st) R := by rw [asgG]; rfl
theorem wgs_nil {R : Env × Store → Prop} : W (asgGs C .nil [] env st) R ↔ R (env, st) := by rw [asgGs, W_some]
theorem wgs_cons {g : G} {gs : Gs} {v : Val} {vs : List Val} {R : Env × Store → Prop} : W (asgGs C (.cons g gs) (v :: vs) env st) R ↔ W (asgG C g v env st) fun q => W (asgGs C gs vs q.1 q.2) R := by
  rw [asgGs]
  cases asgG C g v env st with
  | none => simp [W_none]
  | some q => simp only [W_some]
variable {a b c d e f : P} {kk : Bool}
theorem lp_nx {K : Env → Store → Prop} {R : Fl → Env → Store → Prop} {e : Env} {s : Store} : lp K R .nx e s ↔ K e s := Iff.rfl
theorem lp_ct {K : Env → Store → Prop} {R : Fl → Env → Store → Prop} {e : Env} {s : Store} : lp K R .ct e s ↔ K e s := Iff.rfl
theorem lp_rt {K : Env → Store → Prop} {R : Fl → Env → Store → Prop} {v : Val} {e : Env} {s : Store} : lp K R (.rt v) e s ↔ R (.rt v) e s := Iff.rfl
theorem mkT0 : mkT true [] st = some (.pu (.tup []), st) := rfl
theorem mkT1 : mkT true [.pu a] st = some (.pu (.tup [a]), st) := rfl
theorem mkT2 : mkT true [.pu a, .pu b] st = some (.pu (.tup [a, b]), st) := rfl
theorem mkT3 : mkT true [.pu a, .pu b, .pu c] st = some (.pu (.tup [a, b, c]), st) := rfl
theorem mkT4 : mkT true [.pu a, .pu b, .pu c, .pu d] st = some (.pu (.tup [a, b, c, d]), st) := rfl
theorem mkT5 : mkT true [.pu a, .pu b, .pu c, .pu d, .pu e] st = some (.pu (.tup [a, b, c, d, e]), st) := rfl
theorem mkT6 : mkT true [.pu a, .pu b, .pu c, .pu d, .pu e, .pu f] st = some (.pu (.tup [a, b, c, d, e, f]), st) := rfl
theorem mkL0 : mkL false [] st = some (.pu (.lst []), st) := rfl
theorem mkL1 : mkL false [.pu a] st = some (.pu (.lst [a]), st) := rfl
theorem mkL2 : mkL false [.pu a, .pu b] st = some (.pu (.lst [a, b]), st) := rfl
theorem mkL3 : mkL false [.pu a, .pu b, .pu c] st = some (.pu (.lst [a, b, c]), st) := rfl
theorem mkL4 : mkL false [.pu a, .pu b, .pu c, .pu d] st = some (.pu (.lst [a, b, c, d]), st) := rfl
theorem mkL10 {p1 p2 p3 p4 p5 p6 p7 p8 p9 p10 : P} : mkL false [.pu p1, .pu p2, .pu p3, .pu p4, .pu p5, .pu p6, .pu p7, .pu p8, .pu p9, .pu p10] st = some (.pu (.lst [p1, p2, p3, p4, p5, p6, p7, p8, p9, p10]), st) := rfl
theorem mkLt {vs : List Val} : mkL true vs st = some (.cell st.length, st ++ [.lst vs]) := rfl
theorem flat_single {α β : Type} {f : α → β} : ∀ (xs : List α), xs.flatMap (fun x => [f x]) = xs.map f
  | [] => rfl
  | x :: xs => by rw [List.flatMap_cons, flat_single xs]; rfl
theorem at_nm {xs : List Str} {i : Nat} (h : i < xs.length) : at_ ((xs.map P.str).map Val.pu) (i : Int) = some (.pu (.str (xs.getD i ""))) := by
  obtain ⟨hd, e⟩ := at_ok (xs := (xs.map P.str).map Val.pu) (d := (i : Int)) (by omega) (by rw [List.length_map, List.length_map]; omega)
  rw [e]
  simp [List.getD_eq_getElem?_getD, h]
theorem at_last {ys : List Str} {z : Str} : at_ (((ys ++ [z]).map P.str).map Val.pu) (-1) = some (.pu (.str z)) := by
  rw [List.map_append, List.map_append]
  exact at_neg _
end
end Y.Pl

set_option linter.all false
set_option maxRecDepth 100000
set_option Elab.async false
/-! YQ: functions of data, lookups in lists, comparisons of texts. -/
namespace Y.Pl
open PySem
section
variable {C : Cfg} {f : Nat} {vs : List Val} {p : P}
/-- a function of data: it answers p and leaves the store -/
def Pf (C : Cfg) (f : Nat) (vs : List Val) (p : P) : Prop := ∀ st : Store, st.all (blwC st.length) = true → C.call f vs st = some (.pu p, st)
theorem pf_of {tbl : List Fd} {cls : List Cd} {gl : Nat → Option P} {ct : List Key → Bool} {wf k : Nat} {fd : Fd} (h : tbl[f]? = some fd) (hn : vs.length = fd.np) (hr : fd.ret = 0)
    (H : ∀ st : Store, st.all (blwC st.length) = true → WSs (lv tbl cls gl ct wf k) fd.body (vs.map some ++ List.replicate (fd.ns - fd.np) none) st fun fl _ t => ∃ v l, fl = .rt v ∧ t = st ++ l ∧ toP st.length t FU v = some p) :
    Pf (lv tbl cls gl ct wf (k + 1)) f vs p := fun st hc => by
  have := w_run (Q := fun v s => v = .pu p ∧ s = st) h hn (W_mono (H st hc) ?_)
  · obtain ⟨⟨v, s⟩, e, rfl, rfl⟩ := this
    exact e
  · rintro ⟨fl, e, t⟩ ⟨v, l, rfl, rfl, hp⟩
    rw [hr]
    show W (finish 0 st.length v (st ++ l)) _
    unfold finish
    simp only
    rw [List.take_left, if_pos hc, hp]
    exact ⟨_, rfl, rfl, rfl⟩
theorem pw_of {Φ : P → Prop} {tbl : List Fd} {cls : List Cd} {gl : Nat → Option P} {ct : List Key → Bool} {wf k : Nat} {fd : Fd} (h : tbl[f]? = some fd) (hn : vs.length = fd.np) (hr : fd.ret = 0)
    (H : ∀ st : Store, st.all (blwC st.length) = true → WSs (lv tbl cls gl ct wf k) fd.body (vs.map some ++ List.replicate (fd.ns - fd.np) none) st fun fl _ t => ∃ v l p, fl = .rt v ∧ t = st ++ l ∧ toP st.length t FU v = some p ∧ Φ p) :
    ∀ st : Store, st.all (blwC st.length) = true → W ((lv tbl cls gl ct wf (k + 1)).call f vs st) fun q => ∃ p, q = (.pu p, st) ∧ Φ p := fun st hc => by
  have := w_run (Q := fun v s => ∃ p, v = .pu p ∧ s = st ∧ Φ p) h hn (W_mono (H st hc) ?_)
  · refine W_mono this ?_
    rintro ⟨v, s⟩ ⟨p, rfl, rfl, hp⟩
    exact ⟨p, rfl, hp⟩
  · rintro ⟨fl, e, t⟩ ⟨v, l, p, rfl, rfl, hp, hΦ⟩
    rw [hr]
    show W (finish 0 st.length v (st ++ l)) _
    unfold finish
    simp only
    rw [List.take_left, if_pos hc, hp]
    exact ⟨_, rfl, p, rfl, rfl, hΦ⟩
theorem mapM_all {α β : Type} {f : α → Option β} {g : α → β} : ∀ {xs : List α}, (∀ x ∈ xs, f x = some (g x)) → xs.mapM f = some (xs.map g)
  | [], _ => rfl
  | x :: xs, h => by
    rw [List.mapM_cons, h x List.mem_cons_self, mapM_all fun y hy => h y (List.mem_cons_of_mem _ hy)]
    rfl
theorem pf_use {Q : Val × Store → Prop} {st : Store} (h : Pf C f vs p) (hc : st.all (blwC st.length) = true) (q : Q (.pu p, st)) : W (C.call f vs st) Q := ⟨_, h st hc, q⟩
/-- the whole store is closed -/
abbrev Cl (st : Store) : Prop := st.all (blwC st.length) = true
theorem Cl.app {st l : Store} (h : Cl st) (hl : l.all (blwC (st ++ l).length) = true) : Cl (st ++ l) := by
  show (st ++ l).all _ = true
  rw [List.all_append, hl, all_mono (by rw [List.length_append]; exact Nat.le_add_right ..) h]
  rfl
theorem Cl.app' {st l : Store} (h : Cl st) (hl : l.all (blwC (st.length + l.length)) = true) : Cl (st ++ l) := h.app (by rw [List.length_append]; exact hl)
theorem Cl.app1 {st : Store} {c : CellC} (h : Cl st) (hc : blwC (st ++ [c]).length c = true) : Cl (st ++ [c]) := h.app (by rw [List.all_cons, hc]; rfl)
theorem Cl.set {st : Store} {n : Nat} {c : CellC} (h : Cl st) (hc : blwC st.length c = true) : Cl (st.set n c) := by
  show (st.set n c).all _ = true
  rw [List.length_set]
  exact all_set hc h
theorem find_at {α : Type} {f : α → Bool} {ds rs : List α} {x : α} (h : ∀ d ∈ ds, f d = false) (hx : f x = true) : (ds ++ x :: rs).find? f = some x := by
  rw [List.find?_append, List.find?_eq_none.mpr (fun d hd => by rw [h d hd]; exact Bool.false_ne_true), Option.none_or, List.find?_cons, hx]
variable {ct : List Key → Bool} {st : Store}
theorem c_eqs {a b : Str} : cmpop ct .eq (.pu (.str a)) (.pu (.str b)) st = some (decide (a = b)) := rfl
theorem c_nes {a b : Str} : cmpop ct .ne (.pu (.str a)) (.pu (.str b)) st = some (!decide (a = b)) := rfl
theorem c_eqss {a b c d : Str} : cmpop ct .eq (.pu (.tup [.str a, .str b])) (.pu (.tup [.str c, .str d])) st = some (decide (a = c ∧ b = d)) := by
  have : cmpop ct .eq (.pu (.tup [.str a, .str b])) (.pu (.tup [.str c, .str d])) st = some (a == c && (b == d && true)) := rfl
  rw [this, Bool.and_true]
  by_cases h1 : a = c <;> by_cases h2 : b = d <;> simp [h1, h2]
theorem toPs_pu : ∀ {ps : List P}, toPs st (ps.map .pu) = some ps
  | [] => rfl
  | p :: ps => by
    rw [List.map_cons, toPs, show toP 0 st FU (.pu p) = some p from rfl]
    simp only
    rw [toPs_pu]
theorem inop_strs {z : Str} {zs : List Str} : inop st (.pu (.str z)) ((zs.map P.str).map .pu) = some (decide (z ∈ zs)) := by
  unfold inop
  rw [show toP 0 st FU (.pu (.str z)) = some (.str z) from rfl]
  simp only
  rw [toPs_pu]
  simp only
  rw [if_pos]
  · congr 1
    rw [List.any_map]
    by_cases h : z ∈ zs
    · rw [decide_eq_true h, List.any_eq_true]
      exact ⟨z, h, by simp [eqv]⟩
    · rw [decide_eq_false h, Bool.eq_false_iff]
      intro e
      obtain ⟨y, hy, e2⟩ := List.any_eq_true.mp e
      have : y = z := by simpa [eqv] using e2
      exact h (this ▸ hy)
  · rw [List.all_map, List.all_eq_true]
    intro y _
    rfl
theorem in_strs {z : Str} {zs : List Str} : cmpop ct .in_ (.pu (.str z)) (.pu (.lst (zs.map .str))) st = some (decide (z ∈ zs)) := inop_strs
theorem in_strt {z : Str} {zs : List Str} : cmpop ct .in_ (.pu (.str z)) (.pu (.tup (zs.map .str))) st = some (decide (z ∈ zs)) := inop_strs
theorem nin_strs {z : Str} {zs : List Str} : cmpop ct .nin (.pu (.str z)) (.pu (.lst (zs.map .str))) st = some (!decide (z ∈ zs)) := by
  show (inop st (.pu (.str z)) ((zs.map P.str).map .pu)).map (!·) = _
  rw [inop_strs]
  rfl
theorem c_notN {p : P} : cmpop ct .notN (.pu p) (.pu .non) st = some (match p with | .non => false | _ => true) := by
  cases p <;> rfl
/-- counts over lists without repetition -/
theorem countP_two {α : Type} {xs ys : List α} {g : α → Bool} (hx : xs.Nodup) (hy : ys.Nodup) (h : ∀ a, g a = true → (a ∈ xs ↔ a ∈ ys)) : xs.countP g = ys.countP g := by
  rw [List.countP_eq_length_filter, List.countP_eq_length_filter]
  refine ((List.perm_ext_iff_of_nodup (hx.sublist List.filter_sublist) (hy.sublist List.filter_sublist)).mpr fun a => ?_).length_eq
  rw [List.mem_filter, List.mem_filter]
  exact ⟨fun ⟨z, e⟩ => ⟨(h a e).mp z, e⟩, fun ⟨z, e⟩ => ⟨(h a e).mpr z, e⟩⟩
end
end Y.Pl

set_option linter.all false
set_option maxRecDepth 100000
set_option Elab.async false
/-! YX: the draws that many laws share, for any table of functions. Written by gen_YX.py from the texts of k65. -/
namespace Y.Pl
open PySem
def drawS : Ss :=
  (.cons (.ife (.cmp .eq (.sub (.slot 0) (.cint 1)) (.cint 0))
    (.cons (.asg (.slot 4) (.cint 0))
    (.cons (.ife (.cmp .gt (.bi false .len (.cons (.slot 1) .nil)) (.cint 0))
      (.cons (.asg (.slot 4) (.sub (.slot 1) (.bin false .mod (.sub (.slot 0) (.cint 0)) (.bi false .len (.cons (.slot 1) .nil)))))
      .nil)
      .nil)
    (.cons (.ife (.cmp .lt (.slot 4) (.cint 0))
      (.cons (.asg (.slot 4) (.bin false .sub (.cint 1) (.bin false .mul (.cint 2) (.slot 4))))
      .nil)
      .nil)
    (.cons (.asg (.slot 5) (.bin false .mod (.bi false .int (.cons (.bin false .mul (.bin false .add (.bin false .add (.slot 4) (.bin false .mul (.sub (.slot 0) (.cint 0)) (.cint 7919))) (.cint 1)) (.cint 48271)) .nil)) (.cint 2147483647)))
    (.cons (.asg (.sub true (.slot 0) (.cint 1)) (.bin false .mod (.bi false .int (.cons (.bin false .add (.bin false .mul (.slot 5) (.cint 69621)) (.bin false .mul (.sub (.slot 0) (.cint 0)) (.cint 104729))) .nil)) (.cint 4294967291)))
    (.cons (.ife (.bop true (.cons (.cmp .ge (.slot 4) (.bin false .pow (.cint 10) (.cint 18))) (.cons (.cmp .lt (.sub (.slot 0) (.cint 0)) (.bi false .len (.cons (.slot 1) .nil))) .nil)))
      (.cons (.asg (.sub true (.slot 0) (.cint 1)) (.slot 4))
      .nil)
      .nil)
    (.cons (.asg (.sub true (.slot 0) (.cint 0)) (.bin false .add (.sub (.slot 0) (.cint 0)) (.cint 1)))
    .nil)))))))
    .nil)
  (.cons (.asg (.slot 3) (.bin false .mod (.bi false .int (.cons (.sub (.slot 0) (.cint 1)) .nil)) (.slot 2)))
  (.cons (.asg (.sub true (.slot 0) (.cint 1)) (.bin false .fdiv (.sub (.slot 0) (.cint 1)) (.slot 2)))
  (.cons (.ret (.slot 3))
  .nil))))
def nameS (dr : Nat) : Ss :=
  (.cons (.asg (.slot 3) (.cstr "abcdefghijklmnopqrstuvwxyz0123456789"))
  (.cons (.asg (.slot 4) (.sub (.slot 3) (.call dr (.cons (.slot 0) (.cons (.slot 1) (.cons (.cint 26) .nil))))))
  (.cons (.for_ (.slot 5) (.rng (.cons (.sub (.lst false (.cons (.cint 0) (.cons (.cint 1) (.cons (.cint 2) (.cons (.cint 9) .nil))))) (.call dr (.cons (.slot 0) (.cons (.slot 1) (.cons (.cint 4) .nil))))) .nil))
    (.cons (.asg (.slot 4) (.bin false .add (.slot 4) (.sub (.slot 3) (.call dr (.cons (.slot 0) (.cons (.slot 1) (.cons (.cint 36) .nil)))))))
    .nil))
  (.cons (.ret (.bin false .add (.slot 4) (.bi false .str (.cons (.bin false .add (.cint 10) (.slot 2)) .nil))))
  .nil))))
def namesS (nm : Nat) : Ss :=
  (.cons (.asg (.slot 3) (.lst true .nil))
  (.cons (.for_ (.slot 4) (.rng (.cons (.slot 2) .nil))
    (.cons (.expr (.bm false .append (.slot 3) (.cons (.call nm (.cons (.slot 0) (.cons (.slot 1) (.cons (.slot 4) .nil)))) .nil)))
    .nil))
  (.cons (.ret (.slot 3))
  .nil)))
def someS (dr : Nat) : Ss :=
  (.cons (.asg (.slot 4) (.bi true .list (.cons (.slot 2) .nil)))
  (.cons (.asg (.slot 5) (.lst true .nil))
  (.cons (.for_ (.slot 6) (.rng (.cons (.bin false .add (.cint 1) (.call dr (.cons (.slot 0) (.cons (.slot 1) (.cons (.bi false .min2 (.cons (.slot 3) (.cons (.bi false .len (.cons (.slot 2) .nil)) .nil))) .nil))))) .nil))
    (.cons (.expr (.bm false .append (.slot 5) (.cons (.bm false .popAt (.slot 4) (.cons (.call dr (.cons (.slot 0) (.cons (.slot 1) (.cons (.bi false .len (.cons (.slot 4) .nil)) .nil)))) .nil)) .nil)))
    .nil))
  (.cons (.ret (.slot 5))
  .nil))))
def pickS (dr : Nat) : Ss :=
  (.cons (.ret (.sub (.slot 2) (.call dr (.cons (.slot 0) (.cons (.slot 1) (.cons (.bi false .len (.cons (.slot 2) .nil)) .nil))))))
  .nil)
theorem fmod_lt {a b : Int} (h : 0 < b) : 0 ≤ a.fmod b ∧ a.fmod b < b := ⟨Int.fmod_nonneg_of_pos a h, Int.fmod_lt_of_pos a h⟩
theorem at_0 {α : Type} {x : α} {xs : List α} : at_ (x :: xs) 0 = some x := by simp [at_, ixN, L2.ixN]
def tailSs : Ss → Ss
  | .cons _ b => b
  | .nil => .nil
theorem set_two {st : Store} {n : Nat} {a b c : Int} {C : List Key → Bool} (h : st[n]? = some (two a b)) : setItem C true (.cell n) (.pu (.int 1)) (.pu (.int c)) st = some (st.set n (two a c)) := by
  unfold setItem
  simp only [h, view, viewP]
  rfl
theorem set_one {st : Store} {n : Nat} {a b c : Int} {C : List Key → Bool} (h : st[n]? = some (two a b)) : setItem C true (.cell n) (.pu (.int 0)) (.pu (.int c)) st = some (st.set n (two c b)) := by
  unfold setItem
  simp only [h, view, viewP]
  rfl
theorem get_set {st : Store} {n : Nat} {c d : CellC} (h : st[n]? = some d) : (st.set n c)[n]? = some c := by
  have := (List.getElem?_eq_some_iff.mp h).1
  simp [List.getElem?_set, this]
theorem bi_int {o : Bool} {i : Int} {st : Store} : bi o .int [.pu (.int i)] st = some (.pu (.int i), st) := rfl
theorem draw_tail {C : Cfg} {st : Store} {n : Nat} {a b m : Int} {zs : List Int} {x4 x5 : Option Val} (h : st[n]? = some (two a b)) (ha : 0 ≤ a) (hb : 0 ≤ b) (hm : 0 < m) (hm2 : m < 1073741824) :
    WSs C (tailSs drawS) [some (.cell n), some (.pu (.lst (zs.map .int))), some (.pu (.int m)), none, x4, x5] st fun f env s => ∃ d b', f = .rt (.pu (.int d)) ∧ 0 ≤ d ∧ d < m ∧ 0 ≤ b' ∧ s = st.set n (two a b') := by
  have h1 : at_ [Val.pu (.int a), .pu (.int b)] 1 = some (.pu (.int b)) := rfl
  unfold drawS tailSs
  have m0 : m ≠ 0 := by omega
  have m1 : m.natAbs < 1073741824 := by omega
  refine wss_cons.mpr ?_
  simp only [ws_asg, we_bin, we_bi, wes_cons, wes_nil, we_sub, we_slot, we_int, List.getElem?_cons_zero, List.getElem?_cons_succ, Option.some.injEq, exists_eq_left', s_cell h, h1, W_some, bi_int, b_mod m0, wg_slot, nxt_nx]
  refine ⟨by simp, ?_⟩
  refine wss_cons.mpr ?_
  simp only [ws_asg, we_bin, we_bi, wes_cons, wes_nil, we_sub, we_slot, we_int, List.getElem?_cons_zero, List.getElem?_cons_succ, List.set_cons_zero, List.set_cons_succ, Option.some.injEq, exists_eq_left', s_cell h, h1, W_some, bi_int, b_fdiv m0 m1, wg_sub, set_two h, nxt_nx]
  refine wss_cons.mpr ?_
  simp only [ws_ret, we_slot, List.getElem?_cons_zero, List.getElem?_cons_succ, Option.some.injEq, exists_eq_left', nxt_rt]
  exact ⟨_, _, rfl, (fmod_lt hm).1, (fmod_lt hm).2, Int.fdiv_nonneg hb (by omega), rfl⟩
def ifSs : Ss → Ss
  | .cons (.ife _ b _) _ => b
  | _ => .nil
theorem bi_len {o : Bool} {ps : List P} {st : Store} : bi o .len [.pu (.lst ps)] st = some (.pu (.int ps.length), st) := by
  show some (Val.pu (.int ((ps.map Val.pu).length : Nat)), st) = _
  rw [List.length_map]
theorem at_fmod {zs : List Int} {a : Int} (ha : 0 ≤ a) (hl : 0 < (zs.map P.int).length) : ∃ z, at_ ((zs.map P.int).map Val.pu) (a.fmod ((zs.map P.int).length : Int)) = some (.pu (.int z)) := by
  have hp : (0 : Int) < ((zs.map P.int).length : Int) := by omega
  have f := fmod_lt (a := a) hp
  obtain ⟨k, hk⟩ := Int.eq_ofNat_of_zero_le f.1
  rw [hk] at f ⊢
  have hk2 : k < zs.length := by have := f.2; simp only [List.length_map] at this; omega
  refine ⟨zs[k], ?_⟩
  have : at_ ((zs.map P.int).map Val.pu) (k : Int) = ((zs.map P.int).map Val.pu)[k]? := by
    unfold at_ ixN L2.ixN
    simp [hk2]
  rw [this]
  simp [hk2]
theorem b_pow : binop false .pow (.pu (.int 10)) (.pu (.int 18)) = fun st => some (.pu (.int (10 ^ 18)), st) := rfl
theorem nxt_all {R : Fl → Env → Store → Prop} {e : Env} {s : Store} (h : R .nx e s) : R .nx e s := h
theorem ws_mono {C : Cfg} {x : S} {env : Env} {st : Store} {Q R : Fl → Env → Store → Prop} (h : WS C x env st Q) (i : ∀ f e s, Q f e s → R f e s) : WS C x env st R := W_mono h fun q z => i _ _ _ z
theorem draw_mix {C : Cfg} {st : Store} {n : Nat} {a b m : Int} {zs : List Int} (h : st[n]? = some (two a b)) (ha : 0 ≤ a) :
    WSs C (ifSs drawS) [some (.cell n), some (.pu (.lst (zs.map .int))), some (.pu (.int m)), none, none, none] st fun f env s => ∃ a' b' x4 x5, f = .nx ∧ 0 ≤ a' ∧ 0 ≤ b' ∧ env = [some (.cell n), some (.pu (.lst (zs.map .int))), some (.pu (.int m)), none, x4, x5] ∧ s = st.set n (two a' b') := by
  have h0 : at_ [Val.pu (.int a), .pu (.int b)] 0 = some (.pu (.int a)) := rfl
  have h1 : at_ [Val.pu (.int a), .pu (.int b)] 1 = some (.pu (.int b)) := rfl
  unfold drawS ifSs
  refine wss_cons.mpr ?_
  simp only [ws_asg, we_int, wg_slot, W_some, nxt_nx, List.set_cons_zero, List.set_cons_succ]
  refine ⟨by simp, ?_⟩
  refine wss_cons.mpr ?_
  -- the cell, whatever it is
  refine ws_mono (Q := fun f e s => ∃ z, f = .nx ∧ e = [some (.cell n), some (.pu (.lst (zs.map .int))), some (.pu (.int m)), none, some (.pu (.int z)), none] ∧ s = st) ?_ ?_
  · simp only [ws_ife, wt_cmp, we_bi, wes_cons, wes_nil, we_slot, we_int, List.getElem?_cons_zero, List.getElem?_cons_succ, Option.some.injEq, exists_eq_left', bi_len, c_gt, W_some, wss_nil]
    refine ⟨fun e => ?_, fun _ => ⟨_, trivial, rfl, trivial⟩⟩
    have hl : 0 < (zs.map P.int).length := by have := of_decide_eq_true e; omega
    obtain ⟨z, hz⟩ := at_fmod (zs := zs) ha hl
    refine wss_cons.mpr ?_
    simp only [ws_asg, we_bin, we_bi, wes_cons, wes_nil, we_sub, we_slot, we_int, List.getElem?_cons_zero, List.getElem?_cons_succ, Option.some.injEq, exists_eq_left', s_cell h, h0, W_some, bi_len, b_mod (show ((zs.map P.int).length : Int) ≠ 0 by omega), s_lst, hz, wg_slot, nxt_nx, wss_nil, List.set_cons_zero, List.set_cons_succ]
    exact ⟨by simp, _, trivial, rfl, trivial⟩
  rintro _ _ s0 ⟨z, rfl, rfl, e0⟩
  subst e0
  rw [nxt_nx]
  refine wss_cons.mpr ?_
  refine ws_mono (Q := fun f e s => ∃ z, f = .nx ∧ 0 ≤ z ∧ e = [some (.cell n), some (.pu (.lst (zs.map .int))), some (.pu (.int m)), none, some (.pu (.int z)), none] ∧ s = s0) ?_ ?_
  · simp only [ws_ife, wt_cmp, we_slot, we_int, List.getElem?_cons_zero, List.getElem?_cons_succ, Option.some.injEq, exists_eq_left', c_lt, W_some, wss_nil]
    refine ⟨fun e => ?_, fun e => ⟨_, trivial, by have := of_decide_eq_false e; omega, rfl, trivial⟩⟩
    have hz := of_decide_eq_true e
    refine wss_cons.mpr ?_
    simp only [ws_asg, we_bin, we_slot, we_int, List.getElem?_cons_zero, List.getElem?_cons_succ, Option.some.injEq, exists_eq_left', W_some, b_sub, b_mul' (show -(2 ^ 64) < (2 : Int) ∧ (2 : Int) < 2 ^ 64 by decide), wg_slot, nxt_nx, wss_nil, List.set_cons_zero, List.set_cons_succ]
    exact ⟨by simp, _, trivial, by omega, rfl, trivial⟩
  rintro _ _ s' ⟨z, rfl, hz, rfl, e1⟩
  subst e1
  rw [nxt_nx]
  refine wss_cons.mpr ?_
  simp only [ws_asg, we_bin, we_bi, wes_cons, wes_nil, we_sub, we_slot, we_int, List.getElem?_cons_zero, List.getElem?_cons_succ, Option.some.injEq, exists_eq_left', s_cell h, h0, W_some, b_add, b_mul (show -(2 ^ 64) < (7919 : Int) ∧ (7919 : Int) < 2 ^ 64 by decide), b_mul (show -(2 ^ 64) < (48271 : Int) ∧ (48271 : Int) < 2 ^ 64 by decide), bi_int, b_mod (show (2147483647 : Int) ≠ 0 by decide), wg_slot, nxt_nx, List.set_cons_zero, List.set_cons_succ]
  refine ⟨by simp, ?_⟩
  refine wss_cons.mpr ?_
  simp only [ws_asg, we_bin, we_bi, wes_cons, wes_nil, we_sub, we_slot, we_int, List.getElem?_cons_zero, List.getElem?_cons_succ, Option.some.injEq, exists_eq_left', s_cell h, h0, W_some, b_add, b_mul (show -(2 ^ 64) < (69621 : Int) ∧ (69621 : Int) < 2 ^ 64 by decide), b_mul (show -(2 ^ 64) < (104729 : Int) ∧ (104729 : Int) < 2 ^ 64 by decide), bi_int, b_mod (show (4294967291 : Int) ≠ 0 by decide), wg_sub, set_two h, nxt_nx]
  generalize hw : (((z + a * 7919 + 1) * 48271).fmod 2147483647 * 69621 + a * 104729).fmod 4294967291 = w
  have w0 : 0 ≤ w := hw ▸ (fmod_lt (by decide)).1
  generalize some (Val.pu (P.int (((z + a * 7919 + 1) * 48271).fmod 2147483647))) = x5
  have h2 : (List.set s' n (two a w))[n]? = some (two a w) := get_set h
  have g0 : ∀ w : Int, at_ [Val.pu (.int a), .pu (.int w)] 0 = some (.pu (.int a)) := fun _ => rfl
  refine wss_cons.mpr ?_
  refine ws_mono (Q := fun f e s => ∃ w2, f = .nx ∧ 0 ≤ w2 ∧ e = [some (.cell n), some (.pu (.lst (zs.map .int))), some (.pu (.int m)), none, some (.pu (.int z)), x5] ∧ s = s'.set n (two a w2)) ?_ ?_
  · simp only [ws_ife, wt_bop, wb_cons, wb_one, wt_cmp, we_bin, we_bi, wes_cons, wes_nil, we_sub, we_slot, we_int, List.getElem?_cons_zero, List.getElem?_cons_succ, Option.some.injEq, exists_eq_left', W_some, wss_nil, b_pow, c_ge, c_lt, bi_len, s_cell h2, g0]
    have hset : ∀ r s0, s0 = List.set s' n (two a w) → (r = true → WSs C (.cons (.asg (.sub true (.slot 0) (.cint 1)) (.slot 4)) .nil) [some (.cell n), some (.pu (.lst (zs.map .int))), some (.pu (.int m)), none, some (.pu (.int z)), x5] s0 fun f e s => ∃ w2, f = Fl.nx ∧ 0 ≤ w2 ∧ e = [some (.cell n), some (.pu (.lst (zs.map .int))), some (.pu (.int m)), none, some (.pu (.int z)), x5] ∧ s = s'.set n (two a w2)) := by
      intro r s0 e0 _
      subst e0
      refine wss_cons.mpr ?_
      simp only [ws_asg, we_slot, we_int, List.getElem?_cons_zero, List.getElem?_cons_succ, Option.some.injEq, exists_eq_left', W_some, wg_sub, set_two h2, nxt_nx, wss_nil, List.set_set]
      exact ⟨_, trivial, hz, trivial, rfl⟩
    split
    · exact ⟨hset _ _ rfl, fun _ => ⟨_, trivial, w0, trivial, rfl⟩⟩
    · exact ⟨hset _ _ rfl, fun _ => ⟨_, trivial, w0, trivial, rfl⟩⟩
  rintro _ _ s2 ⟨w2, rfl, w20, rfl, e2⟩
  subst e2
  have h3 : (List.set s' n (two a w2))[n]? = some (two a w2) := get_set h
  rw [nxt_nx]
  refine wss_cons.mpr ?_
  simp only [ws_asg, we_bin, we_sub, we_slot, we_int, List.getElem?_cons_zero, List.getElem?_cons_succ, Option.some.injEq, exists_eq_left', W_some, s_cell h3, g0, b_add, wg_sub, set_one h3, nxt_nx, wss_nil, List.set_set]
  exact ⟨_, _, _, _, trivial, by omega, w20, rfl, rfl⟩
theorem set_same {st : Store} {n : Nat} {c : CellC} (h : st[n]? = some c) : st.set n c = st := by
  apply List.ext_getElem?
  intro i
  rw [List.getElem?_set]
  by_cases e : n = i
  · subst e
    have := (List.getElem?_eq_some_iff.mp h).1
    rw [if_pos rfl, if_pos this, h]
  · simp [e]
theorem wss_mono {C : Cfg} {x : Ss} {env : Env} {st : Store} {Q R : Fl → Env → Store → Prop} (h : WSs C x env st Q) (i : ∀ f e s, Q f e s → R f e s) : WSs C x env st R := W_mono h fun q z => i _ _ _ z
theorem draw_body {C : Cfg} {st : Store} {n : Nat} {a b m : Int} {zs : List Int} (h : st[n]? = some (two a b)) (ha : 0 ≤ a) (hb : 0 ≤ b) (hm : 0 < m) (hm2 : m < 1073741824) :
    WSs C drawS [some (.cell n), some (.pu (.lst (zs.map .int))), some (.pu (.int m)), none, none, none] st fun f env s => ∃ d a' b', f = .rt (.pu (.int d)) ∧ 0 ≤ d ∧ d < m ∧ 0 ≤ a' ∧ 0 ≤ b' ∧ s = st.set n (two a' b') := by
  have h1 : at_ [Val.pu (.int a), .pu (.int b)] 1 = some (.pu (.int b)) := rfl
  show WSs C (.cons (.ife _ (ifSs drawS) .nil) (tailSs drawS)) _ _ _
  refine wss_cons.mpr ?_
  refine ws_mono (Q := fun f e s => ∃ a' b' x4 x5, f = .nx ∧ 0 ≤ a' ∧ 0 ≤ b' ∧ e = [some (.cell n), some (.pu (.lst (zs.map .int))), some (.pu (.int m)), none, x4, x5] ∧ s = st.set n (two a' b')) ?_ ?_
  · simp only [ws_ife, wt_cmp, we_sub, we_slot, we_int, List.getElem?_cons_zero, List.getElem?_cons_succ, Option.some.injEq, exists_eq_left', s_cell h, h1, c_eq, W_some, wss_nil]
    exact ⟨fun _ => draw_mix h ha, fun _ => ⟨a, b, none, none, trivial, ha, hb, rfl, (set_same h).symm⟩⟩
  rintro _ _ _ ⟨a', b', x4, x5, rfl, ha', hb', rfl, rfl⟩
  rw [nxt_nx]
  refine wss_mono (draw_tail (get_set h) ha' hb' hm hm2) fun f e s ⟨d, b2, q1, q2, q3, q4, q5⟩ => ⟨d, a', b2, q1, q2, q3, ha', q4, by rw [q5, List.set_set]⟩
section
variable {C : Cfg} {env : Env} {st : Store}
theorem wi_rng {e : E} {Q : List Val × Store → Prop} (h : WE C e env st fun v s => ∃ j : Nat, v = .pu (.int j) ∧ j < 1000000 ∧ Q ((List.range j).map fun i => .pu (.int (i : Nat)), s)) : W (evI C (.rng (.cons e .nil)) env st) Q := by
  obtain ⟨⟨v, s⟩, h1, j, rfl, h2, h3⟩ := h
  rw [evI, evEs, h1]
  simp only [evEs]
  have sm : small62 (j : Int) = true := by
    unfold small62
    rw [Bool.and_eq_true]
    exact ⟨decide_eq_true (by omega), decide_eq_true (by omega)⟩
  rw [if_pos sm]
  have e : rngItems 0 (j : Int) = (List.range j).map fun i => .pu (.int (i : Nat)) := by
    unfold rngItems
    simp
  rw [e]
  exact ⟨_, rfl, h3⟩
end
theorem sgn_at {ct : List Key → Bool} {st : Store} {d : Int} (h0 : 0 ≤ d) (h : d < 36) : ∃ c : Nat, alp ⟨#[c]⟩ ∧ subop ct (.pu (.str sgn)) (.pu (.int d)) st = some (.pu (.str ⟨#[c]⟩)) := by
  have hl : sgn.cps.toList.length = 36 := by decide +kernel
  obtain ⟨hd, e⟩ := at_ok (xs := sgn.cps.toList) h0 (by rw [hl]; exact h)
  refine ⟨sgn.cps.toList[d.toNat], fun c hc => by rw [List.mem_singleton.mp hc]; exact List.getElem_mem _, ?_⟩
  show (if sgn.length ≤ SZ then (at_ sgn.cps.toList d).map fun c => Val.pu (.str ⟨#[c]⟩) else none) = _
  rw [if_pos (by decide +kernel), e]
  rfl
theorem b_adds {o : Bool} {a b : Str} {st : Store} (h : a.length + b.length ≤ SZ) : binop o .add (.pu (.str a)) (.pu (.str b)) st = some (.pu (.str (a ++ b)), st) := by
  show (if a.length + b.length ≤ SZ then _ else _) = _
  rw [if_pos h]
/-- the end of the name at a place -/
def tl (i : Nat) : Str := (toString ((10 : Int) + (i : Int)) : String)
theorem tl_len {i : Nat} (h : i < 90) : (tl i).length = 2 := by
  have : ∀ i : _root_.Fin 90, (tl i.1).length = 2 := by decide +kernel
  exact this ⟨i, h⟩
theorem tl_alp {i : Nat} (h : i < 90) : alp (tl i) := by
  have : ∀ i : _root_.Fin 90, ∀ c ∈ (tl i.1).cps.toList, c ∈ sgn.cps.toList := by decide +kernel
  exact this ⟨i, h⟩
theorem tl_inj {i j : Nat} (hi : i < 90) (hj : j < 90) (e : tl i = tl j) : i = j := by
  have : ∀ i j : _root_.Fin 90, tl i.1 = tl j.1 → i = j := by decide +kernel
  exact congrArg _root_.Fin.val (this ⟨i, hi⟩ ⟨j, hj⟩ e)
theorem bi_str {o : Bool} {i : Nat} {st : Store} (h : i < 90) : bi o .str [.pu (.int ((10 : Int) + (i : Int)))] st = some (.pu (.str (tl i)), st) := by
  have : ∀ i : _root_.Fin 90, ((10 : Int) + (i.1 : Int)).natAbs.log2 < 1920 := by decide +kernel
  show (if ((10 : Int) + (i : Int)).natAbs.log2 < 1920 then _ else _) = _
  rw [if_pos (this ⟨i, h⟩)]
  rfl
section
variable {tbl : List Fd} {cls : List Cd} {gl : Nat → Option P} {ct : List Key → Bool} {wf k dr nm f : Nat} {zs : List Int} (hdr : tbl[dr]? = some ⟨3, 6, drawS, 0⟩)
include hdr
abbrev scr (zs : List Int) : Val := .pu (.lst (zs.map .int))
def isDig (m : Int) (p : P) : Prop := ∃ d : Int, p = .int d ∧ 0 ≤ d ∧ d < m
theorem sp_draw {m : Int} (hm : 0 < m) (hm2 : m < 1073741824) : Sp (lv tbl cls gl ct wf (k + 1)) dr [scr zs, .pu (.int m)] (isDig m) := by
  refine sp_of (fd := ⟨3, 6, drawS, 0⟩) hdr rfl rfl fun st0 n s B g => ?_
  obtain ⟨a, b, ha, hb, e⟩ := g.get B
  refine wss_mono (draw_body e ha hb hm hm2) ?_
  rintro f _ t ⟨d, a', b', rfl, h1, h2, h3, h4, rfl⟩
  exact ⟨_, _, [], rfl, (List.append_nil _).symm, g.set h3 h4, .int d, rfl, d, rfl, h1, h2⟩
local macro_rules | `(tactic| decreasing_trivial_pre_omega) => `(tactic| simp only [wss_nil, nxt_nx, nxt_rt, nxt_ct, ws_asg, ws_expr, ws_ret, ws_ife, ws_setLc, ws_for, wt_val, wt_cmp, wt_bop, wb_cons, wb_one, we_int, we_str, we_bl, we_non, we_bin, we_cmp, we_sub, we_bi, we_call, wes_cons, wes_nil, we_slot, we_tup, we_lst, we_bm, wg_slot, wg_sub, W_some, List.getElem?_cons_zero, List.getElem?_cons_succ, List.set_cons_zero, List.set_cons_succ, List.length_cons, List.length_nil, List.map_cons, List.map_nil, List.cons_append, List.nil_append, List.replicate, Option.some.injEq, exists_eq_left', b_add, b_sub, c_eq, c_lt, c_gt, c_ge, bi_int, bi_len, mkL, mkT, allPu, frzs, frz, Option.map_some, Bool.false_eq_true, ↓reduceIte, Nat.reduceAdd, Nat.reduceLT, true_and])
local macro_rules | `(tactic| decreasing_trivial) => `(tactic| (refine wss_cons.mpr ?_; decreasing_trivial_pre_omega))
/-- a name at a place -/
def isNm (i : Nat) (p : P) : Prop := ∃ y : Str, p = .str (y ++ tl i) ∧ y.length ≤ 10 ∧ alp y
theorem sp_name {i : Nat} (hnm : tbl[nm]? = some ⟨3, 6, nameS dr, 0⟩) (hi : i < 90) : Sp (lv tbl cls gl ct wf (k + 2)) nm [scr zs, .pu (.int (i : Int))] (isNm i) := by
  refine sp_of (fd := ⟨3, 6, nameS dr, 0⟩) hnm rfl rfl fun st0 n s B g => ?_
  unfold nameS
  decreasing_trivial
  decreasing_trivial
  refine sp_use0 (sp_draw hdr (by decide) (by decide)) B g ?_
  rintro _ s' ⟨d, rfl, d0, d1⟩ g1
  obtain ⟨c, hal, e⟩ := sgn_at (ct := ct) (st := s') d0 (Int.lt_trans d1 (by decide))
  rw [show subop (lv tbl cls gl ct wf (k + 1)).ct (.pu (.str sgn)) (.pu (.int d)) s' = some (.pu (.str ⟨#[c]⟩)) from e]
  decreasing_trivial_pre_omega
  clear e d0 d1
  refine wss_cons.mpr ?_
  rw [ws_for]
  refine wi_rng ?_
  decreasing_trivial_pre_omega
  refine ⟨by decide, ?_⟩
  refine sp_use0 (sp_draw hdr (by decide) (by decide)) B g1 ?_
  rintro _ s2 ⟨d, rfl, d0, d1⟩ g2
  obtain ⟨j, hj, e⟩ : ∃ j : Nat, j ≤ 9 ∧ subop (lv tbl cls gl ct wf (k + 1)).ct (.pu (.lst [.int 0, .int 1, .int 2, .int 9])) (.pu (.int d)) s2 = some (.pu (.int j)) := by
    have : d = 0 ∨ d = 1 ∨ d = 2 ∨ d = 3 := by omega
    rcases this with rfl | rfl | rfl | rfl
    · exact ⟨0, by decide, rfl⟩
    · exact ⟨1, by decide, rfl⟩
    · exact ⟨2, by decide, rfl⟩
    · exact ⟨9, by decide, rfl⟩
  rw [e, W_some]
  refine ⟨j, rfl, by omega, ?_⟩
  refine for_g (g := fun i : Nat => Val.pu (.int (i : Int))) (fun ds e t => ∃ y x5, alp y ∧ y.length ≤ 1 + ds.length ∧ Gd st0 n t ∧ e = [some (.cell n), some (scr zs), some (.pu (.int i)), some (.pu (.str sgn)), some (.pu (.str y)), x5]) ⟨⟨#[c]⟩, none, hal, Nat.le_refl 1, g2, rfl⟩ ?_ ?_
  · rintro e t ⟨y, x5, ha, hy, g3, rfl⟩
    rw [nxt_nx]
    rw [List.length_range] at hy
    decreasing_trivial
    rw [bi_str hi, W_some, b_adds (by rw [tl_len hi]; unfold SZ; omega), W_some]
    exact ⟨_, t, [], rfl, (List.append_nil _).symm, g3, _, rfl, y, rfl, by omega, ha⟩
  · rintro ds x rs e t h ⟨y, x5, ha, hy, g3, rfl⟩
    have hl : ds.length < j := by have := congrArg List.length h; rw [List.length_range, List.length_append, List.length_cons] at this; omega
    decreasing_trivial_pre_omega
    decreasing_trivial
    refine sp_use0 (sp_draw hdr (by decide) (by decide)) B g3 ?_
    rintro _ s4 ⟨d, rfl, d0, d1⟩ g4
    obtain ⟨c, hal, e⟩ := sgn_at (ct := ct) (st := s4) d0 d1
    rw [show subop (lv tbl cls gl ct wf (k + 1)).ct (.pu (.str sgn)) (.pu (.int d)) s4 = some (.pu (.str ⟨#[c]⟩)) from e]
    have hc : (⟨#[c]⟩ : Str).length = 1 := rfl
    rw [W_some, b_adds (by rw [hc]; unfold SZ; omega), W_some]
    decreasing_trivial_pre_omega
    exact ⟨_, _, alp_app ha hal, by rw [str_app, List.length_append, hc, List.length_singleton]; omega, g4, rfl⟩
/-- the names -/
def isNms (m : Nat) (p : P) : Prop := ∃ xs : List Str, p = .lst (xs.map .str) ∧ xs.length = m ∧ ∀ i (h : i < xs.length), ∃ y : Str, xs[i] = y ++ tl i ∧ y.length ≤ 10 ∧ alp y
theorem sp_names {m : Nat} (hnm : tbl[nm]? = some ⟨3, 6, nameS dr, 0⟩) (hns : tbl[f]? = some ⟨3, 5, namesS nm, 0⟩) (hm : m ≤ 90) : Sp (lv tbl cls gl ct wf (k + 3)) f [scr zs, .pu (.int (m : Int))] (isNms m) := by
  refine sp_of (fd := ⟨3, 5, namesS nm, 0⟩) hns rfl rfl fun st0 n s B g => ?_
  unfold namesS
  decreasing_trivial
  refine ⟨by decide, ?_⟩
  refine wss_cons.mpr ?_
  rw [ws_for, g.len]
  refine wi_rng ?_
  decreasing_trivial_pre_omega
  refine ⟨m, rfl, by omega, ?_⟩
  refine for_rng (fun j e t => ∃ (xs : List Str) (s' : Store) (x4 : Option Val), xs.length = j ∧ (∀ i (h : i < xs.length), ∃ y : Str, xs[i] = y ++ tl i ∧ y.length ≤ 10 ∧ alp y) ∧ Gd st0 n s' ∧ t = s' ++ [.lst ((xs.map P.str).map .pu)] ∧ e = [some (.cell n), some (scr zs), some (.pu (.int m)), some (.cell st0.length), x4]) ⟨[], s, none, rfl, fun i h => absurd h (Nat.not_lt_zero i), g, rfl, rfl⟩ ?_ ?_
  · rintro e t ⟨xs, s', x4, hl, hx, g', rfl, rfl⟩
    rw [nxt_nx]
    decreasing_trivial
    exact ⟨_, s', _, rfl, rfl, g', .lst (xs.map .str), toP_lst g'.at0 (Nat.le_of_eq g'.len), xs, rfl, hl, hx⟩
  · rintro j e t hj ⟨xs, s', x4, rfl, hx, g', rfl, rfl⟩
    decreasing_trivial_pre_omega
    decreasing_trivial
    refine ⟨isTy_list g'.at0, sp_use (sp_name hdr hnm (by omega)) B g' (blwl1 blwC_pu) ?_⟩
    rintro _ s2 ⟨y, rfl, hy, ha⟩ g2
    rw [bm_append g2.at0 (by rw [List.length_map, List.length_map]; unfold SZ; omega), W_some, g2.put0]
    decreasing_trivial_pre_omega
    refine ⟨xs ++ [y ++ tl xs.length], s2, _, by rw [List.length_append]; rfl, ?_, g2, by rw [List.map_append, List.map_append]; rfl, rfl⟩
    intro i h
    by_cases hi : i < xs.length
    · rw [List.getElem_append_left hi]; exact hx i hi
    · have : i = xs.length := by rw [List.length_append, List.length_singleton] at h; omega
      subst this
      exact ⟨y, by simp, hy, ha⟩
omit hdr in
theorem isNms.nodup {xs : List Str} (hm : xs.length ≤ 90) (h : ∀ i (h : i < xs.length), ∃ y : Str, xs[i] = y ++ tl i ∧ y.length ≤ 10 ∧ alp y) : xs.Nodup := by
  refine List.pairwise_iff_getElem.mpr fun i j hi hj hij e => ?_
  obtain ⟨y, e1, _⟩ := h i hi
  obtain ⟨z, e2, _⟩ := h j hj
  rw [e1, e2] at e
  have e3 : y.cps.toList ++ (tl i).cps.toList = z.cps.toList ++ (tl j).cps.toList := by
    have : (y.cps ++ (tl i).cps).toList = (z.cps ++ (tl j).cps).toList := congrArg (fun s : Str => s.cps.toList) e
    rwa [Array.toList_append, Array.toList_append] at this
  have l : (tl i).cps.toList.length = (tl j).cps.toList.length := by
    rw [Array.length_toList, Array.length_toList]
    exact (tl_len (by omega)).trans (tl_len (by omega)).symm
  have e4 : (tl i).cps = (tl j).cps := Array.toList_inj.mp (List.append_inj_right' e3 l)
  have := tl_inj (i := i) (j := j) (by omega) (by omega) (by cases h1 : tl i; cases h2 : tl j; rw [h1, h2] at e4; exact congrArg Str.mk e4)
  omega
omit hdr in
theorem bi_list {o : Bool} {ps : List P} {st : Store} : bi true .list [.pu (.lst ps)] st = some (.cell st.length, st ++ [.lst (ps.map .pu)]) := rfl
omit hdr in
theorem bi_min {o : Bool} {i j : Int} {st : Store} : bi o .min2 [.pu (.int i), .pu (.int j)] st = some (.pu (.int (if j < i then j else i)), st) := rfl
omit hdr in
theorem bi_lenc {o : Bool} {n : Nat} {xs : List Val} {st : Store} (h : st[n]? = some (.lst xs)) : bi o .len [.cell n] st = some (.pu (.int xs.length), st) := by
  unfold bi
  simp only [view, h]
omit hdr in
theorem bm_popAt {ct : List Key → Bool} {o : Bool} {n : Nat} {xs : List Val} {d : Int} {st : Store} (h : st[n]? = some (.lst xs)) (hl : xs.length ≤ SZ) (h0 : 0 ≤ d) (hd : d < xs.length) : ∃ h2 : d.toNat < xs.length, bm ct o .popAt (.cell n) [.pu (.int d)] st = some (xs[d.toNat], st.set n (.lst (xs.eraseIdx d.toNat))) := by
  have h2 : d.toNat < xs.length := by omega
  refine ⟨h2, ?_⟩
  unfold bm
  simp only [h, view, viewP]
  have e : ixN xs.length d = some d.toNat := by unfold ixN L2.ixN; rw [if_pos h0, if_pos hd]
  simp only [e, List.getElem?_eq_getElem h2]
  rw [if_pos hl]
omit hdr in
theorem map_erase {α β : Type} {f : α → β} : ∀ (xs : List α) (n : Nat), (xs.eraseIdx n).map f = (xs.map f).eraseIdx n
  | [], _ => rfl
  | _ :: _, 0 => rfl
  | x :: xs, n + 1 => by rw [List.eraseIdx_cons_succ, List.map_cons, List.map_cons, List.eraseIdx_cons_succ, map_erase xs n]
theorem sp_some {ps : List P} {most : Int} (hso : tbl[f]? = some ⟨4, 7, someS dr, 0⟩) (h1 : 0 < most) (h2 : 0 < ps.length) (h3 : ps.length < 1000) : Sp (lv tbl cls gl ct wf (k + 2)) f [scr zs, .pu (.lst ps), .pu (.int most)] (fun p => ∃ xs : List P, p = .lst xs ∧ xs.length ≤ most.toNat ∧ ∀ x ∈ xs, x ∈ ps) := by
  refine sp_of (fd := ⟨4, 7, someS dr, 0⟩) hso rfl rfl fun st0 n s B g => ?_
  unfold someS
  decreasing_trivial
  rw [bi_list (o := true), W_some]
  decreasing_trivial
  refine ⟨by decide, ?_⟩
  rw [List.append_assoc, List.length_append, g.len]
  refine wss_cons.mpr ?_
  rw [ws_for]
  refine wi_rng ?_
  decreasing_trivial_pre_omega
  rw [bi_min, W_some]
  simp only
  generalize hmin : (if (ps.length : Int) < most then (ps.length : Int) else most) = mn
  have mn1 : 0 < mn ∧ mn ≤ ps.length ∧ mn ≤ most := by split at hmin <;> omega
  refine sp_use (sp_draw hdr mn1.1 (by omega)) B g (by rw [List.all_cons, blwC_pu, List.all_cons, blwC_nil]; rfl) ?_
  rintro _ s1 ⟨d, rfl, d0, d1⟩ g1
  decreasing_trivial_pre_omega
  refine ⟨(1 + d).toNat, by congr; omega, by omega, ?_⟩
  refine for_rng (fun j e t => ∃ (ls xs : List P) (s' : Store) (x6 : Option Val), xs.length = j ∧ ls.length + j = ps.length ∧ (∀ x ∈ xs, x ∈ ps) ∧ (∀ x ∈ ls, x ∈ ps) ∧ Gd st0 n s' ∧ t = s' ++ [.lst (ls.map .pu), .lst (xs.map .pu)] ∧ e = [some (.cell n), some (scr zs), some (.pu (.lst ps)), some (.pu (.int most)), some (.cell st0.length), some (.cell (st0.length + 1)), x6]) ⟨ps, [], s1, none, rfl, rfl, by simp, by simp, g1, rfl, rfl⟩ ?_ ?_
  · rintro e t ⟨ls, xs, s', x6, hl, hl2, hx, _, g', rfl, rfl⟩
    rw [nxt_nx]
    decreasing_trivial
    exact ⟨_, s', _, rfl, rfl, g', .lst xs, toP_lst g'.at (by rw [g'.len]; omega), xs, rfl, by omega, hx⟩
  · rintro j e t hj ⟨ls, xs, s', x6, hl, hl2, hx, hy, g', rfl, rfl⟩
    decreasing_trivial_pre_omega
    decreasing_trivial
    refine ⟨isTy_list g'.at, isTy_list g'.at0, ?_⟩
    rw [bi_lenc g'.at0, W_some]
    refine sp_use (sp_draw hdr (by rw [List.length_map]; omega) (by rw [List.length_map]; omega)) B g' (by rw [List.all_cons, blwC_pu, List.all_cons, blwC_pu]; rfl) ?_
    rintro _ s2 ⟨d, rfl, d0, d1⟩ g2
    obtain ⟨hd, e⟩ := bm_popAt (ct := ct) (o := false) (st := s2 ++ [CellC.lst (ls.map .pu), CellC.lst (xs.map .pu)]) g2.at0 (by rw [List.length_map]; unfold SZ; omega) d0 d1
    rw [show bm (lv tbl cls gl ct wf (k + 1)).ct _ _ _ _ _ = _ from e, W_some, g2.put0]
    simp only [List.set_cons_zero]
    rw [bm_append g2.at (by rw [List.length_map]; unfold SZ; omega), W_some, g2.put]
    decreasing_trivial_pre_omega
    have hd' : d.toNat < ls.length := by rw [List.length_map] at hd; exact hd
    refine ⟨ls.eraseIdx d.toNat, xs ++ [ls[d.toNat]], s2, _, by rw [List.length_append, hl]; rfl, by rw [List.length_eraseIdx_of_lt hd']; omega, ?_, fun x hx => hy x (List.mem_of_mem_eraseIdx hx), g2, ?_, rfl⟩
    · intro x hx2
      rcases List.mem_append.mp hx2 with h | h
      · exact hx x h
      · rw [List.mem_singleton] at h; subst h; exact hy _ (List.getElem_mem _)
    · rw [List.map_append, List.map_singleton, map_erase, List.getElem_map]
theorem sp_pick {ps : List P} (hpk : tbl[f]? = some ⟨3, 3, pickS dr, 0⟩) (h2 : 0 < ps.length) (h3 : ps.length < 1000) : Sp (lv tbl cls gl ct wf (k + 2)) f [scr zs, .pu (.lst ps)] (fun p => p ∈ ps) := by
  refine sp_of (fd := ⟨3, 3, pickS dr, 0⟩) hpk rfl rfl fun st0 n s B g => ?_
  unfold pickS
  decreasing_trivial
  refine sp_use0 (sp_draw hdr (by omega) (by omega)) B g ?_
  rintro _ s2 ⟨d, rfl, d0, d1⟩ g2
  obtain ⟨hd, e⟩ := at_ok (xs := ps.map Val.pu) d0 (by rw [List.length_map]; exact d1)
  have hd' : d.toNat < ps.length := by rw [List.length_map] at hd; exact hd
  rw [s_lst, e, W_some, List.getElem_map]
  exact ⟨_, s2, [], rfl, (List.append_nil _).symm, g2, _, rfl, List.getElem_mem _⟩
end
end Y.Pl

set_option linter.all false
set_option maxRecDepth 100000
set_option Elab.async false
/-! YY: more rules: live loops, while loops, sorted sets, data of one kind. -/
namespace Y.Pl
open PySem
section
variable {C : Cfg} {env : Env} {st : Store} {Q : Val → Store → Prop} {R : Fl → Env → Store → Prop}
theorem we_ssetR {o : Bool} {a : E} : WE C (.sset o a) env st Q ↔ WE C a env st fun x s => ∃ vs ps, view s x = some (.seqL vs) ∧ allPu vs = some ps ∧ ssetOk ps = true ∧ W (mkL o ((sortP (dedup ps)).map .pu) s) fun q => Q q.1 q.2 := by
  unfold WE
  rw [evE]
  cases evE C a env st with
  | none => simp [W_none]
  | some q =>
    obtain ⟨x, s⟩ := q
    simp only [W_some]
    constructor
    · intro h
      split at h
      · rename_i vs hv
        split at h
        · rename_i ps hp
          split at h
          · rename_i hk
            exact ⟨vs, ps, hv, hp, hk, h⟩
          · exact (W_none.mp h).elim
        · exact (W_none.mp h).elim
      · exact (W_none.mp h).elim
    · rintro ⟨vs, ps, h1, h2, h3, h4⟩
      rw [h1]
      simp only
      rw [h2]
      simp only
      rw [if_pos h3]
      exact h4
theorem ws_forL {g : G} {e : E} {b : Ss} : WS C (.forL g e b) env st R ↔ WE C e env st fun v s => ∃ n, v = .cell n ∧ W (evLive (fun v env st => asgG C g v env st) (fun env st => evSs C b env st) n C.wf 0 env s) fun q => R q.1 q.2.1 q.2.2 := by
  unfold WS WE
  rw [evS]
  constructor
  · rintro ⟨q, e, h⟩
    split at e
    · rename_i n s he
      rw [he]
      exact W_some.mpr ⟨n, rfl, q, e, h⟩
    · cases e
  · rintro ⟨⟨v, s⟩, e, n, rfl, h⟩
    rw [e]
    exact h
theorem ws_whl {t : T} {b : Ss} : WS C (.whl t b) env st R ↔ W (evWh (fun env st => evT C t env st) (fun env st => evSs C b env st) C.wf env st) fun q => R q.1 q.2.1 q.2.2 := by
  unfold WS
  rw [evS]
/-- a loop over a list that stays -/
theorem live_fix {asg : Val → Env → Store → Option (Env × Store)} {body : Env → Store → Option (Fl × Env × Store)} {n m : Nat} {vs : List Val} (hm : vs.length < m) (J : Nat → Env → Store → Prop) (j : J 0 env st) (hJ : ∀ i env st, J i env st → st[n]? = some (.lst vs)) (h0 : ∀ env st, J vs.length env st → R .nx env st)
    (h : ∀ i v env st, vs[i]? = some v → J i env st → W (asg v env st) fun q => W (body q.1 q.2) fun q => lp (J (i + 1)) R q.1 q.2.1 q.2.2) : W (evLive asg body n m 0 env st) fun q => R q.1 q.2.1 q.2.2 := by
  suffices z : ∀ (m i : Nat) (env : Env) (st : Store), i ≤ vs.length → vs.length - i < m → J i env st → W (evLive asg body n m i env st) fun q => R q.1 q.2.1 q.2.2 from z m 0 env st (Nat.zero_le _) hm j
  intro m
  induction m with
  | zero => intro i env st _ h _; omega
  | succ m ih =>
    intro i env st hi hm j
    rw [evLive, hJ i env st j]
    simp only
    cases hv : vs[i]? with
    | none =>
      have : i = vs.length := by have := List.getElem?_eq_none_iff.mp hv; omega
      subst this
      exact ⟨_, rfl, h0 _ _ j⟩
    | some v =>
      have hl := (List.getElem?_eq_some_iff.mp hv).1
      obtain ⟨⟨e1, s1⟩, q1, ⟨f, e2, s2⟩, q2, q⟩ := h i v env st hv j
      simp only
      rw [q1]
      simp only
      rw [show body e1 s1 = _ from q2]
      cases f with
      | rt r => exact ⟨_, rfl, q⟩
      | nx => exact ih (i + 1) e2 s2 (by omega) (by omega) q
      | ct => exact ih (i + 1) e2 s2 (by omega) (by omega) q
theorem wh_inv {test : Env → Store → Option (Bool × Store)} {body : Env → Store → Option (Fl × Env × Store)} (J : Nat → Env → Store → Prop)
    (h : ∀ k env st, J k env st → W (test env st) fun q => (q.1 = false → R .nx env q.2) ∧ (q.1 = true → W (body env q.2) fun r => lp (fun e s => ∃ k', k' < k ∧ J k' e s) R r.1 r.2.1 r.2.2)) : ∀ (m k : Nat) (env : Env) (st : Store), k < m → J k env st → W (evWh test body m env st) fun q => R q.1 q.2.1 q.2.2
  | 0, _, _, _, hm, _ => by omega
  | m + 1, k, env, st, hm, j => by
    obtain ⟨⟨b, s⟩, e, h1, h2⟩ := h k env st j
    rw [evWh, e]
    cases b with
    | false => exact ⟨_, rfl, h1 rfl⟩
    | true =>
      obtain ⟨⟨f, e2, s2⟩, q2, q⟩ := h2 rfl
      simp only at q2
      simp only
      rw [q2]
      cases f with
      | rt r => exact ⟨_, rfl, q⟩
      | nx => obtain ⟨k', hk, j'⟩ := q; exact wh_inv J h m k' e2 s2 (by omega) j'
      | ct => obtain ⟨k', hk, j'⟩ := q; exact wh_inv J h m k' e2 s2 (by omega) j'
end
/-! ### data of one kind -/
section
variable {α : Type} [DecidableEq α] {f : α → P} {ct : List Key → Bool} {st : Store}
/-- data that can be compared -/
structure Kd (f : α → P) : Prop where
  ok : ∀ a, plain (f a) = true ∧ depth (f a) ≤ 60
  eq : ∀ a b, eqv (f a) (f b) = decide (a = b)
theorem Kd.eqOk (h : Kd f) (a b : α) : eqOk (f a) (f b) = true := by
  unfold Y.eqOk
  rw [(h.ok a).1, (h.ok b).1, decide_eq_true (h.ok a).2, decide_eq_true (h.ok b).2]
  rfl
theorem inop_kd (h : Kd f) {a : α} {as : List α} : inop st (.pu (f a)) ((as.map f).map .pu) = some (decide (a ∈ as)) := by
  unfold inop
  rw [show toP 0 st FU (.pu (f a)) = some (f a) from rfl]
  simp only
  rw [toPs_pu]
  simp only
  rw [if_pos]
  · congr 1
    rw [List.any_map]
    by_cases e : a ∈ as
    · rw [decide_eq_true e, List.any_eq_true]
      exact ⟨a, e, by show eqv (f a) (f a) = true; rw [h.eq, decide_eq_true rfl]⟩
    · rw [decide_eq_false e, Bool.eq_false_iff]
      intro z
      obtain ⟨y, hy, e2⟩ := List.any_eq_true.mp z
      have e2 : eqv (f y) (f a) = true := e2
      rw [h.eq] at e2
      have := of_decide_eq_true e2
      exact e (this ▸ hy)
  · rw [List.all_map, List.all_eq_true]
    intro y _
    exact h.eqOk y a
theorem nin_kd (h : Kd f) {a : α} {as : List α} : cmpop ct .nin (.pu (f a)) (.pu (.lst (as.map f))) st = some (!decide (a ∈ as)) := by
  show (inop st (.pu (f a)) ((as.map f).map .pu)).map (!·) = _
  rw [inop_kd h]
  rfl
theorem nin_kdc (h : Kd f) {n : Nat} {a : α} {as : List α} (hn : st[n]? = some (.lst ((as.map f).map .pu))) : cmpop ct .nin (.pu (f a)) (.cell n) st = some (!decide (a ∈ as)) := by
  have hv : view st (.cell n) = some (.seqL ((as.map f).map .pu)) := by rw [view, hn]
  unfold cmpop
  simp only [hv, inop_kd h]
  rfl
/-- data that can be sorted -/
structure Ks (f : α → P) (lt : α → α → Bool) : Prop extends Kd f where
  o : Ord lt
  lt_ : ∀ a b, ltP (f a) (f b) = lt a b
  cmp : ∀ a b, cmpb (f a) (f b) = true
  fst : ∀ a, fst_ isS (f a) = true
variable {lt : α → α → Bool}
theorem Ks.sortOk (h : Ks f lt) (as : List α) : sortOk (as.map f) = true := sortOk_of (by
  intro p hp q hq
  obtain ⟨a, _, rfl⟩ := List.mem_map.mp hp
  obtain ⟨b, _, rfl⟩ := List.mem_map.mp hq
  exact h.cmp a b) (by
  intro p hp
  obtain ⟨a, _, rfl⟩ := List.mem_map.mp hp
  exact ⟨(h.ok a).1, (h.ok a).2, h.fst a⟩)
def srt (lt : α → α → Bool) (as : List α) : List α := as.mergeSort fun a b => !lt b a
theorem sortP_map' {f : α → P} (hf : ∀ a b, ltP (f a) (f b) = lt a b) (as : List α) : sortP (as.map f) = (srt lt as).map f := by
  unfold sortP srt
  rw [List.map_mergeSort]
  intro a _ b _
  rw [hf]
theorem srt_perm (as : List α) : (srt lt as).Perm as := List.mergeSort_perm ..
theorem srt_pw (o : Ord lt) (as : List α) : (srt lt as).Pairwise (fun a b => lt b a = false) := by
  refine (List.pairwise_mergeSort ?_ ?_ as).imp fun h => by simpa using h
  · intro a b c h1 h2
    rw [Bool.not_eq_true'] at h1 h2 ⊢
    exact o.tr a b c h1 h2
  · intro a b
    rw [Bool.or_eq_true, Bool.not_eq_true', Bool.not_eq_true']
    cases h : lt b a with
    | false => exact .inl rfl
    | true => exact .inr (o.as _ _ h)
theorem srt_one (o : Ord lt) {as bs : List α} (h : as.Perm bs) : srt lt as = srt lt bs := sorted_one o ((srt_perm as).trans (h.trans (srt_perm bs).symm)) (srt_pw o as) (srt_pw o bs)
end
end Y.Pl

set_option Elab.async false
set_option linter.all false
set_option maxRecDepth 100000
set_option maxHeartbeats 0
/-! the texts, rows and head of this law, printed by gen_law.py -/
namespace Y.K64
open PySem PySem.Spec PyProof.Rows L2
/-- letters: before, after, told, person, old, new, gone, come, line -/
def b0 : Ss :=
  (.cons (.asg (.slot 2) (.lst true .nil))
  (.cons (.for_ (.slot 3) (.seq (.sset false (.bin false .add (.bi false .list (.cons (.slot 0) .nil)) (.bi false .list (.cons (.slot 1) .nil)))))
    (.cons (.asg (.slot 4) (.bm false .get2 (.slot 0) (.cons (.slot 3) (.cons (.lst false .nil) .nil))))
    (.cons (.asg (.slot 5) (.bm false .get2 (.slot 1) (.cons (.slot 3) (.cons (.lst false .nil) .nil))))
    (.cons (.setLc 6 (.lc true [("line", 8)] (.slot 8) (.seq (.slot 4)) (.cons (.cmp .nin (.slot 8) (.slot 5)) .nil) (.slot 8)))
    (.cons (.setLc 7 (.lc true [("line", 8)] (.slot 8) (.seq (.slot 5)) (.cons (.cmp .nin (.slot 8) (.slot 4)) .nil) (.slot 8)))
    (.cons (.ife (.cmp .gt (.bin false .add (.bi false .len (.cons (.slot 6) .nil)) (.bi false .len (.cons (.slot 7) .nil))) (.cint 0))
      (.cons (.expr (.bm false .append (.slot 2) (.cons (.tup true (.cons (.slot 3) (.cons (.slot 6) (.cons (.slot 7) .nil)))) .nil)))
      .nil)
      .nil)
    .nil))))))
  (.cons (.ret (.slot 2))
  .nil)))
/-- rebuilt: lines, letter, line -/
def b1 : Ss :=
  (.cons (.ret (.bi false .sorted (.cons (.bin false .add (.lc false [("line", 2)] (.slot 2) (.seq (.slot 0)) (.cons (.cmp .nin (.slot 2) (.sub (.slot 1) (.cint 1))) .nil) (.slot 2)) (.sub (.slot 1) (.cint 2))) .nil)))
  .nil)
/-- _law_draw: state, script, size, digit, cell, mixed -/
def b2 : Ss :=
  (.cons (.ife (.cmp .eq (.sub (.slot 0) (.cint 1)) (.cint 0))
    (.cons (.asg (.slot 4) (.cint 0))
    (.cons (.ife (.cmp .gt (.bi false .len (.cons (.slot 1) .nil)) (.cint 0))
      (.cons (.asg (.slot 4) (.sub (.slot 1) (.bin false .mod (.sub (.slot 0) (.cint 0)) (.bi false .len (.cons (.slot 1) .nil)))))
      .nil)
      .nil)
    (.cons (.ife (.cmp .lt (.slot 4) (.cint 0))
      (.cons (.asg (.slot 4) (.bin false .sub (.cint 1) (.bin false .mul (.cint 2) (.slot 4))))
      .nil)
      .nil)
    (.cons (.asg (.slot 5) (.bin false .mod (.bi false .int (.cons (.bin false .mul (.bin false .add (.bin false .add (.slot 4) (.bin false .mul (.sub (.slot 0) (.cint 0)) (.cint 7919))) (.cint 1)) (.cint 48271)) .nil)) (.cint 2147483647)))
    (.cons (.asg (.sub true (.slot 0) (.cint 1)) (.bin false .mod (.bi false .int (.cons (.bin false .add (.bin false .mul (.slot 5) (.cint 69621)) (.bin false .mul (.sub (.slot 0) (.cint 0)) (.cint 104729))) .nil)) (.cint 4294967291)))
    (.cons (.ife (.bop true (.cons (.cmp .ge (.slot 4) (.bin false .pow (.cint 10) (.cint 18))) (.cons (.cmp .lt (.sub (.slot 0) (.cint 0)) (.bi false .len (.cons (.slot 1) .nil))) .nil)))
      (.cons (.asg (.sub true (.slot 0) (.cint 1)) (.slot 4))
      .nil)
      .nil)
    (.cons (.asg (.sub true (.slot 0) (.cint 0)) (.bin false .add (.sub (.slot 0) (.cint 0)) (.cint 1)))
    .nil)))))))
    .nil)
  (.cons (.asg (.slot 3) (.bin false .mod (.bi false .int (.cons (.sub (.slot 0) (.cint 1)) .nil)) (.slot 2)))
  (.cons (.asg (.sub true (.slot 0) (.cint 1)) (.bin false .fdiv (.sub (.slot 0) (.cint 1)) (.slot 2)))
  (.cons (.ret (.slot 3))
  .nil))))
/-- _law_pick: state, script, items -/
def b3 : Ss :=
  (.cons (.ret (.sub (.slot 2) (.call 2 (.cons (.slot 0) (.cons (.slot 1) (.cons (.bi false .len (.cons (.slot 2) .nil)) .nil))))))
  .nil)
/-- _law_name: state, script, at, signs, name, _ -/
def b4 : Ss :=
  (.cons (.asg (.slot 3) (.cstr "abcdefghijklmnopqrstuvwxyz0123456789"))
  (.cons (.asg (.slot 4) (.sub (.slot 3) (.call 2 (.cons (.slot 0) (.cons (.slot 1) (.cons (.cint 26) .nil))))))
  (.cons (.for_ (.slot 5) (.rng (.cons (.sub (.lst false (.cons (.cint 0) (.cons (.cint 1) (.cons (.cint 2) (.cons (.cint 9) .nil))))) (.call 2 (.cons (.slot 0) (.cons (.slot 1) (.cons (.cint 4) .nil))))) .nil))
    (.cons (.asg (.slot 4) (.bin false .add (.slot 4) (.sub (.slot 3) (.call 2 (.cons (.slot 0) (.cons (.slot 1) (.cons (.cint 36) .nil)))))))
    .nil))
  (.cons (.ret (.bin false .add (.slot 4) (.bi false .str (.cons (.bin false .add (.cint 10) (.slot 2)) .nil))))
  .nil))))
/-- _law_names: state, script, many, names, at -/
def b5 : Ss :=
  (.cons (.asg (.slot 3) (.lst true .nil))
  (.cons (.for_ (.slot 4) (.rng (.cons (.slot 2) .nil))
    (.cons (.expr (.bm false .append (.slot 3) (.cons (.call 4 (.cons (.slot 0) (.cons (.slot 1) (.cons (.slot 4) .nil)))) .nil)))
    .nil))
  (.cons (.ret (.slot 3))
  .nil)))
/-- _law_line: state, script, names, p, x, k, lines -/
def b6 : Ss :=
  (.cons (.asg (.slot 3) (.call 3 (.cons (.slot 0) (.cons (.slot 1) (.cons (.slot 2) .nil)))))
  (.cons (.asg (.slot 4) (.call 3 (.cons (.slot 0) (.cons (.slot 1) (.cons (.slot 2) .nil)))))
  (.cons (.asg (.slot 5) (.call 2 (.cons (.slot 0) (.cons (.slot 1) (.cons (.cint 3) .nil)))))
  (.cons (.asg (.slot 6) (.lst false (.cons (.tup true (.cons (.cstr "accepted") (.cons (.slot 3) .nil))) (.cons (.tup true (.cons (.cstr "seat") (.cons (.slot 3) .nil))) (.cons (.tup true (.cons (.cstr "come") (.cons (.slot 3) (.cons (.slot 5) .nil)))) (.cons (.tup true (.cons (.cstr "scores") (.cons (.slot 3) (.cons (.slc false (.tup true (.cons (.slot 5) (.cons (.cint 5) (.cons (.cint 7) .nil)))) .none (.some (.bin false .add (.slot 5) (.cint 1)))) .nil)))) (.cons (.tup true (.cons (.cstr "talk") (.cons (.slot 3) (.cons (.slot 5) (.cons (.slot 4) .nil))))) (.cons (.tup true (.cons (.cstr "told") (.cons (.slot 4) (.cons (.slot 3) .nil)))) (.cons (.tup true (.cons (.cstr "away") (.cons (.slot 5) .nil))) .nil)))))))))
  (.cons (.ret (.call 3 (.cons (.slot 0) (.cons (.slot 1) (.cons (.bin false .add (.slot 6) (.lst false (.cons (.tup true (.cons (.cstr "wrote") (.cons (.bi false .min2 (.cons (.slot 3) (.cons (.slot 4) .nil))) (.cons (.bi false .max2 (.cons (.slot 3) (.cons (.slot 4) .nil))) (.cons (.bin false .add (.cint 2000) (.slot 5)) .nil))))) (.cons (.tup true (.cons (.cstr "paper") (.cons (.slot 3) (.cons (.slot 4) (.cons (.cstr "nets") .nil))))) (.cons (.tup true (.cons (.cstr "review") (.cons (.slot 3) (.cons (.slot 5) .nil)))) .nil))))) .nil)))))
  .nil)))))
/-- _law_turned: state, script, names, lines, found, keep, line, _ -/
def b7 : Ss :=
  (.cons (.asg (.slot 4) (.lst true .nil))
  (.cons (.asg (.slot 5) (.call 2 (.cons (.slot 0) (.cons (.slot 1) (.cons (.cint 3) .nil)))))
  (.cons (.for_ (.slot 6) (.seq (.slot 3))
    (.cons (.ife (.bop false (.cons (.cmp .gt (.slot 5) (.cint 0)) (.cons (.cmp .eq (.call 2 (.cons (.slot 0) (.cons (.slot 1) (.cons (.cint 2) .nil)))) (.cint 0)) .nil)))
      (.cons (.expr (.bm false .append (.slot 4) (.cons (.slot 6) .nil)))
      .nil)
      .nil)
    .nil))
  (.cons (.ife (.cmp .lt (.slot 5) (.cint 2))
    (.cons (.for_ (.slot 7) (.rng (.cons (.call 2 (.cons (.slot 0) (.cons (.slot 1) (.cons (.cint 4) .nil)))) .nil))
      (.cons (.asg (.slot 6) (.call 6 (.cons (.slot 0) (.cons (.slot 1) (.cons (.slot 2) .nil)))))
      (.cons (.ife (.cmp .nin (.slot 6) (.slot 4))
        (.cons (.expr (.bm false .append (.slot 4) (.cons (.slot 6) .nil)))
        .nil)
        .nil)
      .nil)))
    .nil)
    .nil)
  (.cons (.ret (.bi false .sorted (.cons (.slot 4) .nil)))
  .nil)))))
/-- _law_letters: before, after, due, x, old, new, gone, come, line -/
def b8 : Ss :=
  (.cons (.asg (.slot 2) (.lst true .nil))
  (.cons (.for_ (.slot 3) (.seq (.bi false .sorted (.cons (.bin false .add (.bi false .list (.cons (.slot 0) .nil)) (.lc false [("x", 3)] (.slot 3) (.keys (.slot 1)) (.cons (.cmp .nin (.slot 3) (.slot 0)) .nil) (.slot 3))) .nil)))
    (.cons (.asg (.slot 4) (.bm false .get2 (.slot 0) (.cons (.slot 3) (.cons (.lst false .nil) .nil))))
    (.cons (.asg (.slot 5) (.bm false .get2 (.slot 1) (.cons (.slot 3) (.cons (.lst false .nil) .nil))))
    (.cons (.setLc 6 (.lc false [("line", 8)] (.slot 8) (.seq (.slot 4)) (.cons (.cmp .nin (.slot 8) (.slot 5)) .nil) (.slot 8)))
    (.cons (.setLc 7 (.lc false [("line", 8)] (.slot 8) (.seq (.slot 5)) (.cons (.cmp .nin (.slot 8) (.slot 4)) .nil) (.slot 8)))
    (.cons (.ife (.bop false (.cons (.cmp .ne (.slot 6) (.lst false .nil)) (.cons (.cmp .ne (.slot 7) (.lst false .nil)) .nil)))
      (.cons (.expr (.bm false .append (.slot 2) (.cons (.tup true (.cons (.slot 3) (.cons (.slot 6) (.cons (.slot 7) .nil)))) .nil)))
      .nil)
      .nil)
    .nil))))))
  (.cons (.ret (.slot 2))
  .nil)))
/-- _law_any: state, script, names, lines, gone, new, due, _, line -/
def b9 : Ss :=
  (.cons (.asg (.slot 3) (.call 7 (.cons (.slot 0) (.cons (.slot 1) (.cons (.slot 2) (.cons (.lst false .nil) .nil))))))
  (.cons (.asg (.slot 4) (.lc false [("_", 7)] (.slot 7) (.rng (.cons (.call 2 (.cons (.slot 0) (.cons (.slot 1) (.cons (.cint 3) .nil)))) .nil)) .nil (.call 6 (.cons (.slot 0) (.cons (.slot 1) (.cons (.slot 2) .nil))))))
  (.cons (.setLc 5 (.lc false [("_", 7)] (.slot 7) (.rng (.cons (.call 2 (.cons (.slot 0) (.cons (.slot 1) (.cons (.cint 3) .nil)))) .nil)) .nil (.call 6 (.cons (.slot 0) (.cons (.slot 1) (.cons (.slot 2) .nil))))))
  (.cons (.asg (.slot 6) (.bi false .sorted (.cons (.bin false .add (.lc false [("line", 8)] (.slot 8) (.seq (.slot 3)) (.cons (.cmp .nin (.slot 8) (.slot 4)) .nil) (.slot 8)) (.slot 5)) .nil)))
  (.cons (.ret (.cmp .eq (.bi false .repr (.cons (.call 1 (.cons (.bi false .list (.cons (.slot 3) .nil)) (.cons (.tup true (.cons (.cstr "ann") (.cons (.bi false .list (.cons (.slot 4) .nil)) (.cons (.bi false .list (.cons (.slot 5) .nil)) .nil)))) .nil))) .nil)) (.bi false .repr (.cons (.slot 6) .nil))))
  .nil)))))
/-- law: script, state, names, persons, before, _, after, left, due, kept, told, letter, x, lines, again -/
def b10 : Ss :=
  (.cons (.asg (.slot 1) (.lst true (.cons (.cint 0) (.cons (.cint 0) .nil))))
  (.cons (.asg (.slot 2) (.call 5 (.cons (.slot 1) (.cons (.slot 0) (.cons (.cint 3) .nil)))))
  (.cons (.asg (.slot 3) (.call 5 (.cons (.slot 1) (.cons (.slot 0) (.cons (.cint 5) .nil)))))
  (.cons (.asg (.slot 4) (.dct true .nil))
  (.cons (.for_ (.slot 5) (.rng (.cons (.bin false .add (.cint 1) (.call 2 (.cons (.slot 1) (.cons (.slot 0) (.cons (.cint 5) .nil))))) .nil))
    (.cons (.asg (.slot 6) (.dct true .nil))
    (.cons (.asg (.slot 7) (.bi true .list (.cons (.slot 3) .nil)))
    (.cons (.whl (.cmp .gt (.bi false .len (.cons (.slot 7) .nil)) (.cint 0))
      (.cons (.asg (.slot 12) (.bm false .popAt (.slot 7) (.cons (.call 2 (.cons (.slot 1) (.cons (.slot 0) (.cons (.bi false .len (.cons (.slot 7) .nil)) .nil)))) .nil)))
      (.cons (.ife (.cmp .gt (.call 2 (.cons (.slot 1) (.cons (.slot 0) (.cons (.cint 5) .nil)))) (.cint 0))
        (.cons (.asg (.sub true (.slot 6) (.slot 12)) (.call 7 (.cons (.slot 1) (.cons (.slot 0) (.cons (.slot 2) (.cons (.bm false .get2 (.slot 4) (.cons (.slot 12) (.cons (.lst false .nil) .nil))) .nil))))))
        .nil)
        .nil)
      .nil)))
    (.cons (.asg (.slot 8) (.call 8 (.cons (.slot 4) (.cons (.slot 6) .nil))))
    (.cons (.asg (.slot 9) (.bi false .repr (.cons (.lst false (.cons (.slot 4) (.cons (.slot 6) .nil))) .nil)))
    (.cons (.asg (.slot 10) (.call 0 (.cons (.slot 4) (.cons (.slot 6) .nil))))
    (.cons (.ife (.bop false (.cons (.cmp .ne (.bi false .repr (.cons (.slot 10) .nil)) (.bi false .repr (.cons (.slot 8) .nil))) (.cons (.cmp .ne (.bi false .repr (.cons (.lst false (.cons (.slot 4) (.cons (.slot 6) .nil))) .nil)) (.slot 9)) (.cons (.not (.val (.call 9 (.cons (.slot 1) (.cons (.slot 0) (.cons (.slot 2) .nil)))))) .nil))))
      (.cons (.ret (.cbl false))
      .nil)
      .nil)
    (.cons (.for_ (.slot 11) (.seq (.slot 8))
      (.cons (.asg (.slot 13) (.bm false .get2 (.slot 4) (.cons (.sub (.slot 11) (.cint 0)) (.cons (.lst false .nil) .nil))))
      (.cons (.asg (.slot 14) (.call 1 (.cons (.slot 13) (.cons (.tup true (.cons (.sub (.slot 11) (.cint 0)) (.cons (.bi false .list (.cons (.sub (.slot 11) (.cint 1)) .nil)) (.cons (.bi false .list (.cons (.sub (.slot 11) (.cint 2)) .nil)) .nil)))) .nil))))
      (.cons (.ife (.bop false (.cons (.cmp .ne (.bi false .repr (.cons (.slot 14) .nil)) (.bi false .repr (.cons (.bm false .get2 (.slot 6) (.cons (.sub (.slot 11) (.cint 0)) (.cons (.lst false .nil) .nil))) .nil))) (.cons (.cmp .ne (.bi false .repr (.cons (.lst false (.cons (.slot 4) (.cons (.slot 6) .nil))) .nil)) (.slot 9)) .nil)))
        (.cons (.ret (.cbl false))
        .nil)
        .nil)
      .nil))))
    (.cons (.forL (.slot 11) (.slot 10)
      (.cons (.expr (.bm false .append (.sub (.slot 11) (.cint 1)) (.cons (.tup true (.cons (.cstr "zz") .nil)) .nil)))
      (.cons (.expr (.bm false .append (.sub (.slot 11) (.cint 2)) (.cons (.tup true (.cons (.cstr "zz") .nil)) .nil)))
      .nil)))
    (.cons (.ife (.cmp .ne (.bi false .repr (.cons (.call 0 (.cons (.slot 4) (.cons (.slot 6) .nil))) .nil)) (.bi false .repr (.cons (.slot 8) .nil)))
      (.cons (.ret (.cbl false))
      .nil)
      .nil)
    (.cons (.asg (.slot 4) (.slot 6))
    .nil))))))))))))
  (.cons (.ret (.cbl true))
  .nil))))))
abbrev top (i : Nat) : Stmt := PySem.Challenge.pw_streamrooms_k64_letters.main.body.getD i (.Pass ⟨0, 0, 0, 0⟩)
def free : List Str := ["len", "int", "str", "repr", "list", "sorted", "set", "min", "max", "range"]
def consts : List (Str × P) := []
def r0 : Row := ⟨"letters", top 1, ["before", "after", "told", "person", "old", "new", "gone", "come", "line"], ["before", "after"], ⟨2, 9, b0, 2⟩⟩
def r1 : Row := ⟨"rebuilt", top 2, ["lines", "letter", "line"], ["lines", "letter"], ⟨2, 3, b1, 0⟩⟩
def r2 : Row := ⟨"_law_draw", top 4, ["state", "script", "size", "digit", "cell", "mixed"], ["state", "script", "size"], ⟨3, 6, b2, 0⟩⟩
def r3 : Row := ⟨"_law_pick", top 5, ["state", "script", "items"], ["state", "script", "items"], ⟨3, 3, b3, 0⟩⟩
def r4 : Row := ⟨"_law_name", top 6, ["state", "script", "at", "signs", "name", "_"], ["state", "script", "at"], ⟨3, 6, b4, 0⟩⟩
def r5 : Row := ⟨"_law_names", top 7, ["state", "script", "many", "names", "at"], ["state", "script", "many"], ⟨3, 5, b5, 0⟩⟩
def r6 : Row := ⟨"_law_line", top 9, ["state", "script", "names", "p", "x", "k", "lines"], ["state", "script", "names"], ⟨3, 7, b6, 0⟩⟩
def r7 : Row := ⟨"_law_turned", top 10, ["state", "script", "names", "lines", "found", "keep", "line", "_"], ["state", "script", "names", "lines"], ⟨4, 8, b7, 0⟩⟩
def r8 : Row := ⟨"_law_letters", top 11, ["before", "after", "due", "x", "old", "new", "gone", "come", "line"], ["before", "after"], ⟨2, 9, b8, 0⟩⟩
def r9 : Row := ⟨"_law_any", top 12, ["state", "script", "names", "lines", "gone", "new", "due", "_", "line"], ["state", "script", "names"], ⟨3, 9, b9, 0⟩⟩
def r10 : Row := ⟨"law", top 13, ["script", "state", "names", "persons", "before", "_", "after", "left", "due", "kept", "told", "letter", "x", "lines", "again"], ["script"], ⟨1, 15, b10, 0⟩⟩
def rows : List Row := [r0, r1, r2, r3, r4, r5, r6, r7, r8, r9, r10]
def tb : Tb := ⟨["letters", "rebuilt", "_law_draw", "_law_pick", "_law_name", "_law_names", "_law_line", "_law_turned", "_law_letters", "_law_any", "law"], [], free⟩
theorem tb_eq : tbY rows consts free = tb := rfl
theorem c0 : cSs tb ⟨r0.N, defScope r0.st, none⟩ r0.fd.body (defBody r0.st) = true := by decide +kernel
theorem o0 : r0.Ok tb := ⟨by decide +kernel, rfl, rfl, c0, fun _ _ _ _ _ _ us hl => match us, hl with | [_, _], _ => rfl⟩
theorem c1 : cSs tb ⟨r1.N, defScope r1.st, none⟩ r1.fd.body (defBody r1.st) = true := by decide +kernel
theorem o1 : r1.Ok tb := ⟨by decide +kernel, rfl, rfl, c1, fun _ _ _ _ _ _ us hl => match us, hl with | [_, _], _ => rfl⟩
theorem c2 : cSs tb ⟨r2.N, defScope r2.st, none⟩ r2.fd.body (defBody r2.st) = true := by decide +kernel
theorem o2 : r2.Ok tb := ⟨by decide +kernel, rfl, rfl, c2, fun _ _ _ _ _ _ us hl => match us, hl with | [_, _, _], _ => rfl⟩
theorem c3 : cSs tb ⟨r3.N, defScope r3.st, none⟩ r3.fd.body (defBody r3.st) = true := by decide +kernel
theorem o3 : r3.Ok tb := ⟨by decide +kernel, rfl, rfl, c3, fun _ _ _ _ _ _ us hl => match us, hl with | [_, _, _], _ => rfl⟩
theorem c4 : cSs tb ⟨r4.N, defScope r4.st, none⟩ r4.fd.body (defBody r4.st) = true := by decide +kernel
theorem o4 : r4.Ok tb := ⟨by decide +kernel, rfl, rfl, c4, fun _ _ _ _ _ _ us hl => match us, hl with | [_, _, _], _ => rfl⟩
theorem c5 : cSs tb ⟨r5.N, defScope r5.st, none⟩ r5.fd.body (defBody r5.st) = true := by decide +kernel
theorem o5 : r5.Ok tb := ⟨by decide +kernel, rfl, rfl, c5, fun _ _ _ _ _ _ us hl => match us, hl with | [_, _, _], _ => rfl⟩
theorem c6 : cSs tb ⟨r6.N, defScope r6.st, none⟩ r6.fd.body (defBody r6.st) = true := by decide +kernel
theorem o6 : r6.Ok tb := ⟨by decide +kernel, rfl, rfl, c6, fun _ _ _ _ _ _ us hl => match us, hl with | [_, _, _], _ => rfl⟩
theorem c7 : cSs tb ⟨r7.N, defScope r7.st, none⟩ r7.fd.body (defBody r7.st) = true := by decide +kernel
theorem o7 : r7.Ok tb := ⟨by decide +kernel, rfl, rfl, c7, fun _ _ _ _ _ _ us hl => match us, hl with | [_, _, _, _], _ => rfl⟩
theorem c8 : cSs tb ⟨r8.N, defScope r8.st, none⟩ r8.fd.body (defBody r8.st) = true := by decide +kernel
theorem o8 : r8.Ok tb := ⟨by decide +kernel, rfl, rfl, c8, fun _ _ _ _ _ _ us hl => match us, hl with | [_, _], _ => rfl⟩
theorem c9 : cSs tb ⟨r9.N, defScope r9.st, none⟩ r9.fd.body (defBody r9.st) = true := by decide +kernel
theorem o9 : r9.Ok tb := ⟨by decide +kernel, rfl, rfl, c9, fun _ _ _ _ _ _ us hl => match us, hl with | [_, _, _], _ => rfl⟩
theorem c10 : cSs tb ⟨r10.N, defScope r10.st, none⟩ r10.fd.body (defBody r10.st) = true := by decide +kernel
theorem o10 : r10.Ok tb := ⟨by decide +kernel, rfl, rfl, c10, fun _ _ _ _ _ _ us hl => match us, hl with | [_], _ => rfl⟩
theorem oks : ∀ r ∈ rows, r.Ok (tbY rows consts free) := by
  rw [tb_eq]
  intro r hr
  simp only [rows, List.mem_cons, List.not_mem_nil, or_false] at hr
  rcases hr with rfl | rfl | rfl | rfl | rfl | rfl | rfl | rfl | rfl | rfl | rfl
  · exact o0
  · exact o1
  · exact o2
  · exact o3
  · exact o4
  · exact o5
  · exact o6
  · exact o7
  · exact o8
  · exact o9
  · exact o10
abbrev R : PySem.W.OpenRow := PySem.W.OpenLaw.row PySem.Challenge.rw_streamrooms_k64_letters
abbrev hk : PySem.W.Hook := hookY 4 (faY rows consts free) (fnY rows)
def ob (s : PySem.W.SharedT) : AlY := obsY 4 (faY rows consts free) (fnY rows) (HandSHeadRun.getT s)
theorem ob_eq (s : PySem.W.SharedT) : ob s = hk.obs s.abs := obsY_eq (HandSHeadRun.getT_eq s)
theorem run (w : World) : HandSHeadRun.RunEq R (PySem.W.view R.prog [13]) hk ob 1000 ["letters", "rebuilt", "_law_draw", "_law_pick", "_law_name", "_law_names", "_law_some", "_law_line", "_law_turned", "_law_letters", "_law_any"] w := by
  intro os
  kernel_rfl
abbrev fLaw : Nat := 10
/-- what is left: the answer at every script -/
def Ev (k : Nat) : Prop := ∃ (cad : En) (cls : List Cd) (wf : Nat), ∀ zs : List Int, zs.length ≤ 63 → ∃ st', runF (tblY rows) (lv (tblY rows) cls (glY consts) cad.ct wf k) fLaw [.pu (.lst (zs.map P.int))] [] = some (.pu (.bl true), st')
end Y.K64
open PySem PySem.W PySem.Calls PyProof.Rows
namespace Y.K64
abbrev R0 : PySem.W.OpenRow := OpenLaw.row PySem.Challenge.rw_streamrooms_k64_letters
theorem t3 : PySem.W.defOf (PySem.W.view (OpenLaw.row PySem.Challenge.rw_streamrooms_k64_letters).prog [13]) (OpenLaw.row PySem.Challenge.rw_streamrooms_k64_letters).name = some (HandSHeadRun.topDef (OpenLaw.row PySem.Challenge.rw_streamrooms_k64_letters).prog 13, []) := by kernel_rfl
theorem t4 : opening (OpenLaw.row PySem.Challenge.rw_streamrooms_k64_letters).prog = plainProg (OpenLaw.row PySem.Challenge.rw_streamrooms_k64_letters).prog.main.scope.names := by kernel_rfl
theorem t5 : ∀ s, fenceModules? (OpenLaw.row PySem.Challenge.rw_streamrooms_k64_letters).prog s = some s := fun s => by kernel_rfl
theorem t6 : (OpenLaw.row PySem.Challenge.rw_streamrooms_k64_letters).prog.theDef (OpenLaw.row PySem.Challenge.rw_streamrooms_k64_letters).name = some ((HandSHeadRun.topDef (OpenLaw.row PySem.Challenge.rw_streamrooms_k64_letters).prog 13).params, (HandSHeadRun.topDef (OpenLaw.row PySem.Challenge.rw_streamrooms_k64_letters).prog 13).body, (HandSHeadRun.topDef (OpenLaw.row PySem.Challenge.rw_streamrooms_k64_letters).prog 13).scope) := by kernel_rfl
theorem t7 : kwWritten? (HandSHeadRun.topDef (OpenLaw.row PySem.Challenge.rw_streamrooms_k64_letters).prog 13).params.kwonlyargs (HandSHeadRun.topDef (OpenLaw.row PySem.Challenge.rw_streamrooms_k64_letters).prog 13).params.kw_defaults = some [] := by kernel_rfl
theorem t8 : (HandSHeadRun.topDef (OpenLaw.row PySem.Challenge.rw_streamrooms_k64_letters).prog 13).params.defaults = [] := by kernel_rfl
theorem t9 : (HandSHeadRun.topDef (OpenLaw.row PySem.Challenge.rw_streamrooms_k64_letters).prog 13).name = ("law" : PySem.Str) := by kernel_rfl
theorem t10 : (tbY rows consts free).fns[fLaw]? = some ("law" : PySem.Str) := by kernel_rfl
theorem walk {k : Nat} (hr : L2.Room (k + 1) callerA) (ev : Y.K64.Ev k) : WalkO (PySem.W.view (OpenLaw.row PySem.Challenge.rw_streamrooms_k64_letters).prog [13]) ["letters", "rebuilt", "_law_draw", "_law_pick", "_law_name", "_law_names", "_law_some", "_law_line", "_law_turned", "_law_letters", "_law_any"] (XL (PySem.W.view (OpenLaw.row PySem.Challenge.rw_streamrooms_k64_letters).prog [13]) []) Y.K64.hk.says (OpenLaw.row PySem.Challenge.rw_streamrooms_k64_letters).toRowW (HandSHeadRun.topDef (OpenLaw.row PySem.Challenge.rw_streamrooms_k64_letters).prog 13) [] fun f vs => PySem.call f vs := by
  obtain ⟨cad, cls, wf, ev⟩ := ev
  refine Y.walk_ofY (l := PySem.Challenge.rw_streamrooms_k64_letters) (n := 63) (k := k) (f := Y.K64.fLaw) rfl (by decide) t8 hr ?F
  intro w mg fa h Z G hmg0
  obtain ⟨K, KX, c, sm⟩ := Z
  have wo : Y.Wo cad (Y.tbY Y.K64.rows Y.K64.consts Y.K64.free) (Y.tblY Y.K64.rows) (Y.glY Y.K64.consts) K mg := Y.wo_rows KX G c sm rfl Y.K64.oks
  rw [t9] at hmg0
  obtain ⟨fd, a, h1, h2⟩ := wo.fns Y.K64.fLaw "law" t10
  have e := hmg0.symm.trans h2.mgf
  cases e
  refine ⟨K, cad, tbY rows consts free, tblY rows, cls, glY consts, wf, fd, "law", KX, wo, h1, h2, ?_⟩
  exact ev
end Y.K64
theorem Y.K64.holds_of {k : Nat} (hr : L2.Room (k + 1) callerA) (ev : Y.K64.Ev k) : PySem.Challenge.rw_streamrooms_k64_letters.Holds := by
  have wk := Y.K64.walk hr ev
  clear ev hr
  w_on; o_law
  have z := @HandSHeadRun.head_any (OpenLaw.row PySem.Challenge.rw_streamrooms_k64_letters) (PySem.W.view (OpenLaw.row PySem.Challenge.rw_streamrooms_k64_letters).prog [13]) Y.K64.hk Y.K64.ob 1000 ["letters", "rebuilt", "_law_draw", "_law_pick", "_law_name", "_law_names", "_law_some", "_law_line", "_law_turned", "_law_letters", "_law_any"] (HandSHeadRun.topDef (OpenLaw.row PySem.Challenge.rw_streamrooms_k64_letters).prog 13) [] Y.K64.ob_eq Y.K64.t4 Y.K64.t5 Y.K64.run Y.K64.t3 Y.K64.t6 Y.K64.t7
  refine z rfl ?b ?c ?d ?hw wk
  case b => assumption
  case c => decide +kernel
  case d => exact ⟨rfl, rfl, rfl, rfl, rfl, by decide +kernel⟩
  case hw => w_witness2

set_option linter.all false
set_option maxRecDepth 100000
set_option Elab.async false
/-! K64p: the plain law of k64: lines and their order. -/
namespace Y.Pl
open PySem
inductive Arg where | s (z : Str) | i (n : Nat) | t (ns : List Nat)
  deriving DecidableEq
def Arg.kind : Arg → Nat
  | .s _ => 0
  | .i _ => 1
  | .t _ => 2
def aP : Arg → P
  | .s z => .str z
  | .i n => .int n
  | .t ns => .tup (ns.map fun n => .int (n : Nat))
def encA : Arg → List Nat
  | .s z => z.cps.toList
  | .i n => [n]
  | .t ns => ns
def tabs : List (Str × List Nat) := [("accepted", [0]), ("seat", [0]), ("come", [0, 1]), ("scores", [0, 2]), ("talk", [0, 1, 0]), ("told", [0, 0]), ("away", [1]), ("wrote", [0, 0, 1]), ("paper", [0, 0, 0]), ("review", [0, 1])]
def ArgOk : Arg → Prop
  | .s z => alp z ∧ z.length ≤ 12
  | .i n => n < 2048
  | .t ns => ns.length ≤ 3 ∧ ∀ n ∈ ns, n < 2048
structure LnOk (x : Str × List Arg) : Prop where
  tb : (x.1, x.2.map Arg.kind) ∈ tabs
  ok : ∀ a ∈ x.2, ArgOk a
abbrev Line : Type := { x : Str × List Arg // LnOk x }
def lP (l : Line) : P := .tup (.str l.1.1 :: l.1.2.map aP)
def encL (l : Line) : List (List Nat) := l.1.1.cps.toList :: l.1.2.map encA
def ltLn (a b : Line) : Bool := decide (encL a < encL b)
theorem lt_cons {β : Type} [LT β] {a b : β} {as bs : List β} : a :: as < b :: bs ↔ a < b ∨ a = b ∧ as < bs := List.cons_lt_cons_iff
theorem ints_eqv : ∀ (ns ms : List Nat), eqvL (ns.map fun n => .int (n : Nat)) (ms.map fun n => .int (n : Nat)) = decide (ns = ms)
  | [], [] => rfl
  | [], _ :: _ => rfl
  | _ :: _, [] => rfl
  | n :: ns, m :: ms => by
    rw [List.map_cons, List.map_cons, eqvL, eqv, ints_eqv ns ms]
    by_cases h : n = m
    · subst h; simp
    · have : ((n : Int) == (m : Int)) = false := by simp; omega
      rw [this]; simp [h]
theorem ints_lt : ∀ (ns ms : List Nat), ltL (ns.map fun n => .int (n : Nat)) (ms.map fun n => .int (n : Nat)) = decide (ns < ms)
  | [], [] => rfl
  | [], _ :: _ => rfl
  | _ :: _, [] => rfl
  | n :: ns, m :: ms => by
    rw [List.map_cons, List.map_cons, ltL, eqv, ints_lt ns ms, ltP]
    by_cases h : n = m
    · subst h; simp [lt_cons]
    · have : ((n : Int) == (m : Int)) = false := by simp; omega
      rw [this]
      simp only [Bool.false_eq_true, if_false]
      have : ((n : Int) < (m : Int)) ↔ n :: ns < m :: ms := by rw [lt_cons]; constructor <;> intro h2 <;> omega
      exact decide_eq_decide.mpr this
theorem ints_cmp : ∀ (ns ms : List Nat), cmpL (ns.map fun n => .int (n : Nat)) (ms.map fun n => .int (n : Nat)) = true
  | [], _ => by rw [List.map_nil, cmpL]
  | _ :: _, [] => by rw [List.map_cons, List.map_nil, cmpL]; intro h; cases h
  | n :: ns, m :: ms => by
    rw [List.map_cons, List.map_cons, cmpL, ints_cmp ns ms, cmpb, ite_self]
theorem arg_eqv (a b : Arg) : eqv (aP a) (aP b) = decide (a = b) := by
  cases a <;> cases b <;> simp only [aP, eqv, reduceCtorEq, decide_false, Arg.s.injEq, Arg.i.injEq, Arg.t.injEq, ints_eqv]
  · rename_i x y
    by_cases h : x = y <;> simp [h]
  · rename_i x y
    by_cases h : x = y
    · subst h; simp
    · rw [decide_eq_false h]; simp; omega
theorem encA_inj {a b : Arg} (hk : a.kind = b.kind) (h : encA a = encA b) : a = b := by
  cases a <;> cases b <;> simp only [Arg.kind] at hk <;> first | (cases hk; done) | skip
  · simp only [encA] at h
    rw [str_ext h]
  · simp only [encA, List.cons.injEq, and_true] at h
    rw [h]
  · simp only [encA] at h
    rw [h]
theorem arg_lt {a b : Arg} (hk : a.kind = b.kind) : ltP (aP a) (aP b) = decide (encA a < encA b) := by
  cases a <;> cases b <;> simp only [Arg.kind] at hk <;> first | (cases hk; done) | skip
  · rfl
  · rename_i n m
    simp only [aP, ltP, encA]
    have : ((n : Int) < (m : Int)) ↔ ([n] < [m]) := by rw [lt_cons]; simp
    exact decide_eq_decide.mpr this
  · simp only [aP, ltP, encA, ints_lt]
    exact decide_eq_decide.mpr Iff.rfl
theorem arg_cmp {a b : Arg} (hk : a.kind = b.kind) : cmpb (aP a) (aP b) = true := by
  cases a <;> cases b <;> simp only [Arg.kind] at hk <;> first | (cases hk; done) | skip
  · rfl
  · rfl
  · simp only [aP, cmpb, ints_cmp]
theorem args_eqv : ∀ (as bs : List Arg), eqvL (as.map aP) (bs.map aP) = decide (as = bs)
  | [], [] => rfl
  | [], _ :: _ => rfl
  | _ :: _, [] => rfl
  | a :: as, b :: bs => by
    rw [List.map_cons, List.map_cons, eqvL, arg_eqv, args_eqv as bs]
    by_cases h : a = b <;> simp [h]
theorem args_lt : ∀ {as bs : List Arg}, as.map Arg.kind = bs.map Arg.kind → ltL (as.map aP) (bs.map aP) = decide (as.map encA < bs.map encA)
  | [], [], _ => rfl
  | [], _ :: _, h => by cases h
  | _ :: _, [], h => by cases h
  | a :: as, b :: bs, h => by
    rw [List.map_cons, List.map_cons, List.cons.injEq] at h
    rw [List.map_cons, List.map_cons, ltL, arg_eqv, args_lt h.2, arg_lt h.1, List.map_cons, List.map_cons]
    by_cases e : a = b
    · subst e
      rw [decide_eq_true rfl, if_pos rfl]
      refine decide_eq_decide.mpr ?_
      rw [lt_cons]
      exact ⟨fun z => .inr ⟨rfl, z⟩, fun z => z.elim (fun z => absurd z (List.lt_irrefl _)) (·.2)⟩
    · rw [decide_eq_false e, if_neg Bool.false_ne_true]
      refine decide_eq_decide.mpr ?_
      rw [lt_cons]
      exact ⟨.inl, fun z => z.elim id fun z => absurd (encA_inj h.1 z.1) e⟩
theorem args_cmp : ∀ {as bs : List Arg}, as.map Arg.kind = bs.map Arg.kind → cmpL (as.map aP) (bs.map aP) = true
  | [], [], _ => rfl
  | [], _ :: _, h => by cases h
  | _ :: _, [], h => by cases h
  | a :: as, b :: bs, h => by
    rw [List.map_cons, List.map_cons, List.cons.injEq] at h
    rw [List.map_cons, List.map_cons, cmpL, args_cmp h.2, arg_cmp h.1, ite_self]
theorem kind_of {x y : Str × List Arg} (hx : LnOk x) (hy : LnOk y) (h : x.1 = y.1) : x.2.map Arg.kind = y.2.map Arg.kind := by
  have : ∀ p ∈ tabs, ∀ q ∈ tabs, p.1 = q.1 → p.2 = q.2 := by decide +kernel
  exact this _ hx.tb _ hy.tb h
theorem encA_map : ∀ {as bs : List Arg}, as.map Arg.kind = bs.map Arg.kind → as.map encA = bs.map encA → as = bs
  | [], [], _, _ => rfl
  | [], _ :: _, h, _ => by cases h
  | _ :: _, [], h, _ => by cases h
  | a :: as, b :: bs, h, e => by
    rw [List.map_cons, List.map_cons, List.cons.injEq] at h e
    rw [encA_inj h.1 e.1, encA_map h.2 e.2]
theorem encL_inj {a b : Line} (h : encL a = encL b) : a = b := by
  unfold encL at h
  rw [List.cons.injEq] at h
  have h1 : a.1.1 = b.1.1 := str_ext h.1
  have h2 := encA_map (kind_of a.2 b.2 h1) h.2
  exact Subtype.ext (Prod.ext h1 h2)
theorem plain_ints : ∀ ns : List Nat, plainL (ns.map fun n => .int (n : Nat)) = true ∧ depthL (ns.map fun n => .int (n : Nat)) = 0
  | [] => ⟨rfl, rfl⟩
  | n :: ns => by
    obtain ⟨h1, h2⟩ := plain_ints ns
    rw [List.map_cons, plainL, plain, depthL, depth, h1, h2] <;> simp
theorem plain_arg (a : Arg) : plain (aP a) = true ∧ depth (aP a) ≤ 1 := by
  cases a with
  | s z => exact ⟨rfl, Nat.zero_le _⟩
  | i n => exact ⟨rfl, Nat.zero_le _⟩
  | t ns =>
    obtain ⟨h1, h2⟩ := plain_ints ns
    simp only [aP, plain, depth, h1, h2]
    exact ⟨trivial, Nat.le_refl _⟩
theorem plain_args : ∀ as : List Arg, plainL (as.map aP) = true ∧ depthL (as.map aP) ≤ 1
  | [] => ⟨rfl, Nat.zero_le _⟩
  | a :: as => by
    obtain ⟨h1, h2⟩ := plain_args as
    obtain ⟨h3, h4⟩ := plain_arg a
    rw [List.map_cons, plainL, depthL, h1, h3]
    exact ⟨rfl, Nat.max_le.mpr ⟨h4, h2⟩⟩
theorem ksL : Ks lP ltLn where
  ok := fun a => by
    obtain ⟨h1, h2⟩ := plain_args a.1.2
    unfold lP
    rw [plain, plainL, depth, depthL, h1, plain, depth] <;> first | (intros; contradiction) | skip
    refine ⟨rfl, ?_⟩
    omega
  eq := fun a b => by
    unfold lP
    rw [eqv, eqvL, args_eqv, eqv]
    by_cases h : a = b
    · subst h; simp
    · rw [decide_eq_false h]
      by_cases h1 : a.1.1 = b.1.1
      · have : a.1.2 ≠ b.1.2 := fun h2 => h (Subtype.ext (Prod.ext h1 h2))
        simp [this]
      · simp [h1]
  o := {
    as := fun a b h => decide_eq_false (fun h2 => List.lt_irrefl _ (List.lt_trans (of_decide_eq_true h) h2))
    tr := fun a b c h1 h2 => by
      have h1 := of_decide_eq_false h1
      have h2 := of_decide_eq_false h2
      exact decide_eq_false (List.not_lt.mpr (List.le_trans (List.not_lt.mp h1) (List.not_lt.mp h2)))
    eq := fun a b h1 h2 => by
      have h1 := of_decide_eq_false h1
      have h2 := of_decide_eq_false h2
      exact encL_inj (List.le_antisymm (List.not_lt.mp h2) (List.not_lt.mp h1)) }
  lt_ := fun a b => by
    show ltL (.str a.1.1 :: a.1.2.map aP) (.str b.1.1 :: b.1.2.map aP) = decide (encL a < encL b)
    rw [ltL]
    by_cases h1 : a.1.1 = b.1.1
    · rw [show eqv (.str a.1.1) (.str b.1.1) = true by rw [eqv_str, decide_eq_true h1], if_pos rfl, args_lt (kind_of a.2 b.2 h1)]
      refine decide_eq_decide.mpr ?_
      unfold encL
      rw [lt_cons, h1]
      exact ⟨fun z => .inr ⟨rfl, z⟩, fun z => z.elim (fun z => absurd z (List.lt_irrefl _)) (·.2)⟩
    · rw [show eqv (.str a.1.1) (.str b.1.1) = false by rw [eqv_str, decide_eq_false h1], if_neg Bool.false_ne_true, ltP_str]
      refine decide_eq_decide.mpr ?_
      unfold encL
      rw [lt_cons]
      exact ⟨.inl, fun z => z.elim id fun z => absurd (str_ext z.1) h1⟩
  cmp := fun a b => by
    show cmpL (.str a.1.1 :: a.1.2.map aP) (.str b.1.1 :: b.1.2.map aP) = true
    rw [cmpL]
    by_cases h1 : a.1.1 = b.1.1
    · rw [show eqv (.str a.1.1) (.str b.1.1) = true by rw [eqv_str, decide_eq_true h1], if_pos rfl, args_cmp (kind_of a.2 b.2 h1)]
    · rw [show eqv (.str a.1.1) (.str b.1.1) = false by rw [eqv_str, decide_eq_false h1], if_neg Bool.false_ne_true]
      rfl
  fst := fun a => rfl
end Y.Pl

set_option linter.all false
set_option maxRecDepth 100000
set_option Elab.async false
/-! K64q: the plain law of k64: functions that draw. -/
namespace Y.Pl
open PySem
section
variable {cls : List Cd} {gl : Nat → Option P} {ct : List Key → Bool} {wf k : Nat} {zs : List Int}
abbrev C64 (cls : List Cd) (gl : Nat → Option P) (ct : List Key → Bool) (wf k : Nat) : Cfg := lv (tblY K64.rows) cls gl ct wf k
def Nm (z : Str) : Prop := alp z ∧ z.length ≤ 12
local macro_rules | `(tactic| decreasing_trivial_pre_omega) => `(tactic| simp only [wss_nil, nxt_nx, nxt_rt, nxt_ct, lp_nx, lp_ct, lp_rt, ws_asg, ws_expr, ws_ret, ws_ife, ws_setLc, ws_for, wt_val, wt_cmp, wt_bop, wb_cons, wb_one, we_int, we_str, we_bl, we_non, we_bin, we_cmp, we_sub, we_bi, we_call, we_lc, we_dct, we_negc, we_slc, we_ife, wo_none, wo_some, view_int, Vw.int.injEq, wkv_nil, wkv_cons, wes_cons, wes_nil, wts_nil, wts_one, w_lcF, we_slot, we_tup, we_lst, we_bm, wg_slot, wg_sub, wg_tupt, wg_tupl, wgs_nil, wgs_cons, W_some, wi_seq, seqI_lst, seqI_tup, slc_pu, slc_put, List.getElem?_cons_zero, List.getElem?_cons_succ, List.set_cons_zero, List.set_cons_succ, List.length_cons, List.length_nil, List.map_cons, List.map_nil, List.cons_append, List.nil_append, List.replicate, Option.some.injEq, exists_eq_left', b_add, b_sub, c_eq, c_lt, c_gt, c_ge, c_eqs, c_eqss, c_notN, in_strs, in_strt, bi_int, bi_len, s_lst, s_tup, mkT0, mkT1, mkT2, mkT3, mkT4, mkT5, mkT6, mkL0, mkL1, mkL2, mkL3, mkL4, mkL10, mkLt, wipeE, Option.map_some, Bool.false_eq_true, Bool.true_eq_false, true_implies, false_implies, and_true, ↓reduceIte, SZ, Nat.reduceAdd, Nat.reduceLT, Nat.reduceLeDiff, true_and])
local macro_rules | `(tactic| decreasing_trivial) => `(tactic| (refine wss_cons.mpr ?_; decreasing_trivial_pre_omega))
theorem mkL7 {st : Store} {p1 p2 p3 p4 p5 p6 p7 : P} : mkL false [.pu p1, .pu p2, .pu p3, .pu p4, .pu p5, .pu p6, .pu p7] st = some (.pu (.lst [p1, p2, p3, p4, p5, p6, p7]), st) := rfl
theorem bi_min2s {o : Bool} {st : Store} {a b : Str} : bi o .min2 [.pu (.str a), .pu (.str b)] st = some (.pu (.str (if b.cps.toList < a.cps.toList then b else a)), st) := rfl
theorem bi_max2s {o : Bool} {st : Store} {a b : Str} : bi o .max2 [.pu (.str a), .pu (.str b)] st = some (.pu (.str (if a.cps.toList < b.cps.toList then b else a)), st) := rfl
theorem ln_of {t : Str} {as : List Arg} (ks : List Nat) (h0 : as.map Arg.kind = ks) (h1 : (t, ks) ∈ tabs) (h2 : ∀ a ∈ as, ArgOk a) : ∃ l : Line, P.tup (.str t :: as.map aP) = lP l := ⟨⟨(t, as), by rw [h0]; exact h1, h2⟩, rfl⟩
theorem sp_line {xs : List Str} (h0 : 0 < xs.length) (h1 : xs.length < 1000) (h2 : ∀ x ∈ xs, Nm x) : Sp (C64 cls gl ct wf (k + 3)) 6 [scr zs, .pu (.lst (xs.map .str))] (fun p => ∃ l : Line, p = lP l) := by
  refine sp_of (fd := ⟨3, 7, K64.b6, 0⟩) rfl rfl rfl fun st0 n s B g => ?_
  unfold K64.b6
  have pk : ∀ {ps : List P}, 0 < ps.length → ps.length < 1000 → Sp (C64 cls gl ct wf (k + 2)) 3 [scr zs, .pu (.lst ps)] (fun p => p ∈ ps) := fun a b => sp_pick (dr := 2) rfl rfl a b
  decreasing_trivial
  refine sp_use0 (pk (by rw [List.length_map]; exact h0) (by rw [List.length_map]; exact h1)) B g ?_
  rintro _ s1 hp g1
  obtain ⟨p, hp', rfl⟩ := List.mem_map.mp hp
  clear hp
  decreasing_trivial
  refine sp_use0 (pk (by rw [List.length_map]; exact h0) (by rw [List.length_map]; exact h1)) B g1 ?_
  rintro _ s2 hx g2
  obtain ⟨x, hx', rfl⟩ := List.mem_map.mp hx
  clear hx
  decreasing_trivial
  refine sp_use0 (sp_draw (dr := 2) rfl (by decide) (by decide)) B g2 ?_
  rintro _ s3 ⟨d, rfl, d0, d1⟩ g3
  obtain ⟨d, rfl⟩ := Int.eq_ofNat_of_zero_le d0
  have hc : ∃ ns : List Nat, cut [P.int (d : Nat), .int 5, .int 7] none (some ((d : Nat) + 1)) = ns.map (fun n => P.int (n : Nat)) ∧ ns.length ≤ 3 ∧ ∀ n ∈ ns, n < 2048 := by
    have : d = 0 ∨ d = 1 ∨ d = 2 := by omega
    rcases this with rfl | rfl | rfl
    · exact ⟨[0], rfl, by decide, by decide⟩
    · exact ⟨[1, 5], rfl, by decide, by decide⟩
    · exact ⟨[2, 5, 7], rfl, by decide, by decide⟩
  obtain ⟨ns, hns, hn1, hn2⟩ := hc
  have hd : d < 3 := by omega
  decreasing_trivial
  rw [hns, mkL7, W_some]
  decreasing_trivial
  rw [bi_min2s, W_some, bi_max2s, W_some]
  generalize hmn : (if x.cps.toList < p.cps.toList then x else p) = mn
  generalize hmx : (if p.cps.toList < x.cps.toList then x else p) = mx
  have emn : Nm mn := by rw [← hmn]; split <;> first | exact h2 _ hx' | exact h2 _ hp'
  have emx : Nm mx := by rw [← hmx]; split <;> first | exact h2 _ hx' | exact h2 _ hp'
  decreasing_trivial_pre_omega
  rw [b_addl (by simp only [List.length_cons, List.length_nil]; unfold SZ; omega), W_some]
  refine sp_use0 (pk (by simp) (by simp)) B g3 ?_
  rintro q s4 hq g4
  refine ⟨_, s4, [], rfl, (List.append_nil _).symm, g4, q, rfl, ?_⟩
  simp only [List.cons_append, List.nil_append, List.mem_cons, List.not_mem_nil, or_false] at hq
  have hP : ArgOk (.s p) := h2 _ hp'
  have hX : ArgOk (.s x) := h2 _ hx'
  have hD : ArgOk (.i d) := by show d < 2048; omega
  have hT : ArgOk (.t ns) := ⟨hn1, hn2⟩
  have hN : ArgOk (.s "nets") := ⟨fun c hc => by revert c; decide +kernel, by decide +kernel⟩
  have hM : ArgOk (.i (2000 + d)) := by show 2000 + d < 2048; omega
  have eM : (2000 + (d : Int)) = ((2000 + d : Nat) : Int) := by omega
  rcases hq with rfl | rfl | rfl | rfl | rfl | rfl | rfl | rfl | rfl | rfl
  · exact ln_of (as := [.s p]) [0] rfl (by decide +kernel) (by simp [hP])
  · exact ln_of (as := [.s p]) [0] rfl (by decide +kernel) (by simp [hP])
  · exact ln_of (as := [.s p, .i d]) [0, 1] rfl (by decide +kernel) (by simp [hP, hD])
  · exact ln_of (as := [.s p, .t ns]) [0, 2] rfl (by decide +kernel) (by simp [hP, hT])
  · exact ln_of (as := [.s p, .i d, .s x]) [0, 1, 0] rfl (by decide +kernel) (by simp [hP, hD, hX])
  · exact ln_of (as := [.s x, .s p]) [0, 0] rfl (by decide +kernel) (by simp [hP, hX])
  · exact ln_of (as := [.i d]) [1] rfl (by decide +kernel) (by simp [hD])
  · rw [eM]; exact ln_of (as := [.s mn, .s mx, .i (2000 + d)]) [0, 0, 1] rfl (by decide +kernel) (by simp only [List.mem_cons, List.not_mem_nil, or_false]; rintro a (rfl | rfl | rfl); exact emn; exact emx; exact hM)
  · exact ln_of (as := [.s p, .s x, .s "nets"]) [0, 0, 0] rfl (by decide +kernel) (by simp only [List.mem_cons, List.not_mem_nil, or_false]; rintro a (rfl | rfl | rfl); exact hP; exact hX; exact hN)
  · exact ln_of (as := [.s p, .i d]) [0, 1] rfl (by decide +kernel) (by simp [hP, hD])
theorem nodup_snoc {α : Type} {fs : List α} {x : α} (h : fs.Nodup) (hx : x ∉ fs) : (fs ++ [x]).Nodup := by
  rw [List.nodup_append]
  refine ⟨h, by simp, ?_⟩
  intro a ha b hb e
  rw [List.mem_singleton] at hb
  exact hx (hb ▸ e ▸ ha)
theorem sp_turned {xs : List Str} {ls : List Line} (h0 : 0 < xs.length) (h1 : xs.length < 1000) (h2 : ∀ x ∈ xs, Nm x) (h3 : ls.Nodup) (h4 : ls.length ≤ 1000) : Sp (C64 cls gl ct wf (k + 4)) 7 [scr zs, .pu (.lst (xs.map .str)), .pu (.lst (ls.map lP))] (fun p => ∃ ms : List Line, p = .lst ((srt ltLn ms).map lP) ∧ ms.Nodup ∧ ms.length ≤ ls.length + 3) := by
  refine sp_of (fd := ⟨4, 8, K64.b7, 0⟩) rfl rfl rfl fun st0 n s B g => ?_
  unfold K64.b7
  decreasing_trivial
  decreasing_trivial
  rw [g.len]
  refine sp_use (sp_draw (dr := 2) rfl (by decide) (by decide)) B g (by rw [List.all_cons, blwC_nil]; rfl) ?_
  rintro _ s1 ⟨d, rfl, d0, d1⟩ g1
  decreasing_trivial_pre_omega
  decreasing_trivial
  rw [List.map_map]
  refine for_g (fun ds e t => ∃ (fs : List Line) (s' : Store) (x6 : Option Val), fs.Nodup ∧ (∀ f ∈ fs, f ∈ ds) ∧ fs.length ≤ ds.length ∧ Gd st0 n s' ∧ t = s' ++ [.lst ((fs.map lP).map .pu)] ∧ e = [some (.cell n), some (scr zs), some (.pu (.lst (xs.map .str))), some (.pu (.lst (ls.map lP))), some (.cell st0.length), some (.pu (.int d)), x6, none]) ⟨[], s1, none, List.nodup_nil, by simp, Nat.le_refl _, g1, rfl, rfl⟩ ?_ ?_
  · rintro e t ⟨fs, s', x6, f1, _, f2, g', rfl, rfl⟩
    decreasing_trivial_pre_omega
    have tail : ∀ (fs : List Line) (s' : Store) (x6 x7 : Option Val), fs.Nodup → fs.length ≤ ls.length + 3 → Gd st0 n s' → WSs (lv (tblY K64.rows) cls gl ct wf (k + 3)) (.cons (.ret (.bi false .sorted (.cons (.slot 4) .nil))) .nil) [some (.cell n), some (scr zs), some (.pu (.lst (xs.map .str))), some (.pu (.lst (ls.map lP))), some (.cell st0.length), some (.pu (.int d)), x6, x7] (s' ++ [.lst ((fs.map lP).map .pu)]) fun fl _ t => ∃ v s' l, fl = Fl.rt v ∧ t = s' ++ l ∧ Gd st0 n s' ∧ ∃ p, toP s'.length t FU v = some p ∧ ∃ ms : List Line, p = .lst ((srt ltLn ms).map lP) ∧ ms.Nodup ∧ ms.length ≤ ls.length + 3 := by
      intro fs s' x6 x7 f1 f2 g'
      decreasing_trivial
      rw [bi_sortedc g'.at0 (ksL.sortOk fs), W_some, sortP_map' ksL.lt_]
      exact ⟨_, s', _, rfl, rfl, g', _, rfl, fs, rfl, f1, f2⟩
    decreasing_trivial
    refine ⟨fun _ => ?_, fun _ => tail _ _ _ _ f1 (by omega) g'⟩
    refine wss_cons.mpr ?_
    rw [ws_for]
    refine wi_rng ?_
    decreasing_trivial_pre_omega
    refine sp_use (sp_draw (dr := 2) rfl (by decide) (by decide)) B g' (by rw [List.all_cons, blwC_pu]; rfl) ?_
    rintro _ s2 ⟨m, rfl, m0, m1⟩ g2
    obtain ⟨m, rfl⟩ := Int.eq_ofNat_of_zero_le m0
    refine ⟨m, rfl, by omega, ?_⟩
    refine for_rng (fun j e t => ∃ (fs : List Line) (s' : Store) (x6 x7 : Option Val), fs.Nodup ∧ fs.length ≤ ls.length + j ∧ Gd st0 n s' ∧ t = s' ++ [.lst ((fs.map lP).map .pu)] ∧ e = [some (.cell n), some (scr zs), some (.pu (.lst (xs.map .str))), some (.pu (.lst (ls.map lP))), some (.cell st0.length), some (.pu (.int d)), x6, x7]) ⟨fs, s2, x6, none, f1, by omega, g2, rfl, rfl⟩ ?_ ?_
    · rintro e t ⟨fs, s', x6, x7, f1, f2, g', rfl, rfl⟩
      decreasing_trivial_pre_omega
      exact tail _ _ _ _ f1 (by omega) g'
    · rintro j e t hj ⟨fs, s', x6, x7, f1, f2, g', rfl, rfl⟩
      decreasing_trivial_pre_omega
      decreasing_trivial
      refine sp_use (sp_line h0 h1 h2) B g' (by rw [List.all_cons, blwC_pu]; rfl) ?_
      rintro _ s2 ⟨l, rfl⟩ g2
      decreasing_trivial_pre_omega
      decreasing_trivial
      rw [nin_kdc ksL.toKd g2.at0, W_some]
      refine ⟨fun h => ?_, fun _ => ⟨fs, s2, _, _, f1, by omega, g2, rfl, rfl⟩⟩
      have hn : l ∉ fs := by simpa using h
      decreasing_trivial
      refine ⟨isTy_list g2.at0, ?_⟩
      rw [bm_append g2.at0 (by rw [List.length_map, List.length_map]; unfold SZ; omega), W_some, g2.put0]
      decreasing_trivial_pre_omega
      exact ⟨fs ++ [l], s2, _, _, nodup_snoc f1 hn, by rw [List.length_append, List.length_singleton]; omega, g2, by rw [List.map_append, List.map_append]; rfl, rfl⟩
  · rintro ds x rs e t hds ⟨fs, s', x6, f1, f2, f3, g', rfl, rfl⟩
    have hn : x ∉ fs := fun h => by
      have h := f2 x h
      rw [hds, List.nodup_append] at h3
      exact h3.2.2 x h x List.mem_cons_self rfl
    have hdl : ds.length < 1000 := by have := congrArg List.length hds; rw [List.length_append, List.length_cons] at this; omega
    have hm : ∀ f ∈ fs ++ [x], f ∈ ds ++ [x] := fun f hf => by
      rcases List.mem_append.mp hf with h | h
      · exact List.mem_append_left _ (f2 f h)
      · exact List.mem_append_right _ h
    show W (asgG _ (.slot 6) (.pu (lP x)) _ _) _
    decreasing_trivial_pre_omega
    decreasing_trivial
    split
    · refine sp_use (sp_draw (dr := 2) rfl (by decide) (by decide)) B g' (by rw [List.all_cons, blwC_pu]; rfl) ?_
      rintro _ s2 ⟨m, rfl, m0, m1⟩ g2
      decreasing_trivial_pre_omega
      refine ⟨fun _ => ?_, fun _ => ⟨fs, s2, _, f1, fun f hf => List.mem_append_left _ (f2 f hf), by rw [List.length_append]; omega, g2, rfl, rfl⟩⟩
      decreasing_trivial
      refine ⟨isTy_list g2.at0, ?_⟩
      rw [bm_append g2.at0 (by rw [List.length_map, List.length_map]; unfold SZ; omega), W_some, g2.put0]
      decreasing_trivial_pre_omega
      exact ⟨fs ++ [x], s2, _, nodup_snoc f1 hn, hm, by rw [List.length_append, List.length_append, List.length_singleton]; omega, g2, by rw [List.map_append, List.map_append]; rfl, rfl⟩
    · refine ⟨fun _ => ?_, fun h => by rename_i h2; exact absurd h h2⟩
      decreasing_trivial
      refine ⟨isTy_list g'.at0, ?_⟩
      rw [bm_append g'.at0 (by rw [List.length_map, List.length_map]; unfold SZ; omega), W_some, g'.put0]
      decreasing_trivial_pre_omega
      exact ⟨fs ++ [x], s', _, nodup_snoc f1 hn, hm, by rw [List.length_append, List.length_append, List.length_singleton]; omega, g', by rw [List.map_append, List.map_append]; rfl, rfl⟩
end
end Y.Pl

set_option linter.all false
set_option maxRecDepth 100000
set_option Elab.async false
/-! K64r: the plain law of k64: rebuilt, and any lines. -/
namespace Y.Pl
open PySem
section
variable {cls : List Cd} {gl : Nat → Option P} {ct : List Key → Bool} {wf k : Nat} {zs : List Int}
local macro_rules | `(tactic| decreasing_trivial_pre_omega) => `(tactic| simp only [wss_nil, nxt_nx, nxt_rt, nxt_ct, lp_nx, lp_ct, lp_rt, ws_asg, ws_expr, ws_ret, ws_ife, ws_setLc, ws_for, wt_val, wt_cmp, wt_bop, wb_cons, wb_one, we_int, we_str, we_bl, we_non, we_bin, we_cmp, we_sub, we_bi, we_call, we_lc, we_dct, we_negc, we_slc, we_ife, wo_none, wo_some, view_int, Vw.int.injEq, wkv_nil, wkv_cons, wes_cons, wes_nil, wts_nil, wts_one, w_lcF, we_slot, we_tup, we_lst, we_bm, wg_slot, wg_sub, wg_tupt, wg_tupl, wgs_nil, wgs_cons, W_some, wi_seq, seqI_lst, seqI_tup, slc_pu, slc_put, List.getElem?_cons_zero, List.getElem?_cons_succ, List.set_cons_zero, List.set_cons_succ, List.length_cons, List.length_nil, List.map_cons, List.map_nil, List.cons_append, List.nil_append, List.replicate, Option.some.injEq, exists_eq_left', b_add, b_sub, c_eq, c_lt, c_gt, c_ge, c_eqs, c_eqss, c_notN, in_strs, in_strt, bi_int, bi_len, s_lst, s_tup, mkT0, mkT1, mkT2, mkT3, mkT4, mkT5, mkT6, mkL0, mkL1, mkL2, mkL3, mkL4, mkL10, mkLt, wipeE, Option.map_some, Bool.false_eq_true, Bool.true_eq_false, true_implies, false_implies, and_true, ↓reduceIte, SZ, Nat.reduceAdd, Nat.reduceLT, Nat.reduceLeDiff, true_and])
local macro_rules | `(tactic| decreasing_trivial) => `(tactic| (refine wss_cons.mpr ?_; decreasing_trivial_pre_omega))
/-- a comprehension that may change cells -/
theorem lc_inv {f : Val → Store → Option (List Val × Store)} (J : List Val → Store → Prop) : ∀ (vs : List Val) (acc : List Val) (st : Store), J acc st → (∀ acc v st, v ∈ vs → J acc st → W (f v st) fun q => J (acc ++ q.1) q.2) → W (evLc f vs st) fun q => J (acc ++ q.1) q.2
  | [], acc, st, j, _ => ⟨_, rfl, by simpa using j⟩
  | v :: vs, acc, st, j, h => by
    obtain ⟨⟨xs, s1⟩, e1, j1⟩ := h acc v st List.mem_cons_self j
    obtain ⟨⟨ys, s2⟩, e2, j2⟩ := lc_inv J vs _ _ j1 fun acc v st hv => h acc v st (List.mem_cons_of_mem _ hv)
    rw [evLc, e1]
    simp only
    rw [e2]
    exact ⟨_, rfl, by simpa using j2⟩
theorem flat_filter {α β : Type} {p : α → Bool} {g : α → β} : ∀ xs : List α, (xs.flatMap fun x => if p x = true then [g x] else []) = (xs.filter p).map g
  | [] => rfl
  | x :: xs => by
    rw [List.flatMap_cons, flat_filter xs, List.filter_cons]
    by_cases h : p x = true
    · rw [if_pos h, if_pos h]; rfl
    · rw [if_neg h, if_neg h]; rfl
def nots (gs as : List Line) : List Line := as.filter fun a => !decide (a ∈ gs)
theorem nots_le {gs as : List Line} : (nots gs as).length ≤ as.length := List.length_filter_le ..
theorem sh_arg {a : Arg} (h : ArgOk a) : Sh 1 26 (aP a) := by
  cases a with
  | s z => exact (Sh.str (n := 12) h.1 h.2).mono (by decide) (by decide)
  | i n => exact (Sh.int (i := (n : Int)) (by omega) (by have : n < 2048 := h; omega)).mono (by decide) (by decide)
  | t ns =>
    refine (Sh.tup (d := 0) (w := 4) (n := 3) (fun p hp => ?_) (by rw [List.length_map]; exact h.1)).mono (by decide) (by decide)
    obtain ⟨n, hn, rfl⟩ := List.mem_map.mp hp
    have := h.2 n hn
    exact Sh.int (by omega) (by omega)
theorem sh_line (l : Line) : Sh 2 120 (lP l) := by
  have hz : ∀ p ∈ tabs, ((p.1.cps.toList.all fun c => decide (c ∈ sgn.cps.toList)) && decide (p.1.length ≤ 8)) = true ∧ p.2.length ≤ 3 := by decide +kernel
  obtain ⟨h1, h2⟩ := hz _ l.2.tb
  rw [List.length_map] at h2
  rw [Bool.and_eq_true] at h1
  refine (Sh.tup (d := 1) (w := 26) (n := 4) (fun p hp => ?_) (by rw [List.length_cons, List.length_map]; omega)).mono (by decide) (by decide)
  rcases List.mem_cons.mp hp with rfl | hp
  · exact (Sh.str (n := 8) (fun c hc => of_decide_eq_true (List.all_eq_true.mp h1.1 c hc)) (of_decide_eq_true h1.2)).mono (by decide) (by decide)
  · obtain ⟨a, ha, rfl⟩ := List.mem_map.mp hp
    exact sh_arg (l.2.ok a ha)
theorem sh_lines {ls : List Line} {n : Nat} (h : ls.length ≤ n) : Sh 3 (n * 122 + 2) (.lst (ls.map lP)) := Sh.lst (d := 2) (w := 120) (fun p hp => by
  obtain ⟨l, _, rfl⟩ := List.mem_map.mp hp
  exact sh_line l) (by rw [List.length_map]; exact h)
theorem bi_repr {o : Bool} {st : Store} {v : Val} {p : P} {d w : Nat} (h : toP 0 st FU v = some p) (s : Sh d w p) (hd : d ≤ 60) (hw : w ≤ SZ) : bi o .repr [v] st = some (.pu (.str (toD p).shown), st) := by
  unfold bi
  simp only [h]
  rw [s.repr hd hw]
  rfl
theorem pf_rebuilt {as gs cs : List Line} {z : Str} (h : as.length + cs.length ≤ 1000) : Pf (C64 cls gl ct wf (k + 1)) 1 [.pu (.lst (as.map lP)), .pu (.tup [.str z, .lst (gs.map lP), .lst (cs.map lP)])] (.lst ((srt ltLn (nots gs as ++ cs)).map lP)) := by
  refine pf_of (fd := ⟨2, 3, K64.b1, 0⟩) rfl rfl rfl fun st hc => ?_
  unfold K64.b1
  decreasing_trivial
  rw [List.map_map]
  refine lc_g (h := fun a : Line => if (!decide (a ∈ gs)) = true then [.pu (lP a)] else []) ?_ ?_
  · intro a _
    show W (lcF _ _ _ _ _ _ (.pu (lP a)) _) _
    decreasing_trivial_pre_omega
    rw [show at_ [Val.pu (.str z), .pu (.lst (gs.map lP)), .pu (.lst (cs.map lP))] 1 = some (.pu (.lst (gs.map lP))) from rfl, W_some, nin_kd ksL.toKd, W_some]
    refine ⟨fun h => ?_, fun h => ?_⟩
    · have hn : a ∉ gs := by simpa using h
      simp [hn]
    · have hn : a ∈ gs := by simpa using h
      simp [hn]
  simp only
  rw [flat_filter, show (as.filter fun a => !decide (a ∈ gs)).map (fun a => Val.pu (lP a)) = ((nots gs as).map lP).map .pu by rw [List.map_map]; rfl]
  have hl := nots_le (gs := gs) (as := as)
  refine ⟨by rw [List.length_map, List.length_map]; omega, ?_⟩
  rw [mkL_pu, W_some, show at_ [Val.pu (.str z), .pu (.lst (gs.map lP)), .pu (.lst (cs.map lP))] 2 = some (.pu (.lst (cs.map lP))) from rfl, W_some]
  simp only
  rw [b_addl (by rw [List.length_map, List.length_map]; unfold SZ; omega), W_some, ← List.map_append]
  simp only
  rw [bi_sorted (ksL.sortOk _), W_some, sortP_map' ksL.lt_]
  exact ⟨_, [], rfl, (List.append_nil _).symm, rfl⟩
theorem evLc_lines {xs : List Str} {st0 s : Store} {n m : Nat} {env : Env} (h0 : 0 < xs.length) (h1 : xs.length < 1000) (h2 : ∀ x ∈ xs, Nm x) (B : Base st0 n) (g : Gd st0 n s) (e0 : env[0]? = some (some (.cell n))) (e1 : env[1]? = some (some (scr zs))) (e2 : env[2]? = some (some (.pu (.lst (xs.map .str))))) (e3 : 7 < env.length) :
    W (evLc (lcF (C64 cls gl ct wf (k + 3)) [("_", 7)] (.slot 7) .nil (.call 6 (.cons (.slot 0) (.cons (.slot 1) (.cons (.slot 2) .nil)))) env) ((List.range m).map fun i => .pu (.int (i : Nat))) s) fun q => ∃ ls : List Line, q.1 = (ls.map lP).map .pu ∧ ls.length ≤ m ∧ Gd st0 n q.2 := by
  have z := lc_inv (f := lcF (C64 cls gl ct wf (k + 3)) [("_", 7)] (.slot 7) .nil (.call 6 (.cons (.slot 0) (.cons (.slot 1) (.cons (.slot 2) .nil)))) env) (fun acc t => ∃ ls : List Line, acc = (ls.map lP).map .pu ∧ Gd st0 n t) ((List.range m).map fun i => .pu (.int (i : Nat))) [] s ⟨[], rfl, g⟩ ?_
  · have hl : ∀ (vs : List Val) (t : Store) (q : List Val × Store), evLc (lcF (C64 cls gl ct wf (k + 3)) [("_", 7)] (.slot 7) .nil (.call 6 (.cons (.slot 0) (.cons (.slot 1) (.cons (.slot 2) .nil)))) env) vs t = some q → q.1.length ≤ vs.length := by
      intro vs
      induction vs with
      | nil => intro t q e; cases e; exact Nat.le_refl _
      | cons v vs ih =>
        intro t q e
        rw [evLc] at e
        split at e
        · cases e
        rename_i ys s1 e1
        split at e
        · cases e
        rename_i ws s2 e2
        cases e
        have := ih _ _ e2
        have h1 : ys.length ≤ 1 := by
          unfold lcF at e1
          split at e1
          · split at e1
            · split at e1
              · cases e1; exact Nat.le_refl _
              · cases e1
            · cases e1; exact Nat.zero_le _
            · cases e1
          · cases e1
        show (ys ++ ws).length ≤ _
        rw [List.length_append, List.length_cons]
        have : ws.length ≤ vs.length := this
        omega
    obtain ⟨q, e, ls, h3, h4⟩ := z
    have := hl _ _ _ e
    rw [List.nil_append] at h3
    refine ⟨q, e, ls, h3, ?_, h4⟩
    rw [h3, List.length_map, List.length_map, List.length_map, List.length_range] at this
    exact this
  · rintro acc v t hv ⟨ls, rfl, g'⟩
    show W (lcF _ _ _ _ _ _ v _) _
    have e4 : ∀ i, i ≠ 7 → (env.set 7 none |>.set 7 (some v))[i]? = env[i]? := fun i hi => by
      rw [List.getElem?_set_ne (fun e => hi e.symm), List.getElem?_set_ne (fun e => hi e.symm)]
    rw [w_lcF]
    simp only [wipeE, List.map_cons, List.map_nil, wg_slot, List.length_set, wts_nil]
    refine ⟨e3, fun _ => ?_, fun h => Bool.noConfusion h⟩
    simp only [we_call, wes_cons, wes_nil, we_slot, e4 0 (by decide), e4 1 (by decide), e4 2 (by decide), e0, e1, e2, Option.some.injEq, exists_eq_left']
    refine sp_use0 (sp_line h0 h1 h2) B g' ?_
    rintro _ s2 ⟨l, rfl⟩ g2
    exact ⟨ls ++ [l], by rw [List.map_append, List.map_append]; rfl, g2⟩
theorem sp_any {xs : List Str} (h0 : 0 < xs.length) (h1 : xs.length < 1000) (h2 : ∀ x ∈ xs, Nm x) : Sp (C64 cls gl ct wf (k + 5)) 9 [scr zs, .pu (.lst (xs.map .str))] (fun p => p = .bl true) := by
  refine sp_of (fd := ⟨3, 9, K64.b9, 0⟩) rfl rfl rfl fun st0 n s B g => ?_
  unfold K64.b9
  decreasing_trivial
  refine sp_use0 (sp_turned (ls := []) h0 h1 h2 List.nodup_nil (by decide)) B g ?_
  rintro _ s1 ⟨ms, rfl, m1, m2⟩ g1
  decreasing_trivial_pre_omega
  have hml : (srt ltLn ms).length ≤ 3 := by rw [(srt_perm ms).length_eq]; exact m2
  generalize srt ltLn ms = LS at hml ⊢
  refine wss_cons.mpr ?_
  simp only [ws_asg, ws_setLc, we_lc]
  refine wi_rng ?_
  decreasing_trivial_pre_omega
  refine sp_use0 (sp_draw (dr := 2) (k := k + 3) rfl (by decide) (by decide)) B g1 ?_
  rintro _ s2 ⟨m, rfl, d0, d1⟩ g2
  obtain ⟨m, rfl⟩ := Int.eq_ofNat_of_zero_le d0
  refine ⟨m, rfl, by omega, ?_⟩
  refine W_mono (evLc_lines (k := k + 1) h0 h1 h2 B g2 rfl rfl rfl (by simp)) ?_
  rintro ⟨_, s3⟩ ⟨GS, rfl, hgl, g3⟩
  simp only at g3 ⊢
  refine ⟨by rw [List.length_map, List.length_map]; omega, ?_⟩
  rw [mkL_pu, W_some]
  decreasing_trivial_pre_omega
  refine wss_cons.mpr ?_
  simp only [ws_asg, ws_setLc, we_lc]
  refine wi_rng ?_
  decreasing_trivial_pre_omega
  refine sp_use0 (sp_draw (dr := 2) (k := k + 3) rfl (by decide) (by decide)) B g3 ?_
  rintro _ s4 ⟨m', rfl, d0', d1'⟩ g4
  obtain ⟨m', rfl⟩ := Int.eq_ofNat_of_zero_le d0'
  refine ⟨m', rfl, by omega, ?_⟩
  refine W_mono (evLc_lines (k := k + 1) h0 h1 h2 B g4 rfl rfl rfl (by simp)) ?_
  rintro ⟨_, s5⟩ ⟨CS, rfl, hcl, g5⟩
  simp only at g5 ⊢
  refine ⟨by rw [List.length_map, List.length_map]; omega, ?_⟩
  rw [mkL_pu, W_some]
  decreasing_trivial_pre_omega
  decreasing_trivial
  rw [List.map_map]
  refine lc_g (h := fun a : Line => if (!decide (a ∈ GS)) = true then [.pu (lP a)] else []) ?_ ?_
  · intro a _
    show W (lcF _ _ _ _ _ _ (.pu (lP a)) _) _
    decreasing_trivial_pre_omega
    rw [nin_kd ksL.toKd, W_some]
    refine ⟨fun h => ?_, fun h => ?_⟩
    · have hn : a ∉ GS := by simpa using h
      simp [hn]
    · have hn : a ∈ GS := by simpa using h
      simp [hn]
  simp only
  rw [flat_filter, show (LS.filter fun a => !decide (a ∈ GS)).map (fun a => Val.pu (lP a)) = ((nots GS LS).map lP).map .pu by rw [List.map_map]; rfl]
  have hl := nots_le (gs := GS) (as := LS)
  refine ⟨by rw [List.length_map, List.length_map]; omega, ?_⟩
  rw [mkL_pu, W_some]
  simp only
  rw [b_addl (by rw [List.length_map, List.length_map]; unfold SZ; omega), W_some, ← List.map_append]
  simp only
  rw [bi_sorted (ksL.sortOk _), W_some, sortP_map' ksL.lt_]
  decreasing_trivial_pre_omega
  decreasing_trivial
  rw [bi_listf, W_some, bi_listf, W_some]
  simp only
  rw [bi_listf, W_some]
  decreasing_trivial_pre_omega
  refine pf_use (pf_rebuilt (k := k + 3) (by omega)) (g5.cl B) ?_
  have hsh := sh_lines (ls := srt ltLn (nots GS LS ++ CS)) (n := 5) (by rw [(srt_perm _).length_eq, List.length_append]; omega)
  rw [bi_repr (p := .lst ((srt ltLn (nots GS LS ++ CS)).map lP)) rfl hsh (by decide) (by unfold SZ; decide), W_some]
  simp only
  rw [bi_repr (p := .lst ((srt ltLn (nots GS LS ++ CS)).map lP)) rfl hsh (by decide) (by unfold SZ; decide), W_some, c_eqs, decide_eq_true rfl, W_some]
  exact ⟨_, s5, [], rfl, (List.append_nil _).symm, g5, _, rfl, rfl⟩
end
end Y.Pl

set_option linter.all false
set_option maxRecDepth 100000
set_option Elab.async false
/-! K64s: the plain law of k64: the letters, told and worked out. -/
namespace Y.Pl
open PySem
section
variable {cls : List Cd} {gl : Nat → Option P} {ct : List Key → Bool} {wf k : Nat} {zs : List Int}
local macro_rules | `(tactic| decreasing_trivial_pre_omega) => `(tactic| simp only [wss_nil, nxt_nx, nxt_rt, nxt_ct, lp_nx, lp_ct, lp_rt, ws_asg, ws_expr, ws_ret, ws_ife, ws_setLc, ws_for, wt_val, wt_cmp, wt_bop, wb_cons, wb_one, we_int, we_str, we_bl, we_non, we_bin, we_cmp, we_sub, we_bi, we_call, we_lc, we_dct, we_negc, we_slc, we_ife, wo_none, wo_some, view_int, Vw.int.injEq, wkv_nil, wkv_cons, wes_cons, wes_nil, wts_nil, wts_one, w_lcF, we_slot, we_tup, we_lst, we_bm, wg_slot, wg_sub, wg_tupt, wg_tupl, wgs_nil, wgs_cons, W_some, wi_seq, seqI_lst, seqI_tup, slc_pu, slc_put, List.getElem?_cons_zero, List.getElem?_cons_succ, List.set_cons_zero, List.set_cons_succ, List.length_cons, List.length_nil, List.map_cons, List.map_nil, List.cons_append, List.nil_append, List.replicate, Option.some.injEq, exists_eq_left', b_add, b_sub, c_eq, c_lt, c_gt, c_ge, c_eqs, c_eqss, c_notN, in_strs, in_strt, bi_int, bi_len, s_lst, s_tup, mkT0, mkT1, mkT2, mkT3, mkT4, mkT5, mkT6, mkL0, mkL1, mkL2, mkL3, mkL4, mkL10, mkLt, wipeE, Option.map_some, Bool.false_eq_true, Bool.true_eq_false, true_implies, false_implies, and_true, ↓reduceIte, SZ, Nat.reduceAdd, Nat.reduceLT, Nat.reduceLeDiff, true_and])
local macro_rules | `(tactic| decreasing_trivial) => `(tactic| (refine wss_cons.mpr ?_; decreasing_trivial_pre_omega))
/-! dicts of views -/
abbrev Vs : Type := List (Str × List Line)
def vP (ls : List Line) : P := .lst (ls.map lP)
def vp (kvs : Vs) : List (Str × P) := kvs.map fun q => (q.1, vP q.2)
def getV (kvs : Vs) (z : Str) : List Line := (look kvs z).getD []
theorem look_vp {kvs : Vs} {z : Str} : look (vp kvs) z = (look kvs z).map vP := by
  unfold look vp
  rw [List.find?_map, Option.map_map, Option.map_map]
  rfl
theorem put_vp {kvs : Vs} {z : Str} {ms : List Line} : putS (vp kvs) z (vP ms) = vp (putS kvs z ms) := by
  unfold putS
  rw [look_vp, Option.isSome_map]
  split
  · unfold vp
    rw [List.map_map, List.map_map]
    refine List.map_congr_left fun q _ => ?_
    show (if q.1 = z then (q.1, vP ms) else (q.1, vP q.2)) = ((if q.1 = z then (q.1, ms) else q).1, vP (if q.1 = z then (q.1, ms) else q).2)
    split <;> rfl
  · unfold vp
    rw [List.map_append]
    rfl
/-- the cell holds these views -/
def DV (st : Store) (n : Nat) (kvs : Vs) : Prop := st[n]? = some (.dct (emv .pu (vp kvs))) ∨ st[n]? = some (.dead (dP (vp kvs)))
section
variable {st l : Store} {n m : Nat} {kvs : Vs} {z : Str} {c : CellC} {o : Bool}
theorem DV.view (h : DV st n kvs) : view st (.cell n) = some (.dic (emv .pu (vp kvs))) := by
  rcases h with h | h <;> rw [Y.view, h]
  simp only
  rw [view_dP]
theorem DV.app (h : DV st n kvs) : DV (st ++ l) n kvs := by
  rcases h with h | h
  · left; rw [List.getElem?_append_left (List.getElem?_eq_some_iff.mp h).1]; exact h
  · right; rw [List.getElem?_append_left (List.getElem?_eq_some_iff.mp h).1]; exact h
theorem DV.set (h : DV st n kvs) (hm : m ≠ n) : DV (st.set m c) n kvs := by
  unfold DV
  rw [List.getElem?_set_ne hm]
  exact h
theorem DV.lt (h : DV st n kvs) : n < st.length := by
  rcases h with h | h <;> exact (List.getElem?_eq_some_iff.mp h).1
theorem dv_list (h : DV st n kvs) : bi false .list [.cell n] st = some (.pu (.lst ((kvs.map (·.1)).map .str)), st) := by
  unfold bi
  simp only [h.view]
  rw [if_pos flat_emv]
  have : (emv Val.pu (vp kvs)).map (fun q => Val.pu (kxP q.1)) = ((kvs.map (·.1)).map P.str).map .pu := by
    unfold emv vp
    rw [List.map_map, List.map_map, List.map_map, List.map_map]
    rfl
  rw [this, mkL_pu]
theorem dv_nin (h : DV st n kvs) : cmpop ct .nin (.pu (.str z)) (.cell n) st = some (!(look kvs z).isSome) := by
  unfold cmpop
  simp only [h.view]
  rw [keyOf_str, Option.bind_some, dget_emv, Option.map_some, Option.isSome_map, look_vp, Option.isSome_map]
theorem dv_get (h : DV st n kvs) : bm ct o .get2 (.cell n) [.pu (.str z), .pu (.lst [])] st = some (.pu (vP (getV kvs z)), st) := by
  unfold bm
  simp only [h.view]
  rw [keyOf_str, Option.bind_some, dget_emv, look_vp]
  unfold getV
  cases look kvs z <;> rfl
theorem dv_ty (h : DV st n kvs) : isTy "dict" (view st (.cell n)) = true := by rw [h.view]; rfl
end
theorem wi_keysc {C : Cfg} {env : Env} {st : Store} {n : Nat} {kvs : Vs} {e : E} {R : List Val × Store → Prop} (h : WE C e env st fun v s => v = .cell n ∧ s[n]? = some (.dct (emv .pu (vp kvs))) ∧ R (((kvs.map (·.1)).map P.str).map .pu, s.set n (.dead (dP (vp kvs))))) : W (evI C (.keys e) env st) R := by
  obtain ⟨⟨v, s⟩, h1, rfl, h2, h3⟩ := h
  rw [evI, h1]
  simp only
  rw [frz_dct h2]
  simp only [dP]
  have e1 : (((vp kvs).map fun q => kS q.1).all flatK && decide (((vp kvs).map fun q => kS q.1).length = ((vp kvs).map (·.2)).length)) = true := by
    rw [List.length_map, List.length_map, decide_eq_true rfl, Bool.and_true, List.all_map, List.all_eq_true]
    exact fun q _ => rfl
  rw [if_pos e1]
  have e2 : ((vp kvs).map fun q => kS q.1).map (fun k => Val.pu (kxP k)) = ((kvs.map (·.1)).map P.str).map .pu := by
    unfold vp
    rw [List.map_map, List.map_map, List.map_map, List.map_map]
    rfl
  rw [e2]
  exact ⟨_, rfl, h3⟩
/-! what is due -/
def keysU (bs as : Vs) : List Str := srt ltS (bs.map (·.1) ++ (as.map (·.1)).filter fun z => !(look bs z).isSome)
def due1 (bs as : Vs) (z : Str) : List (Str × List Line × List Line) := if nots (getV as z) (getV bs z) ≠ [] ∨ nots (getV bs z) (getV as z) ≠ [] then [(z, nots (getV as z) (getV bs z), nots (getV bs z) (getV as z))] else []
def due (bs as : Vs) : List (Str × List Line × List Line) := (keysU bs as).flatMap (due1 bs as)
def duP (x : Str × List Line × List Line) : P := .tup [.str x.1, vP x.2.1, vP x.2.2]
theorem keysU_len {bs as : Vs} : (keysU bs as).length ≤ bs.length + as.length := by
  unfold keysU
  rw [(srt_perm _).length_eq, List.length_append, List.length_map]
  have := List.length_filter_le (fun z => !(look bs z).isSome) (as.map (·.1))
  rw [List.length_map] at this
  omega
structure VOk (m : Nat) (kvs : Vs) : Prop where
  nd : (kvs.map (·.1)).Nodup
  nm : ∀ q ∈ kvs, Nm q.1
  ok : ∀ q ∈ kvs, ∃ ms : List Line, ms.Nodup ∧ q.2 = srt ltLn ms ∧ ms.length ≤ m
  ln : kvs.length ≤ 5
theorem VOk.get {m : Nat} {kvs : Vs} (h : VOk m kvs) (z : Str) : ∃ ms : List Line, ms.Nodup ∧ getV kvs z = srt ltLn ms ∧ ms.length ≤ m := by
  unfold getV
  cases e : look kvs z with
  | none => exact ⟨[], List.nodup_nil, (List.perm_nil.mp (srt_perm (lt := ltLn) [])).symm, Nat.zero_le _⟩
  | some ls => exact h.ok _ (look_mem e)
theorem VOk.len {m : Nat} {kvs : Vs} (h : VOk m kvs) (z : Str) : (getV kvs z).length ≤ m := by
  obtain ⟨ms, _, e, hl⟩ := h.get z
  rw [e, (srt_perm ms).length_eq]
  exact hl
theorem VOk.nodup {m : Nat} {kvs : Vs} (h : VOk m kvs) (z : Str) : (getV kvs z).Nodup := by
  obtain ⟨ms, h1, e, _⟩ := h.get z
  rw [e]
  exact (srt_perm ms).nodup_iff.mpr h1
theorem keysU_nodup {m m' : Nat} {bs as : Vs} (hb : VOk m bs) (ha : VOk m' as) : (keysU bs as).Nodup := by
  unfold keysU
  refine (srt_perm _).nodup_iff.mpr ?_
  rw [List.nodup_append]
  refine ⟨hb.nd, ha.nd.sublist List.filter_sublist, ?_⟩
  intro x hx y hy e
  subst e
  obtain ⟨a, h⟩ := look_some hx
  have := (List.mem_filter.mp hy).2
  rw [h] at this
  exact Bool.noConfusion this
theorem keysU_mem {bs as : Vs} {z : Str} : z ∈ keysU bs as ↔ z ∈ bs.map (·.1) ++ as.map (·.1) := by
  unfold keysU
  rw [(srt_perm _).mem_iff, List.mem_append, List.mem_append, List.mem_filter]
  constructor
  · rintro (h | h)
    · exact .inl h
    · exact .inr h.1
  · rintro (h | h)
    · exact .inl h
    · by_cases e : z ∈ bs.map (·.1)
      · exact .inl e
      · exact .inr ⟨h, by rw [look_none e]; rfl⟩
/-- the comprehension of those that are not there -/
theorem lc_nots {C : Cfg} {own : Bool} {env : Env} {st : Store} {i j s : Nat} {as bs : List Line} {Q : Val → Store → Prop} (hi : env[i]? = some (some (.pu (vP as)))) (hj : env[j]? = some (some (.pu (vP bs)))) (hs : s < env.length) (hij : i ≠ s ∧ j ≠ s) (hl : as.length ≤ 1000)
    (q : W (mkL own (((nots bs as).map lP).map .pu) st) fun q => Q q.1 q.2) : WE C (.lc own [("line", s)] (.slot s) (.seq (.slot i)) (.cons (.cmp .nin (.slot s) (.slot j)) .nil) (.slot s)) env st Q := by
  rw [we_lc, wi_seq, we_slot]
  refine ⟨_, hi, ?_⟩
  unfold vP
  rw [seqI_lst, W_some, List.map_map]
  refine lc_g (h := fun a : Line => if (!decide (a ∈ bs)) = true then [.pu (lP a)] else []) ?_ ?_
  · intro a _
    show W (lcF _ _ _ _ _ _ (.pu (lP a)) _) _
    have ej : (env.set s none |>.set s (some (Val.pu (lP a))))[j]? = env[j]? := by rw [List.getElem?_set_ne (fun e => hij.2 e.symm), List.getElem?_set_ne (fun e => hij.2 e.symm)]
    have es : (env.set s none |>.set s (some (Val.pu (lP a))))[s]? = some (some (.pu (lP a))) := by rw [List.getElem?_set_self (by rw [List.length_set]; exact hs)]
    rw [w_lcF]
    simp only [wipeE, List.map_cons, List.map_nil, wg_slot, List.length_set, wts_one, wt_cmp, we_slot, ej, es, hj, Option.some.injEq, exists_eq_left']
    refine ⟨hs, ?_⟩
    unfold vP
    rw [nin_kd ksL.toKd, W_some]
    refine ⟨fun h => ?_, fun h => ?_⟩
    · have hn : a ∉ bs := by simpa using h
      simp [hn]
    · have hn : a ∈ bs := by simpa using h
      simp [hn]
  simp only
  rw [flat_filter, show (as.filter fun a => !decide (a ∈ bs)).map (fun a => Val.pu (lP a)) = ((nots bs as).map lP).map .pu by rw [List.map_map]; rfl]
  have hl2 := nots_le (gs := bs) (as := as)
  exact ⟨by rw [List.length_map, List.length_map]; unfold SZ; omega, q⟩
theorem eqvL_nil {ps : List P} : eqvL ps [] = decide (ps = []) := by cases ps <;> simp [eqvL]
theorem c_ne_nil {st : Store} {ls : List Line} : cmpop ct .ne (.pu (vP ls)) (.pu (.lst [])) st = some (!decide (ls = [])) := by
  have hp : ∀ ls : List Line, plainL (ls.map lP) = true ∧ depthL (ls.map lP) ≤ 59 := by
    intro ls
    induction ls with
    | nil => exact ⟨rfl, Nat.zero_le _⟩
    | cons l ls ih =>
      rw [List.map_cons, plainL, depthL, (ksL.ok l).1, ih.1]
      refine ⟨rfl, Nat.max_le.mpr ⟨?_, ih.2⟩⟩
      obtain ⟨h1, h2⟩ := plain_args l.1.2
      unfold lP
      rw [depth, depthL, depth] <;> first | (intros; contradiction) | skip
      omega
  have hk : eqOk (vP ls) (.lst []) = true := by
    unfold eqOk vP
    rw [plain, (hp ls).1, depth]
    have := (hp ls).2
    simp only [Bool.and_eq_true, decide_eq_true_eq]
    exact ⟨⟨⟨trivial, rfl⟩, by omega⟩, by decide⟩
  show (if eqOk (vP ls) (.lst []) then some (!eqv (vP ls) (.lst [])) else none) = _
  rw [if_pos hk]
  unfold vP
  rw [eqv, eqvL_nil]
  simp
end
end Y.Pl

set_option linter.all false
set_option maxRecDepth 100000
set_option Elab.async false
/-! K64t: the plain law of k64: the letters worked out, and told. -/
namespace Y.Pl
open PySem
section
variable {cls : List Cd} {gl : Nat → Option P} {ct : List Key → Bool} {wf k : Nat} {zs : List Int}
local macro_rules | `(tactic| decreasing_trivial_pre_omega) => `(tactic| simp only [wss_nil, nxt_nx, nxt_rt, nxt_ct, lp_nx, lp_ct, lp_rt, ws_asg, ws_expr, ws_ret, ws_ife, ws_setLc, ws_for, wt_val, wt_cmp, wt_bop, wb_cons, wb_one, we_int, we_str, we_bl, we_non, we_bin, we_cmp, we_sub, we_bi, we_call, we_lc, we_dct, we_negc, we_slc, we_ife, wo_none, wo_some, view_int, Vw.int.injEq, wkv_nil, wkv_cons, wes_cons, wes_nil, wts_nil, wts_one, w_lcF, we_slot, we_tup, we_lst, we_bm, wg_slot, wg_sub, wg_tupt, wg_tupl, wgs_nil, wgs_cons, W_some, wi_seq, seqI_lst, seqI_tup, slc_pu, slc_put, List.getElem?_cons_zero, List.getElem?_cons_succ, List.set_cons_zero, List.set_cons_succ, List.length_cons, List.length_nil, List.map_cons, List.map_nil, List.cons_append, List.nil_append, List.replicate, Option.some.injEq, exists_eq_left', b_add, b_sub, c_eq, c_lt, c_gt, c_ge, c_eqs, c_eqss, c_notN, in_strs, in_strt, bi_int, bi_len, s_lst, s_tup, mkT0, mkT1, mkT2, mkT3, mkT4, mkT5, mkT6, mkL0, mkL1, mkL2, mkL3, mkL4, mkL10, mkLt, wipeE, Option.map_some, Bool.false_eq_true, Bool.true_eq_false, true_implies, false_implies, and_true, ↓reduceIte, SZ, Nat.reduceAdd, Nat.reduceLT, Nat.reduceLeDiff, true_and])
local macro_rules | `(tactic| decreasing_trivial) => `(tactic| (refine wss_cons.mpr ?_; decreasing_trivial_pre_omega))
theorem strs_flat {p : Str → Bool} {xs : List Str} : (xs.flatMap fun x => if p x = true then [Val.pu (.str x)] else []) = ((xs.filter p).map P.str).map .pu := by
  rw [flat_filter, List.map_map]
  rfl
theorem keysU_sorted {bs as : Vs} : sortP ((bs.map (·.1)).map P.str ++ ((as.map (·.1)).filter fun z => !(look bs z).isSome).map P.str) = (keysU bs as).map P.str := by
  rw [← List.map_append, sortP_map' ltP_str]
  rfl
theorem due_le {bs as : Vs} : ∀ ds : List Str, (ds.flatMap (due1 bs as)).length ≤ ds.length
  | [] => Nat.le_refl _
  | d :: ds => by
    have := due_le (bs := bs) (as := as) ds
    rw [List.flatMap_cons, List.length_append, List.length_cons]
    have : (due1 bs as d).length ≤ 1 := by unfold due1; split <;> simp
    omega
theorem pw_lletters {m m' a b : Nat} {bs as : Vs} {st : Store} (hb : VOk m bs) (ha : VOk m' as) (hm : m ≤ 100) (hm' : m' ≤ 100) (hc : Cl st) (h1 : DV st b bs) (h2 : st[a]? = some (.dct (emv .pu (vp as)))) (hab : a ≠ b) :
    W ((C64 cls gl ct wf (k + 1)).call 8 [.cell b, .cell a] st) fun q => q.1 = .pu (.lst ((due bs as).map duP)) ∧ q.2 = st.set a (.dead (dP (vp as))) := by
  have hlt : a < st.length := (List.getElem?_eq_some_iff.mp h2).1
  refine w_run (tbl := tblY K64.rows) (C := lv (tblY K64.rows) cls gl ct wf k) (f := 8) (vs := [.cell b, .cell a]) (st := st) (Q := fun v s => v = .pu (.lst ((due bs as).map duP)) ∧ s = st.set a (.dead (dP (vp as)))) (fd := ⟨2, 9, K64.b8, 0⟩) rfl rfl ?_
  unfold K64.b8
  decreasing_trivial
  refine wss_cons.mpr ?_
  rw [ws_for]
  simp only [wi_seq, we_bi, wes_cons, wes_nil, we_bin, we_slot, List.getElem?_cons_zero, List.getElem?_cons_succ, Option.some.injEq, exists_eq_left', List.set_cons_zero, List.set_cons_succ]
  rw [dv_list h1.app, W_some]
  simp only [we_lc]
  refine wi_keysc (n := a) (kvs := as) ?_
  decreasing_trivial_pre_omega
  refine ⟨by rw [List.getElem?_append_left hlt]; exact h2, ?_⟩
  rw [List.set_append_left _ _ hlt]
  have hD : ∀ l : Store, DV (st.set a (.dead (dP (vp as))) ++ l) b bs := fun l => (h1.set hab).app
  have hA : ∀ l : Store, DV (st.set a (.dead (dP (vp as))) ++ l) a as := fun l => by
    right
    rw [List.getElem?_append_left (by rw [List.length_set]; exact hlt), List.getElem?_set_self hlt]
  have hC : Cl (st.set a (.dead (dP (vp as)))) := hc.set rfl
  have hL : (st.set a (.dead (dP (vp as)))).length = st.length := List.length_set
  generalize st.set a (.dead (dP (vp as))) = T at hD hA hC hL
  rw [List.map_map]
  refine lc_g (h := fun z : Str => if (!(look bs z).isSome) = true then [.pu (.str z)] else []) ?_ ?_
  · intro z _
    show W (lcF _ _ _ _ _ _ (.pu (.str z)) _) _
    decreasing_trivial_pre_omega
    rw [dv_nin (hD _), W_some]
    refine ⟨fun h => ?_, fun h => ?_⟩
    · rw [if_pos h]
    · rw [if_neg (by rw [h]; exact Bool.false_ne_true)]
  simp only
  rw [strs_flat]
  have hbl := hb.ln
  have hal := ha.ln
  have hfl := List.length_filter_le (fun z => !(look bs z).isSome) (as.map (·.1))
  rw [List.length_map] at hfl
  refine ⟨by rw [List.length_map, List.length_map]; omega, ?_⟩
  rw [mkL_pu, W_some]
  simp only
  rw [b_addl (by simp only [List.length_map]; unfold SZ; omega), W_some]
  simp only
  rw [bi_sorted (by rw [← List.map_append]; exact sortOk_strs), W_some, keysU_sorted]
  decreasing_trivial_pre_omega
  rw [List.map_map]
  have hkl := keysU_len (bs := bs) (as := as)
  have q0 : ∀ l : Store, (T ++ l)[st.length]? = l[0]? := fun l => by rw [← hL, List.getElem?_append_right (Nat.le_refl _), Nat.sub_self]
  have p0 : ∀ (l : Store) (c : CellC), (T ++ l).set st.length c = T ++ l.set 0 c := fun l c => by rw [← hL, List.set_append_right _ _ (Nat.le_refl _), Nat.sub_self]
  refine for_g (fun ds e t => ∃ x3 x4 x5 x6 x7 x8, t = T ++ [.lst (((ds.flatMap (due1 bs as)).map duP).map .pu)] ∧ e = [some (.cell b), some (.cell a), some (.cell st.length), x3, x4, x5, x6, x7, x8]) ⟨none, none, none, none, none, none, rfl, rfl⟩ ?_ ?_
  · rintro e t ⟨x3, x4, x5, x6, x7, x8, rfl, rfl⟩
    rw [nxt_nx]
    decreasing_trivial
    refine fin0_lst ?_ (q0 _) (Nat.le_refl _) ⟨rfl, ?_⟩
    · rw [← hL, List.take_left]
      exact hC
    · rw [← hL, List.take_left]
  · rintro ds z rs e t hds ⟨x3, x4, x5, x6, x7, x8, rfl, rfl⟩
    show W (asgG _ (.slot 3) (.pu (.str z)) _ _) _
    decreasing_trivial_pre_omega
    decreasing_trivial
    refine ⟨dv_ty (hD _), ?_⟩
    rw [dv_get (hD _), W_some]
    decreasing_trivial_pre_omega
    decreasing_trivial
    refine ⟨dv_ty (hA _), ?_⟩
    rw [dv_get (hA _), W_some]
    decreasing_trivial_pre_omega
    have l1 := hb.len z
    have l2 := ha.len z
    refine wss_cons.mpr ?_
    rw [ws_setLc]
    refine lc_nots (as := getV bs z) (bs := getV as z) rfl rfl (by simp) (by decide) (by omega) ?_
    rw [mkL_pu, W_some]
    decreasing_trivial_pre_omega
    refine wss_cons.mpr ?_
    rw [ws_setLc]
    refine lc_nots (as := getV as z) (bs := getV bs z) rfl rfl (by simp) (by decide) (by omega) ?_
    rw [mkL_pu, W_some]
    decreasing_trivial_pre_omega
    refine wss_cons.mpr ?_
    rw [ws_ife, wt_bop, wb_cons, wt_cmp]
    decreasing_trivial_pre_omega
    have hdl : (((ds.flatMap (due1 bs as)).map duP).map Val.pu).length < SZ := by
      have h1 := due_le (bs := bs) (as := as) ds
      have h2 := congrArg List.length hds
      rw [List.length_append, List.length_cons] at h2
      rw [List.length_map, List.length_map]
      unfold SZ
      omega
    have fm : (ds ++ [z]).flatMap (due1 bs as) = ds.flatMap (due1 bs as) ++ due1 bs as z := by rw [List.flatMap_append, List.flatMap_cons, List.flatMap_nil, List.append_nil]
    have app : nots (getV as z) (getV bs z) ≠ [] ∨ nots (getV bs z) (getV as z) ≠ [] → ((ds.flatMap (due1 bs as)).map duP).map Val.pu ++ [.pu (.tup [.str z, .lst ((nots (getV as z) (getV bs z)).map lP), .lst ((nots (getV bs z) (getV as z)).map lP)])] = (((ds ++ [z]).flatMap (due1 bs as)).map duP).map Val.pu := fun h => by
      rw [fm]
      unfold due1
      rw [if_pos h, List.map_append, List.map_append]
      rfl
    refine W_of c_ne_nil ?_
    by_cases hG : nots (getV as z) (getV bs z) = []
    · rw [decide_eq_true hG, if_pos (show (!true) = false from rfl)]
      refine W_of c_ne_nil ?_
      by_cases hN : nots (getV bs z) (getV as z) = []
      · rw [decide_eq_true hN]
        refine ⟨fun h => Bool.noConfusion h, fun _ => ⟨_, _, _, _, _, _, ?_, rfl⟩⟩
        rw [fm, show due1 bs as z = [] by unfold due1; rw [if_neg (by simp [hG, hN])], List.append_nil]
      · rw [decide_eq_false hN]
        refine ⟨fun _ => ?_, fun h => Bool.noConfusion h⟩
        decreasing_trivial
        refine ⟨isTy_list (q0 _), ?_⟩
        rw [bm_append (q0 _) hdl, W_some, p0]
        decreasing_trivial_pre_omega
        exact ⟨_, _, _, _, _, _, by rw [app (.inr hN)], rfl⟩
    · rw [decide_eq_false hG, if_neg (show ¬((!false) = false) from fun h => Bool.noConfusion h)]
      refine ⟨fun _ => ?_, fun h => Bool.noConfusion h⟩
      decreasing_trivial
      refine ⟨isTy_list (q0 _), ?_⟩
      rw [bm_append (q0 _) hdl, W_some, p0]
      decreasing_trivial_pre_omega
      exact ⟨_, _, _, _, _, _, by rw [app (.inl hG)], rfl⟩
/-! the letters told -/
def cel (ls : List Line) : CellC := .lst ((ls.map lP).map .pu)
/-- the letters: the list's cell, what it holds, the lists' cells after it -/
structure Told (n : Nat) (vs : List Val) (L : List (List Line)) (D : List (Str × List Line × List Line)) : Prop where
  ln : vs.length = D.length
  to_ : ∀ (i : Nat) (v : Val) (d : Str × List Line × List Line), vs[i]? = some v → D[i]? = some d → ∃ g c : Nat, v = Val.tupv [.pu (.str d.1), .cell (n + 1 + g), .cell (n + 1 + c)] ∧ L[g]? = some d.2.1 ∧ L[c]? = some d.2.2
  le : ∀ ls ∈ L, ls.length ≤ 100
theorem pw_letters {m m' a b : Nat} {bs as : Vs} {st : Store} (hb : VOk m bs) (ha : VOk m' as) (hm : m ≤ 100) (hm' : m' ≤ 100) (h1 : DV st b bs) (h2 : DV st a as) :
    W ((C64 cls gl ct wf (k + 1)).call 0 [.cell b, .cell a] st) fun q => q.1 = .cell st.length ∧ ∃ (vs : List Val) (L : List (List Line)), q.2 = st ++ .lst vs :: L.map cel ∧ Told st.length vs L (due bs as) := by
  refine w_run (tbl := tblY K64.rows) (C := lv (tblY K64.rows) cls gl ct wf k) (f := 0) (vs := [.cell b, .cell a]) (st := st) (Q := fun v s => v = .cell st.length ∧ ∃ (vs : List Val) (L : List (List Line)), s = st ++ .lst vs :: L.map cel ∧ Told st.length vs L (due bs as)) (fd := ⟨2, 9, K64.b0, 2⟩) rfl rfl ?_
  unfold K64.b0
  decreasing_trivial
  refine wss_cons.mpr ?_
  rw [ws_for]
  simp only [wi_seq, we_ssetR, we_bi, wes_cons, wes_nil, we_bin, we_slot, List.getElem?_cons_zero, List.getElem?_cons_succ, Option.some.injEq, exists_eq_left', List.set_cons_zero, List.set_cons_succ]
  rw [dv_list h1.app, W_some]
  simp only
  rw [dv_list h2.app, W_some]
  simp only
  have hbl := hb.ln
  have hal := ha.ln
  rw [b_addl (by simp only [List.length_map]; unfold SZ; omega), W_some, ← List.map_append]
  refine ⟨_, _, rfl, allPu_map, ?_, ?_⟩
  · unfold ssetOk
    rw [List.length_map, List.length_append, List.length_map, List.length_map, decide_eq_true (by omega), Bool.true_and, Bool.or_eq_true]
    left
    rw [List.all_map, List.all_eq_true]
    exact fun _ _ => rfl
  rw [sset_one ordS ltP_str eqv_str (keysU_nodup hb ha) (fun x => keysU_mem) (srt_pw ordS _), mkL_pu, W_some]
  decreasing_trivial_pre_omega
  rw [List.map_map]
  have hkl := keysU_len (bs := bs) (as := as)
  refine for_g (fun ds e t => ∃ (vs : List Val) (L : List (List Line)) (x3 x4 x5 x6 x7 x8 : Option Val), t = st ++ .lst vs :: L.map cel ∧ Told st.length vs L (ds.flatMap (due1 bs as)) ∧ e = [some (.cell b), some (.cell a), some (.cell st.length), x3, x4, x5, x6, x7, x8]) ⟨[], [], none, none, none, none, none, none, rfl, ⟨rfl, fun i v d h => by simp at h, fun _ h => by cases h⟩, rfl⟩ ?_ ?_
  · rintro e t ⟨vs, L, x3, x4, x5, x6, x7, x8, rfl, hT, rfl⟩
    rw [nxt_nx]
    decreasing_trivial
    exact fin2_rt ⟨rfl, vs, L, rfl, hT⟩
  · rintro ds z rs e t hds ⟨vs, L, x3, x4, x5, x6, x7, x8, rfl, hT, rfl⟩
    show W (asgG _ (.slot 3) (.pu (.str z)) _ _) _
    decreasing_trivial_pre_omega
    decreasing_trivial
    refine ⟨dv_ty h1.app, ?_⟩
    rw [dv_get h1.app, W_some]
    decreasing_trivial_pre_omega
    decreasing_trivial
    refine ⟨dv_ty h2.app, ?_⟩
    rw [dv_get h2.app, W_some]
    decreasing_trivial_pre_omega
    have l1 := hb.len z
    have l2 := ha.len z
    refine wss_cons.mpr ?_
    rw [ws_setLc]
    refine lc_nots (as := getV bs z) (bs := getV as z) rfl rfl (by simp) (by decide) (by omega) ?_
    rw [mkLt, W_some]
    decreasing_trivial_pre_omega
    refine wss_cons.mpr ?_
    rw [ws_setLc]
    refine lc_nots (as := getV as z) (bs := getV bs z) rfl rfl (by simp) (by decide) (by omega) ?_
    rw [mkLt, W_some]
    decreasing_trivial_pre_omega
    obtain ⟨G, hG⟩ : ∃ G, nots (getV as z) (getV bs z) = G := ⟨_, rfl⟩
    obtain ⟨N, hN⟩ : ∃ N, nots (getV bs z) (getV as z) = N := ⟨_, rfl⟩
    have gl : G.length ≤ 100 := by have := nots_le (gs := getV as z) (as := getV bs z); rw [hG] at this; omega
    have nl : N.length ≤ 100 := by have := nots_le (gs := getV bs z) (as := getV as z); rw [hN] at this; omega
    rw [hG, hN]
    have eS : st ++ CellC.lst vs :: L.map cel ++ [CellC.lst ((G.map lP).map .pu)] ++ [CellC.lst ((N.map lP).map .pu)] = st ++ .lst vs :: (L ++ [G, N]).map cel := by
      rw [List.map_append, List.append_assoc, List.append_assoc]
      rfl
    have e1 : (st ++ CellC.lst vs :: L.map cel).length = st.length + 1 + L.length := by rw [List.length_append, List.length_cons, List.length_map]; omega
    have e2 : (st ++ CellC.lst vs :: L.map cel ++ [CellC.lst ((G.map lP).map .pu)]).length = st.length + 1 + (L.length + 1) := by rw [List.length_append, e1]; simp only [List.length_cons, List.length_nil]; omega
    rw [eS, e1, e2]
    have cA : ∀ (vs : List Val) (L : List (List Line)) (i : Nat) (ls : List Line), L[i]? = some ls → (st ++ CellC.lst vs :: L.map cel)[st.length + 1 + i]? = some (cel ls) := fun vs L i ls h => by
      rw [List.getElem?_append_right (by omega), show st.length + 1 + i - st.length = i + 1 by omega, List.getElem?_cons_succ, List.getElem?_map, h]
      rfl
    have gA : (L ++ [G, N])[L.length]? = some G := by simp
    have nA : (L ++ [G, N])[L.length + 1]? = some N := by simp
    have q0 : ∀ (vs : List Val) (l : Store), (st ++ .lst vs :: l)[st.length]? = some (.lst vs) := fun vs l => by rw [List.getElem?_append_right (Nat.le_refl _), Nat.sub_self]; rfl
    have p0 : ∀ (vs : List Val) (l : Store) (c : CellC), (st ++ .lst vs :: l).set st.length c = st ++ c :: l := fun vs l c => by rw [List.set_append_right _ _ (Nat.le_refl _), Nat.sub_self]; rfl
    have fm : (ds ++ [z]).flatMap (due1 bs as) = ds.flatMap (due1 bs as) ++ due1 bs as z := by rw [List.flatMap_append, List.flatMap_cons, List.flatMap_nil, List.append_nil]
    have hle : ∀ ls ∈ L ++ [G, N], ls.length ≤ 100 := fun ls h => by
      rcases List.mem_append.mp h with h | h
      · exact hT.le ls h
      · simp only [List.mem_cons, List.not_mem_nil, or_false] at h
        rcases h with rfl | rfl
        · exact gl
        · exact nl
    have old : ∀ (i : Nat) (v : Val) (d : Str × List Line × List Line), vs[i]? = some v → (ds.flatMap (due1 bs as))[i]? = some d → ∃ g c : Nat, v = Val.tupv [.pu (.str d.1), .cell (st.length + 1 + g), .cell (st.length + 1 + c)] ∧ (L ++ [G, N])[g]? = some d.2.1 ∧ (L ++ [G, N])[c]? = some d.2.2 := fun i v d a b => by
      obtain ⟨g, c, h1, h2, h3⟩ := hT.to_ i v d a b
      exact ⟨g, c, h1, by rw [List.getElem?_append_left (List.getElem?_eq_some_iff.mp h2).1]; exact h2, by rw [List.getElem?_append_left (List.getElem?_eq_some_iff.mp h3).1]; exact h3⟩
    decreasing_trivial
    rw [bi_lenc (cA _ _ _ _ gA), W_some]
    simp only
    rw [bi_lenc (cA _ _ _ _ nA), W_some]
    decreasing_trivial_pre_omega
    simp only [List.length_map]
    refine ⟨fun h => ?_, fun h => ?_⟩
    · have h := of_decide_eq_true h
      have hor : nots (getV as z) (getV bs z) ≠ [] ∨ nots (getV bs z) (getV as z) ≠ [] := by
        rw [hG, hN]
        by_cases e : G = []
        · right; rintro rfl; subst e; simp at h
        · exact .inl e
      decreasing_trivial
      refine ⟨isTy_list (q0 _ _), ?_⟩
      rw [show mkT true [Val.pu (.str z), .cell (st.length + 1 + L.length), .cell (st.length + 1 + (L.length + 1))] (st ++ CellC.lst vs :: (L ++ [G, N]).map cel) = some (.tupv [.pu (.str z), .cell (st.length + 1 + L.length), .cell (st.length + 1 + (L.length + 1))], st ++ CellC.lst vs :: (L ++ [G, N]).map cel) from rfl, W_some]
      simp only
      rw [bm_append (q0 _ _) ?hl, W_some, p0]
      case hl =>
        have h1 := due_le (bs := bs) (as := as) ds
        have h2 := congrArg List.length hds
        rw [List.length_append, List.length_cons] at h2
        rw [hT.ln]
        unfold SZ
        omega
      decreasing_trivial_pre_omega
      refine ⟨_, L ++ [G, N], _, _, _, _, _, _, rfl, ⟨?_, ?_, hle⟩, rfl⟩
      · rw [fm, List.length_append, List.length_append, hT.ln]
        unfold due1
        rw [if_pos hor]
        rfl
      · intro i v d a b
        rw [fm] at b
        by_cases hi : i < vs.length
        · rw [List.getElem?_append_left hi] at a
          rw [List.getElem?_append_left (by rw [← hT.ln]; exact hi)] at b
          exact old i v d a b
        · rw [List.getElem?_append_right (by omega)] at a
          rw [List.getElem?_append_right (by rw [← hT.ln]; omega), ← hT.ln] at b
          unfold due1 at b
          rw [if_pos hor] at b
          have hz : i - vs.length = 0 := by
            have := (List.getElem?_eq_some_iff.mp a).1
            simp only [List.length_cons, List.length_nil] at this
            omega
          rw [hz] at a b
          cases a
          cases b
          exact ⟨L.length, L.length + 1, rfl, by rw [gA, hG], by rw [nA, hN]⟩
    · have h := of_decide_eq_false h
      have hno : ¬(nots (getV as z) (getV bs z) ≠ [] ∨ nots (getV bs z) (getV as z) ≠ []) := by
        rw [hG, hN]
        have z1 : G = [] := List.eq_nil_of_length_eq_zero (by omega)
        have z2 : N = [] := List.eq_nil_of_length_eq_zero (by omega)
        simp [z1, z2]
      have hd : due1 bs as z = [] := by unfold due1; rw [if_neg hno]
      refine ⟨vs, L ++ [G, N], _, _, _, _, _, _, rfl, ⟨?_, ?_, hle⟩, rfl⟩
      · rw [fm, hd, List.append_nil]; exact hT.ln
      · rw [fm, hd, List.append_nil]; exact old
end
end Y.Pl

set_option linter.all false
set_option maxRecDepth 100000
set_option Elab.async false
/-! K64u: the plain law of k64: what the law's walk needs. -/
namespace Y.Pl
open PySem
section
variable {cls : List Cd} {gl : Nat → Option P} {ct : List Key → Bool} {wf k : Nat} {zs : List Int}
local macro_rules | `(tactic| decreasing_trivial_pre_omega) => `(tactic| simp only [wss_nil, nxt_nx, nxt_rt, nxt_ct, lp_nx, lp_ct, lp_rt, ws_asg, ws_expr, ws_ret, ws_ife, ws_setLc, ws_for, wt_val, wt_cmp, wt_bop, wb_cons, wb_one, we_int, we_str, we_bl, we_non, we_bin, we_cmp, we_sub, we_bi, we_call, we_lc, we_dct, we_negc, we_slc, we_ife, wo_none, wo_some, view_int, Vw.int.injEq, wkv_nil, wkv_cons, wes_cons, wes_nil, wts_nil, wts_one, w_lcF, we_slot, we_tup, we_lst, we_bm, wg_slot, wg_sub, wg_tupt, wg_tupl, wgs_nil, wgs_cons, W_some, wi_seq, seqI_lst, seqI_tup, slc_pu, slc_put, List.getElem?_cons_zero, List.getElem?_cons_succ, List.set_cons_zero, List.set_cons_succ, List.length_cons, List.length_nil, List.map_cons, List.map_nil, List.cons_append, List.nil_append, List.replicate, Option.some.injEq, exists_eq_left', b_add, b_sub, c_eq, c_lt, c_gt, c_ge, c_eqs, c_eqss, c_notN, in_strs, in_strt, bi_int, bi_len, s_lst, s_tup, mkT0, mkT1, mkT2, mkT3, mkT4, mkT5, mkT6, mkL0, mkL1, mkL2, mkL3, mkL4, mkL10, mkLt, wipeE, Option.map_some, Bool.false_eq_true, Bool.true_eq_false, true_implies, false_implies, and_true, ↓reduceIte, SZ, Nat.reduceAdd, Nat.reduceLT, Nat.reduceLeDiff, true_and])
local macro_rules | `(tactic| decreasing_trivial) => `(tactic| (refine wss_cons.mpr ?_; decreasing_trivial_pre_omega))
theorem wt_not {C : Cfg} {env : Env} {st : Store} {t : T} {Q : Bool → Store → Prop} : WT C (.not t) env st Q ↔ WT C t env st fun b s => Q (!b) s := by
  unfold WT
  rw [evT]
  cases evT C t env st with
  | none => simp [W_none]
  | some q => simp only [W_some, Option.map_some]
theorem sh_kv12 {d w : Nat} : ∀ {kvs : List (Str × P)}, (∀ q ∈ kvs, Nm q.1 ∧ Sh d w q.2) → flatDs (kvs.map (·.2)) = true ∧ PyData.showableKv (((kvs.map fun q => kS q.1).map kxD).zip (toDs (kvs.map (·.2)))) = true ∧ PyData.depthKv (((kvs.map fun q => kS q.1).map kxD).zip (toDs (kvs.map (·.2)))) ≤ d ∧ (PyData.shownKv (((kvs.map fun q => kS q.1).map kxD).zip (toDs (kvs.map (·.2))))).length = kvs.length ∧ ∀ z ∈ PyData.shownKv (((kvs.map fun q => kS q.1).map kxD).zip (toDs (kvs.map (·.2)))), z.length ≤ w + 28
  | [], _ => ⟨by rw [List.map_nil, flatDs], rfl, Nat.zero_le _, rfl, fun z h => by cases h⟩
  | q :: kvs, h => by
    obtain ⟨h1, h2, h3, h4, h5⟩ := sh_kv12 (kvs := kvs) fun r hr => h r (List.mem_cons_of_mem _ hr)
    obtain ⟨⟨k1, k2⟩, k3⟩ := h q List.mem_cons_self
    simp only [List.map_cons, toDs, List.zip_cons_cons]
    refine ⟨by rw [flatDs, k3.fl, h1]; rfl, ?_, ?_, ?_, ?_⟩
    · rw [PyData.showableKv, k3.sh, h2]; rfl
    · rw [PyData.depthKv]
      exact Nat.max_le.mpr ⟨Nat.max_le.mpr ⟨Nat.zero_le _, k3.dp⟩, h3⟩
    · rw [PyData.shownKv, List.length_cons, h4, List.length_cons]
    · intro z hz
      rw [PyData.shownKv] at hz
      rcases List.mem_cons.mp hz with rfl | hz
      · have a1 := alp_repr k1
        have a2 := k3.ln
        have a3 : ((": " : String) : Str).length = 2 := by decide +kernel
        have a4 : (PyData.shown (kxD (kS q.1))).length = (reprText q.1).length := rfl
        rw [str_app, str_app, a3, a4]
        omega
      · exact h5 z hz
theorem Sh.dct12 {d w n : Nat} {kvs : List (Str × P)} (h : ∀ q ∈ kvs, Nm q.1 ∧ Sh d w q.2) (hn : kvs.length ≤ n) : Sh (d + 1) (n * (w + 30) + 2) (dP kvs) := by
  obtain ⟨h1, h2, h3, h4, h5⟩ := sh_kv12 h
  unfold dP
  refine ⟨by rw [flatD, h1, List.length_map, List.length_map]; simp, by rw [toD, PyData.showable, h2], by rw [toD, PyData.depth]; omega, ?_⟩
  rw [toD, PyData.shown, dictText, str_app, str_app]
  have := join_le (sep := ", ") (by decide +kernel) _ h5
  rw [h4] at this
  have e1 : (("{" : String) : Str).length = 1 := by decide +kernel
  have e2 : (("}" : String) : Str).length = 1 := by decide +kernel
  have e3 : kvs.length * (w + 28 + 2) ≤ n * (w + 30) := Nat.mul_le_mul_right _ hn
  rw [e1, e2]
  omega
theorem VOk.sh {m : Nat} {kvs : Vs} (h : VOk m kvs) (hm : m ≤ 15) : Sh 4 9500 (dP (vp kvs)) := by
  refine (Sh.dct12 (d := 3) (w := 1832) (n := 5) (fun q hq => ?_) (by unfold vp; rw [List.length_map]; exact h.ln)).mono (by decide) (by decide)
  obtain ⟨r, hr, rfl⟩ := List.mem_map.mp hq
  refine ⟨h.nm r hr, ?_⟩
  obtain ⟨ms, _, e, hl⟩ := h.ok r hr
  exact sh_lines (n := 15) (by rw [e, (srt_perm ms).length_eq]; omega)
theorem sh_pair {m m' : Nat} {bs as : Vs} (hb : VOk m bs) (ha : VOk m' as) (hm : m ≤ 15) (hm' : m' ≤ 15) : Sh 5 20000 (.lst [dP (vp bs), dP (vp as)]) := (Sh.lst (d := 4) (w := 9500) (n := 2) (fun p hp => by
  simp only [List.mem_cons, List.not_mem_nil, or_false] at hp
  rcases hp with rfl | rfl
  · exact hb.sh hm
  · exact ha.sh hm') (Nat.le_refl _)).mono (by decide) (by decide)
theorem keysU_nm {m m' : Nat} {bs as : Vs} (hb : VOk m bs) (ha : VOk m' as) {z : Str} (h : z ∈ keysU bs as) : Nm z := by
  rw [keysU_mem] at h
  rcases List.mem_append.mp h with h | h
  · obtain ⟨q, hq, rfl⟩ := List.mem_map.mp h; exact hb.nm q hq
  · obtain ⟨q, hq, rfl⟩ := List.mem_map.mp h; exact ha.nm q hq
theorem due_mem {bs as : Vs} {d : Str × List Line × List Line} (h : d ∈ due bs as) : d.1 ∈ keysU bs as ∧ d.2.1 = nots (getV as d.1) (getV bs d.1) ∧ d.2.2 = nots (getV bs d.1) (getV as d.1) := by
  obtain ⟨z, hz, h⟩ := List.mem_flatMap.mp h
  unfold due1 at h
  split at h
  · rw [List.mem_singleton] at h
    subst h
    exact ⟨hz, rfl, rfl⟩
  · cases h
theorem due_len {m m' : Nat} {bs as : Vs} (hb : VOk m bs) (ha : VOk m' as) : (due bs as).length ≤ 10 := by
  have h1 := due_le (bs := bs) (as := as) (keysU bs as)
  have h2 := keysU_len (bs := bs) (as := as)
  have h3 := hb.ln
  have h4 := ha.ln
  show ((keysU bs as).flatMap (due1 bs as)).length ≤ 10
  omega
theorem sh_due {m m' : Nat} {bs as : Vs} (hb : VOk m bs) (ha : VOk m' as) (hm : m ≤ 15) (hm' : m' ≤ 15) : Sh 5 80000 (.lst ((due bs as).map duP)) := (Sh.lst (d := 4) (w := 5600) (n := 10) (fun p hp => by
  obtain ⟨d, hd, rfl⟩ := List.mem_map.mp hp
  obtain ⟨h1, h2, h3⟩ := due_mem hd
  refine (Sh.tup (d := 3) (w := 1832) (n := 3) (fun q hq => ?_) (Nat.le_refl _)).mono (by decide) (by decide)
  simp only [List.mem_cons, List.not_mem_nil, or_false] at hq
  rcases hq with rfl | rfl | rfl
  · exact (Sh.str (n := 12) (keysU_nm hb ha h1).1 (keysU_nm hb ha h1).2).mono (by decide) (by decide)
  · exact sh_lines (n := 15) (by rw [h2]; exact Nat.le_trans nots_le (Nat.le_trans (hb.len _) hm))
  · exact sh_lines (n := 15) (by rw [h3]; exact Nat.le_trans nots_le (Nat.le_trans (ha.len _) hm'))) (by rw [List.length_map]; exact due_len hb ha)).mono (by decide) (by decide)
/-- a letter makes the view of the one before -/
theorem rebuilt_ok {m m' : Nat} {bs as : Vs} (hb : VOk m bs) (ha : VOk m' as) (z : Str) : srt ltLn (nots (nots (getV as z) (getV bs z)) (getV bs z) ++ nots (getV bs z) (getV as z)) = getV as z := by
  obtain ⟨ms, h1, h2, _⟩ := ha.get z
  have hA := ha.nodup z
  have hB := hb.nodup z
  have hp : (nots (nots (getV as z) (getV bs z)) (getV bs z) ++ nots (getV bs z) (getV as z)).Perm (getV as z) := by
    refine (List.perm_ext_iff_of_nodup ?_ hA).mpr fun x => ?_
    · rw [List.nodup_append]
      refine ⟨hB.sublist List.filter_sublist, hA.sublist List.filter_sublist, ?_⟩
      intro x hx y hy e
      subst e
      have a := (List.mem_filter.mp hx).1
      have b := (List.mem_filter.mp hy).2
      simp [a] at b
    · unfold nots
      by_cases a : x ∈ getV as z <;> by_cases b : x ∈ getV bs z <;> simp [List.mem_append, List.mem_filter, a, b]
  rw [srt_one ksL.o hp, h2]
  exact srt_one ksL.o (srt_perm ms)
theorem mapM_f2 {α β γ : Type} {f : α → Option β} {g : γ → β} : ∀ {vs : List α} {ds : List γ}, vs.length = ds.length → (∀ (i : Nat) (v : α) (d : γ), vs[i]? = some v → ds[i]? = some d → f v = some (g d)) → vs.mapM f = some (ds.map g)
  | [], [], _, _ => rfl
  | [], _ :: _, h, _ => by cases h
  | _ :: _, [], h, _ => by cases h
  | v :: vs, d :: ds, h, k => by
    rw [List.mapM_cons, k 0 v d rfl rfl, mapM_f2 (by simpa using h) fun i v d a b => k (i + 1) v d (by simpa using a) (by simpa using b)]
    rfl
theorem Told.repr {n : Nat} {vs : List Val} {L : List (List Line)} {D : List (Str × List Line × List Line)} {st : Store} (h : Told n vs L D) (h1 : st[n]? = some (.lst vs)) (h2 : ∀ (i : Nat) (ls : List Line), L[i]? = some ls → st[n + 1 + i]? = some (cel ls)) : toP 0 st FU (.cell n) = some (.lst (D.map duP)) := by
  rw [show FU = 7 + 1 from rfl, toP, h1]
  simp only
  rw [if_pos (Nat.zero_le _), mapM_f2 (g := duP) h.ln fun i v d a b => ?_]
  · rfl
  obtain ⟨g, c, rfl, hg, hc⟩ := h.to_ i v d a b
  rw [show 7 = 6 + 1 from rfl, toP, List.mapM_cons, List.mapM_cons, List.mapM_cons, List.mapM_nil, show toP 0 st 6 (.pu (.str d.1)) = some (.str d.1) from rfl, show (6 : Nat) = 5 + 1 from rfl, toP_lst (h2 g _ hg) (Nat.zero_le _), toP_lst (h2 c _ hc) (Nat.zero_le _)]
  rfl
theorem Told.closed {n b : Nat} {vs : List Val} {L : List (List Line)} {D : List (Str × List Line × List Line)} (h : Told n vs L D) (hb : n + 1 + L.length ≤ b) : blwC b (.lst vs) = true := by
  show blwL b vs = true
  have : ∀ v ∈ vs, Y.blw b v = true := by
    intro v hv
    obtain ⟨i, hi, e⟩ := List.getElem_of_mem hv
    have hd : i < D.length := by rw [← h.ln]; exact hi
    obtain ⟨g, c, rfl, hg, hc⟩ := h.to_ i v D[i] (by rw [List.getElem?_eq_getElem hi, e]) (List.getElem?_eq_getElem hd)
    have hg := (List.getElem?_eq_some_iff.mp hg).1
    have hc := (List.getElem?_eq_some_iff.mp hc).1
    rw [Y.blw, blwL, blwL, blwL, blwL, Y.blw, Y.blw, Y.blw, decide_eq_true (by omega), decide_eq_true (by omega)]
    rfl
  clear h
  induction vs with
  | nil => rw [blwL]
  | cons v vs ih => rw [blwL, this v List.mem_cons_self, ih fun u hu => this u (List.mem_cons_of_mem _ hu)]; rfl
/-- [before, after] as data -/
theorem frz_pair {a b : Nat} {bs as : Vs} {st : Store} (h1 : DV st b bs) (h2 : st[a]? = some (.dead (dP (vp as)))) (hab : a ≠ b) : mkL false [.cell b, .cell a] st = some (.pu (.lst [dP (vp bs), dP (vp as)]), st.set b (.dead (dP (vp bs)))) := by
  rw [mkL, if_neg (by decide), frzs]
  have e : frz st (.cell b) = some (dP (vp bs), st.set b (.dead (dP (vp bs)))) := by
    rcases h1 with h1 | h1
    · exact frz_dct h1
    · rw [frz_dead h1]
      congr 2
      apply List.ext_getElem?
      intro i
      by_cases e : b = i
      · subst e
        rw [List.getElem?_set_self (List.getElem?_eq_some_iff.mp h1).1, h1]
      · rw [List.getElem?_set_ne e]
  rw [e]
  simp only
  rw [frzs, frz_dead (p := dP (vp as)) (by rw [List.getElem?_set_ne (fun e => hab e.symm)]; exact h2)]
  rfl
theorem frz_pair2 {a b : Nat} {bs as : Vs} {st : Store} (h1 : st[b]? = some (.dead (dP (vp bs)))) (h2 : st[a]? = some (.dead (dP (vp as)))) : mkL false [.cell b, .cell a] st = some (.pu (.lst [dP (vp bs), dP (vp as)]), st) := by
  rw [mkL, if_neg (by decide), frzs, frz_dead h1]
  simp only
  rw [frzs, frz_dead h2]
  rfl
end
end Y.Pl

set_option linter.all false
set_option maxRecDepth 100000
set_option Elab.async false
/-! K64v: the plain law of k64: the law. -/
namespace Y.Pl
open PySem
section
variable {cls : List Cd} {gl : Nat → Option P} {ct : List Key → Bool} {k : Nat} {zs : List Int}
local macro_rules | `(tactic| decreasing_trivial_pre_omega) => `(tactic| simp only [wss_nil, nxt_nx, nxt_rt, nxt_ct, lp_nx, lp_ct, lp_rt, ws_asg, ws_expr, ws_ret, ws_ife, ws_setLc, ws_for, wt_val, wt_cmp, wt_bop, wb_cons, wb_one, we_int, we_str, we_bl, we_non, we_bin, we_cmp, we_sub, we_bi, we_call, we_lc, we_dct, we_negc, we_slc, we_ife, wo_none, wo_some, view_int, Vw.int.injEq, wkv_nil, wkv_cons, wes_cons, wes_nil, wts_nil, wts_one, w_lcF, we_slot, we_tup, we_lst, we_bm, wg_slot, wg_sub, wg_tupt, wg_tupl, wgs_nil, wgs_cons, W_some, wi_seq, seqI_lst, seqI_tup, slc_pu, slc_put, List.getElem?_cons_zero, List.getElem?_cons_succ, List.set_cons_zero, List.set_cons_succ, List.length_cons, List.length_nil, List.map_cons, List.map_nil, List.cons_append, List.nil_append, List.replicate, Option.some.injEq, exists_eq_left', b_add, b_sub, c_eq, c_lt, c_gt, c_ge, c_eqs, c_eqss, c_notN, in_strs, in_strt, bi_int, bi_len, s_lst, s_tup, mkT0, mkT1, mkT2, mkT3, mkT4, mkT5, mkT6, mkL0, mkL1, mkL2, mkL3, mkL4, mkL10, mkLt, wipeE, Option.map_some, Bool.false_eq_true, Bool.true_eq_false, true_implies, false_implies, and_true, ↓reduceIte, SZ, Nat.reduceAdd, Nat.reduceLT, Nat.reduceLeDiff, true_and])
local macro_rules | `(tactic| decreasing_trivial) => `(tactic| (refine wss_cons.mpr ?_; decreasing_trivial_pre_omega))
theorem ws_wh {C : Cfg} {env : Env} {st : Store} {R : Fl → Env → Store → Prop} {t : T} {b : Ss} {k : Nat} (J : Nat → Env → Store → Prop) (h : ∀ k env st, J k env st → WT C t env st fun bb s => (bb = false → R .nx env s) ∧ (bb = true → WSs C b env s (lp (fun e s => ∃ k', k' < k ∧ J k' e s) R))) (hk : k < C.wf) (j : J k env st) : WS C (.whl t b) env st R := by
  rw [ws_whl]
  exact wh_inv J (fun k env st j => h k env st j) C.wf k env st hk j
theorem isNms.nm {xs : List Str} (hm : xs.length ≤ 90) (h : ∀ i (h : i < xs.length), ∃ y : Str, xs[i] = y ++ tl i ∧ y.length ≤ 10 ∧ alp y) : ∀ x ∈ xs, Nm x := by
  intro x hx
  obtain ⟨i, hi, rfl⟩ := List.getElem_of_mem hx
  obtain ⟨y, e, h1, h2⟩ := h i hi
  rw [e]
  refine ⟨alp_app h2 (tl_alp (by omega)), ?_⟩
  rw [str_app, tl_len (by omega)]
  omega
theorem vok_nil {m : Nat} : VOk m [] := ⟨List.nodup_nil, (fun q h => by cases h), (fun q h => by cases h), Nat.zero_le _⟩
theorem blwC_dv {b : Nat} {kvs : Vs} : blwC b (.dct (emv .pu (vp kvs))) = true := by
  show blwL b ((emv Val.pu (vp kvs)).map (·.2)) = true
  rw [show (emv Val.pu (vp kvs)).map (·.2) = ((vp kvs).map (·.2)).map .pu by unfold emv; rw [List.map_map, List.map_map]; rfl]
  exact blwL_pu _
theorem at3_0 {a b c : Val} : at_ [a, b, c] 0 = some a := rfl
theorem at3_1 {a b c : Val} : at_ [a, b, c] 1 = some b := rfl
theorem at3_2 {a b c : Val} : at_ [a, b, c] 2 = some c := rfl
def cp (ps : List P) : CellC := .lst (ps.map .pu)
theorem s_tupv {ct : List Key → Bool} {st : Store} {vs : List Val} {i : Int} : subop ct (.tupv vs) (.pu (.int i)) st = at_ vs i := rfl
theorem set_cp {LP : List (List P)} {i : Nat} {ps : List P} {z : P} : (LP.map cp).set i (.lst (ps.map .pu ++ [.pu z])) = (LP.set i (ps ++ [z])).map cp := by
  rw [List.map_set]
  unfold cp
  rw [List.map_append]
  rfl
theorem lp_step {LP : List (List P)} {i n : Nat} {z : P} (h : i < LP.length) (hl : ∀ ps ∈ LP, ps.length ≤ n) : ∃ ps, (LP.map cp)[i]? = some (.lst (ps.map .pu)) ∧ ps.length ≤ n ∧ ∀ qs ∈ LP.set i (ps ++ [z]), qs.length ≤ n + 1 := by
  refine ⟨LP[i], by rw [List.getElem?_map, List.getElem?_eq_getElem h]; rfl, hl _ (List.getElem_mem h), fun qs hq => ?_⟩
  rcases List.mem_or_eq_of_mem_set hq with hq | hq
  · have := hl qs hq; omega
  · have := hl _ (List.getElem_mem h)
    rw [hq, List.length_append, List.length_singleton]
    omega
theorem law_true64 : W (runF (tblY K64.rows) (C64 cls gl ct 100 (k + 6)) 10 [scr zs] []) fun q => q.1 = .pu (.bl true) := by
  refine (w_run (tbl := tblY K64.rows) (C := C64 cls gl ct 100 (k + 6)) (f := 10) (vs := [scr zs]) (st := []) (fd := ⟨1, 15, K64.b10, 0⟩) (Q := fun v s => v = .pu (.bl true)) rfl rfl ?_ : _)
  unfold K64.b10
  decreasing_trivial
  have B : Base [two 0 0] 0 := ⟨by decide, rfl⟩
  have g : Gd [two 0 0] 0 [two 0 0] := ⟨0, 0, by decide, by decide, rfl⟩
  decreasing_trivial
  refine sp_use0 (sp_names (dr := 2) (nm := 4) (m := 3) (k := k + 3) rfl rfl rfl (by decide)) B g ?_
  rintro _ s1 ⟨NM, rfl, n1, n2⟩ g1
  have hNM := isNms.nm (by omega) n2
  clear n2
  decreasing_trivial
  refine sp_use0 (sp_names (dr := 2) (nm := 4) (m := 5) (k := k + 3) rfl rfl rfl (by decide)) B g1 ?_
  rintro _ s2 ⟨PE, rfl, p1, p2⟩ g2
  have hPE := isNms.nm (by omega) p2
  clear p2
  decreasing_trivial
  refine ⟨rfl, ?_⟩
  refine wss_cons.mpr ?_
  rw [ws_for]
  refine wi_rng ?_
  decreasing_trivial_pre_omega
  refine sp_use (sp_draw (dr := 2) (k := k + 5) rfl (by decide) (by decide)) B g2 (by rfl) ?_
  rintro _ s3 ⟨d, rfl, d0, d1⟩ g3
  obtain ⟨d, rfl⟩ := Int.eq_ofNat_of_zero_le d0
  decreasing_trivial_pre_omega
  refine ⟨1 + d, by push_cast; rfl, by omega, ?_⟩
  have hln : s2.length = 1 := g2.len
  rw [hln]
  have hd : 1 + d ≤ 5 := by omega
  refine for_rng (fun r e t => ∃ (s' l : Store) (b : Nat) (bs : Vs) (x5 x6 x7 x8 x9 x10 x11 x12 x13 x14 : Option Val), Gd [two 0 0] 0 s' ∧ l.all (blwC (1 + l.length)) = true ∧ t = s' ++ l ∧ DV l b bs ∧ VOk (3 * r) bs ∧ e = [some (scr zs), some (.cell 0), some (.pu (.lst (NM.map .str))), some (.pu (.lst (PE.map .str))), some (.cell (1 + b)), x5, x6, x7, x8, x9, x10, x11, x12, x13, x14]) ⟨s3, [.dct []], 0, [], none, none, none, none, none, none, none, none, none, none, g3, rfl, rfl, .inl rfl, vok_nil, rfl⟩ ?_ ?_
  · rintro e t ⟨s', l, b, bs, x5, x6, x7, x8, x9, x10, x11, x12, x13, x14, g', hl, rfl, hD, hV, rfl⟩
    rw [nxt_nx]
    decreasing_trivial
    exact fin0_rt rfl rfl
  rintro r e t hr ⟨s', l, b, bs, x5, x6, x7, x8, x9, x10, x11, x12, x13, x14, g', hl, rfl, hD, hV, rfl⟩
  have hr5 : r < 5 := by omega
  clear g1 g2 g3 g
  have hln : ∀ {s : Store}, Gd [two 0 0] 0 s → s.length = 1 := fun g => g.len
  have hat : ∀ (s l : Store) (i : Nat), Gd [two 0 0] 0 s → (s ++ l)[1 + i]? = l[i]? := fun s l i g => g.at
  have hput : ∀ (s l : Store) (i : Nat) (c : CellC), Gd [two 0 0] 0 s → (s ++ l).set (1 + i) c = s ++ l.set i c := fun s l i c g => g.put
  have hdv : ∀ {s l : Store} {b : Nat} {bs : Vs}, Gd [two 0 0] 0 s → DV l b bs → DV (s ++ l) (1 + b) bs := fun {s l b bs} g h => by
    unfold DV
    rw [hat s l b g]
    exact h
  have hbl := hD.lt
  decreasing_trivial_pre_omega
  decreasing_trivial
  refine ⟨rfl, ?_⟩
  rw [show (CellC.dct (([] : List (Kx × Val)).foldl (fun acc q => putK acc q.1 q.2) []) : CellC) = .dct (emv Val.pu (vp [])) from rfl]
  decreasing_trivial
  rw [bi_listt, W_some]
  decreasing_trivial_pre_omega
  have e1 : (s' ++ l).length = 1 + l.length := by rw [List.length_append, hln g']
  have e2 : (s' ++ l ++ [CellC.dct (emv Val.pu (vp []))]).length = 1 + (l.length + 1) := by rw [List.length_append, e1]; rfl
  rw [e1, e2, show s' ++ l ++ [CellC.dct (emv Val.pu (vp []))] ++ [CellC.lst ((PE.map P.str).map .pu)] = s' ++ (l ++ [.dct (emv .pu (vp [])), .lst ((PE.map P.str).map .pu)]) by rw [List.append_assoc, List.append_assoc]; rfl]
  clear e1 e2
  have hcl : ∀ (l2 : Store), (∀ c ∈ l2, ∀ d, blwC d c = true) → (l ++ l2).all (blwC (1 + (l ++ l2).length)) = true := fun l2 h => by
    rw [List.all_append, all_mono (by rw [List.length_append]; omega) hl, Bool.true_and, List.all_eq_true]
    exact fun c hc => h c hc _
  -- the views after
  refine wss_cons.mpr ?_
  refine ws_wh (k := 5) (fun kk e t => ∃ (s' : Store) (as : Vs) (ls : List Str) (x12 : Option Val), ls.length = kk ∧ as.length + ls.length ≤ 5 ∧ (∀ x ∈ ls, Nm x) ∧ VOk (3 * (r + 1)) as ∧ Gd [two 0 0] 0 s' ∧ t = s' ++ (l ++ [.dct (emv .pu (vp as)), .lst ((ls.map P.str).map .pu)]) ∧ e = [some (scr zs), some (.cell 0), some (.pu (.lst (NM.map .str))), some (.pu (.lst (PE.map .str))), some (.cell (1 + b)), some (.pu (.int r)), some (.cell (1 + l.length)), some (.cell (1 + (l.length + 1))), x8, x9, x10, x11, x12, x13, x14]) ?_ (show 5 < 100 by decide) ⟨s', [], PE, x12, p1, by rw [p1]; decide, hPE, vok_nil, g', rfl, rfl⟩
  rintro kk e t ⟨s', as, ls, x12, rfl, a1, a2, a3, g', rfl, rfl⟩
  have i0 : ∀ x y : CellC, (l ++ [x, y])[l.length]? = some x := fun x y => by rw [List.getElem?_append_right (Nat.le_refl _), Nat.sub_self]; rfl
  have i1 : ∀ x y : CellC, (l ++ [x, y])[l.length + 1]? = some y := fun x y => by rw [List.getElem?_append_right (Nat.le_add_right ..), Nat.add_sub_cancel_left]; rfl
  have j0 : ∀ x y c : CellC, (l ++ [x, y]).set l.length c = l ++ [c, y] := fun x y c => by rw [List.set_append_right _ _ (Nat.le_refl _), Nat.sub_self]; rfl
  have j1 : ∀ x y c : CellC, (l ++ [x, y]).set (l.length + 1) c = l ++ [x, c] := fun x y c => by rw [List.set_append_right _ _ (Nat.le_add_right ..), Nat.add_sub_cancel_left]; rfl
  decreasing_trivial_pre_omega
  rw [bi_lenc ((hat _ _ _ g').trans (i1 _ _)), W_some]
  decreasing_trivial_pre_omega
  refine ⟨fun _ => ?_, fun hgt => ?_⟩
  rotate_left
  · have hpos : 0 < ls.length := by have := of_decide_eq_true hgt; simp only [List.length_map] at this; omega
    have h7 : ∀ (s : Store) (as : Vs) (ls : List Str), Gd [two 0 0] 0 s → (s ++ (l ++ [CellC.dct (emv Val.pu (vp as)), CellC.lst ((ls.map P.str).map .pu)]))[1 + (l.length + 1)]? = some (.lst ((ls.map P.str).map .pu)) := fun s as ls g => (hat _ _ _ g).trans (i1 _ _)
    have h6 : ∀ (s : Store) (as : Vs) (ls : List Str), Gd [two 0 0] 0 s → (s ++ (l ++ [CellC.dct (emv Val.pu (vp as)), CellC.lst ((ls.map P.str).map .pu)]))[1 + l.length]? = some (.dct (emv Val.pu (vp as))) := fun s as ls g => (hat _ _ _ g).trans (i0 _ _)
    have hc2 : ∀ (as : Vs) (ls : List Str), (l ++ [CellC.dct (emv Val.pu (vp as)), CellC.lst ((ls.map P.str).map .pu)]).all (blwC (1 + (l ++ [CellC.dct (emv Val.pu (vp as)), CellC.lst ((ls.map P.str).map .pu)]).length)) = true := fun as ls => hcl _ fun c hc d => by
      simp only [List.mem_cons, List.not_mem_nil, or_false] at hc
      rcases hc with rfl | rfl
      · exact blwC_dv
      · exact blwC_pu
    decreasing_trivial
    refine ⟨isTy_list (h7 _ _ _ g'), ?_⟩
    rw [bi_lenc (h7 _ _ _ g'), W_some]
    simp only
    refine sp_use (sp_draw (dr := 2) (k := k + 5) rfl (by rw [List.length_map, List.length_map]; omega) (by rw [List.length_map, List.length_map]; omega)) B g' (hc2 _ _) ?_
    rintro _ s2 ⟨j, rfl, j0', j1'⟩ g2
    obtain ⟨hd, e⟩ := bm_popAt (ct := ct) (o := false) (h7 s2 as ls g2) (by rw [List.length_map, List.length_map]; unfold SZ; omega) j0' j1'
    rw [show bm (C64 cls gl ct 100 (k + 6)).ct _ _ _ _ _ = _ from e, W_some, hput _ _ _ _ g2, j1]
    have hj : j.toNat < ls.length := by rw [List.length_map, List.length_map] at hd; exact hd
    rw [← map_erase, ← map_erase]
    simp only [List.getElem_map]
    have hx : Nm ls[j.toNat] := a2 _ (List.getElem_mem hj)
    have hll : (ls.eraseIdx j.toNat).length + 1 = ls.length := by rw [List.length_eraseIdx_of_lt hj]; omega
    have hle : ∀ x ∈ ls.eraseIdx j.toNat, Nm x := fun x hx => a2 x (List.mem_of_mem_eraseIdx hx)
    generalize ls[j.toNat] = x at hx
    generalize ls.eraseIdx j.toNat = ls' at hll hle
    decreasing_trivial
    refine sp_use (sp_draw (dr := 2) (k := k + 5) rfl (by decide) (by decide)) B g2 (hc2 _ _) ?_
    rintro _ s3 ⟨c, rfl, c0, c1⟩ g3
    decreasing_trivial_pre_omega
    refine ⟨fun _ => ?_, fun _ => ⟨ls'.length, by omega, s3, as, ls', _, rfl, by omega, hle, a3, g3, rfl, rfl⟩⟩
    decreasing_trivial
    have hD3 : ∀ (s : Store) (x y : CellC), Gd [two 0 0] 0 s → DV (s ++ (l ++ [x, y])) (1 + b) bs := fun s x y g => hdv g hD.app
    refine ⟨dv_ty (hD3 _ _ _ g3), ?_⟩
    rw [dv_get (hD3 _ _ _ g3), W_some]
    simp only
    refine sp_use (sp_turned (k := k + 2) (ls := getV bs x) (by omega) (by omega) hNM (hV.nodup x) (by have := hV.len x; omega)) B g3 (hc2 _ _) ?_
    rintro _ s4 ⟨ms, rfl, m1, m2⟩ g4
    decreasing_trivial_pre_omega
    rw [show P.lst ((srt ltLn ms).map lP) = vP (srt ltLn ms) from rfl, set_dct (f := Val.pu) (kvs := vp as) (a := vP (srt ltLn ms)) (h6 _ _ _ g4) (by unfold vp; rw [List.length_map]; unfold SZ; omega) rfl, W_some, hput _ _ _ _ g4, j0, put_vp]
    have hpl := len_putS_le (kvs := as) (z := x) (a := srt ltLn ms)
    refine ⟨ls'.length, by omega, s4, _, ls', _, rfl, by omega, hle, ⟨nodup_put a3.nd, ?_, ?_, by omega⟩, g4, rfl, rfl⟩
    · intro q hq
      rcases mem_put hq with h | h
      · exact a3.nm q h
      · rw [h]; exact hx
    · intro q hq
      rcases mem_put hq with h | h
      · exact a3.ok q h
      · have := hV.len x
        rw [h]; exact ⟨ms, m1, rfl, by omega⟩
  · have hAb : 1 + l.length ≠ 1 + b := by omega
    have hc2 : (l ++ [CellC.dct (emv Val.pu (vp as)), CellC.lst ((ls.map P.str).map .pu)]).all (blwC (1 + (l ++ [CellC.dct (emv Val.pu (vp as)), CellC.lst ((ls.map P.str).map .pu)]).length)) = true := hcl _ fun c hc d => by
      simp only [List.mem_cons, List.not_mem_nil, or_false] at hc
      rcases hc with rfl | rfl
      · exact blwC_dv
      · exact blwC_pu
    have hCl : Cl (s' ++ (l ++ [CellC.dct (emv Val.pu (vp as)), CellC.lst ((ls.map P.str).map .pu)])) := by
      refine Cl.app' (g'.cl B) ?_
      rw [hln g']
      exact hc2
    decreasing_trivial
    refine W_mono (pw_lletters (k := k + 5) hV a3 (by omega) (by omega) hCl (hdv g' hD.app) ((hat _ _ _ g').trans (i0 _ _)) hAb) ?_
    rintro ⟨_, _⟩ ⟨rfl, rfl⟩
    rw [hput _ _ _ _ g', j0]
    decreasing_trivial_pre_omega
    decreasing_trivial
    rw [frz_pair (bs := bs) (as := as) (hdv g' hD.app) ((hat _ _ _ g').trans (i0 _ _)) hAb, W_some]
    have hshp : Sh 5 20000 (.lst [dP (vp bs), dP (vp as)]) := sh_pair hV a3 (by omega) (by omega)
    rw [bi_repr (p := .lst [dP (vp bs), dP (vp as)]) rfl hshp (by decide) (by unfold SZ; decide), W_some, hput _ _ _ _ g', List.set_append_left _ _ hbl]
    obtain ⟨M, hM⟩ : ∃ M, l.set b (.dead (dP (vp bs))) ++ [CellC.dead (dP (vp as)), CellC.lst ((ls.map P.str).map .pu)] = M := ⟨_, rfl⟩
    have hMl : M.length = l.length + 2 := by rw [← hM, List.length_append, List.length_set]; rfl
    have hMb : M[b]? = some (.dead (dP (vp bs))) := by rw [← hM, List.getElem?_append_left (by rw [List.length_set]; exact hbl), List.getElem?_set_self hbl]
    have hMa : M[l.length]? = some (.dead (dP (vp as))) := by rw [← hM, List.getElem?_append_right (by rw [List.length_set]; exact Nat.le_refl _), List.length_set, Nat.sub_self]; rfl
    have hMc : ∀ d, 1 + M.length ≤ d → M.all (blwC d) = true := fun d hd => by
      rw [← hM, List.all_append, all_mono (by omega) (all_set (c := .dead (dP (vp bs))) rfl hl), List.all_cons, List.all_cons, blwC_pu]
      rfl
    rw [hM]
    clear hM hCl hc2 i0 i1 j0 j1 hcl
    decreasing_trivial
    refine W_mono (pw_letters (k := k + 5) hV a3 (by omega) (by omega) (.inr ((hat _ _ _ g').trans hMb)) (.inr ((hat _ _ _ g').trans hMa))) ?_
    have hsl : (s' ++ M).length = 1 + M.length := by rw [List.length_append, hln g']
    rw [hsl]
    rintro ⟨_, _⟩ ⟨rfl, vs, L, rfl, hT⟩
    have eLP : L.map cel = (L.map fun ls => ls.map lP).map cp := by rw [List.map_map]; rfl
    have hLP : ∀ ps ∈ L.map (fun ls => ls.map lP), ps.length ≤ 100 := fun ps h => by
      obtain ⟨ls, h', rfl⟩ := List.mem_map.mp h
      rw [List.length_map]
      exact hT.le ls h'
    rw [eLP, List.append_assoc]
    have hTo : ∀ (s X : Store), Gd [two 0 0] 0 s → (s ++ (M ++ .lst vs :: X))[1 + M.length]? = some (.lst vs) := fun s X g => by
      rw [hat _ _ _ g, List.getElem?_append_right (Nat.le_refl _), Nat.sub_self]; rfl
    have hTi : ∀ (s X : Store) (i : Nat), Gd [two 0 0] 0 s → (s ++ (M ++ .lst vs :: X))[1 + M.length + 1 + i]? = X[i]? := fun s X i g => by
      rw [show 1 + M.length + 1 + i = 1 + (M.length + (i + 1)) by omega, hat _ _ _ g, List.getElem?_append_right (Nat.le_add_right ..), Nat.add_sub_cancel_left]; rfl
    have hTs : ∀ (s X : Store) (i : Nat) (c : CellC), Gd [two 0 0] 0 s → (s ++ (M ++ .lst vs :: X)).set (1 + M.length + 1 + i) c = s ++ (M ++ .lst vs :: X.set i c) := fun s X i c g => by
      rw [show 1 + M.length + 1 + i = 1 + (M.length + (i + 1)) by omega, hput _ _ _ _ g, List.set_append_right _ _ (Nat.le_add_right ..), Nat.add_sub_cancel_left]; rfl
    have hb4 : ∀ (s X : Store), Gd [two 0 0] 0 s → (s ++ (M ++ X))[1 + b]? = some (.dead (dP (vp bs))) := fun s X g => by
      rw [hat _ _ _ g, List.getElem?_append_left (by omega)]; exact hMb
    have ha4 : ∀ (s X : Store), Gd [two 0 0] 0 s → (s ++ (M ++ X))[1 + l.length]? = some (.dead (dP (vp as))) := fun s X g => by
      rw [hat _ _ _ g, List.getElem?_append_left (by omega)]; exact hMa
    have hc4 : ∀ (LP : List (List P)) (d : Nat), LP.length = L.length → 1 + (M ++ .lst vs :: LP.map cp).length ≤ d → (M ++ .lst vs :: LP.map cp).all (blwC d) = true := fun LP d h hd => by
      rw [List.length_append, List.length_cons, List.length_map] at hd
      rw [List.all_append, hMc d (by omega), List.all_cons, hT.closed (by omega), Bool.true_and, Bool.true_and, List.all_map, List.all_eq_true]
      exact fun ps _ => blwC_pu
    have hLl : (L.map fun ls => ls.map lP).length = L.length := List.length_map ..
    have hrT : ∀ s, Gd [two 0 0] 0 s → toP 0 (s ++ (M ++ .lst vs :: (L.map fun ls => ls.map lP).map cp)) FU (.cell (1 + M.length)) = some (.lst ((due bs as).map duP)) := fun s g => hT.repr (hTo _ _ g) fun i ls h => by
      rw [hTi _ _ _ g, ← eLP, List.getElem?_map, h]; rfl
    have hshd : Sh 5 80000 (.lst ((due bs as).map duP)) := sh_due hV a3 (by omega) (by omega)
    generalize hQ : (L.map fun ls => ls.map lP) = LP0 at hLP hLl hrT eLP ⊢
    clear hQ eLP
    decreasing_trivial_pre_omega
    -- the checks
    refine wss_cons.mpr ?_
    rw [ws_ife, wt_bop, wb_cons, wt_cmp]
    decreasing_trivial_pre_omega
    rw [bi_repr (hrT _ g') hshd (by decide) (by unfold SZ; decide), W_some]
    simp only
    rw [bi_repr (p := .lst ((due bs as).map duP)) rfl hshd (by decide) (by unfold SZ; decide), W_some, c_nes, decide_eq_true rfl, W_some, if_pos (show (!true) = false from rfl)]
    decreasing_trivial_pre_omega
    rw [frz_pair2 (hb4 _ _ g') (ha4 _ _ g'), W_some, bi_repr (p := .lst [dP (vp bs), dP (vp as)]) rfl hshp (by decide) (by unfold SZ; decide), W_some, c_nes, decide_eq_true rfl, W_some, if_pos (show (!true) = false from rfl)]
    simp only [wt_not]
    decreasing_trivial_pre_omega
    refine sp_use (sp_any (k := k + 1) (by omega) (by omega) hNM) B g' (hc4 _ _ hLl (Nat.le_refl _)) ?_
    rintro _ s5 rfl g5
    rw [show ∀ st : Store, truth st (.pu (.bl true)) = some true from fun _ => rfl, W_some]
    refine ⟨fun h => Bool.noConfusion h, fun _ => ?_⟩
    clear g'
    -- each letter
    decreasing_trivial
    rw [List.map_map]
    refine for_g (fun ds e t => ∃ x11 x12 x13 x14, t = s5 ++ (M ++ .lst vs :: LP0.map cp) ∧ e = [some (scr zs), some (.cell 0), some (.pu (.lst (NM.map .str))), some (.pu (.lst (PE.map .str))), some (.cell (1 + b)), some (.pu (.int r)), some (.cell (1 + l.length)), some (.cell (1 + (l.length + 1))), some (.pu (.lst ((due bs as).map duP))), some (.pu (.str (toD (.lst [dP (vp bs), dP (vp as)])).shown)), some (.cell (1 + M.length)), x11, x12, x13, x14]) ⟨_, _, _, _, rfl, rfl⟩ ?_ ?_
    rotate_left
    · rintro ds x rs e t hds ⟨x11, x12, x13, x14, rfl, rfl⟩
      obtain ⟨hx1, hx2, hx3⟩ := due_mem (bs := bs) (as := as) (d := x) (by rw [hds]; simp)
      have y1 := hV.len x.1
      have y2 := a3.len x.1
      have hCl : Cl (s5 ++ (M ++ .lst vs :: LP0.map cp)) := by
        refine Cl.app' (g5.cl B) ?_
        rw [hln g5]
        exact hc4 _ _ hLl (Nat.le_refl _)
      show W (asgG _ (.slot 11) (.pu (.tup [.str x.1, .lst (x.2.1.map lP), .lst (x.2.2.map lP)])) _ _) _
      try decreasing_trivial_pre_omega
      decreasing_trivial
      refine ⟨dv_ty (.inr (hb4 _ _ g5)), ?_⟩
      rw [at3_0, W_some]
      try simp only
      rw [dv_get (.inr (hb4 _ _ g5)), W_some]
      try decreasing_trivial_pre_omega
      decreasing_trivial
      rw [at3_0, W_some, at3_1, W_some]
      try simp only
      rw [bi_listf, W_some, at3_2, W_some]
      try simp only
      rw [bi_listf, W_some]
      try decreasing_trivial_pre_omega
      refine pf_use (pf_rebuilt (k := k + 5) (as := getV bs x.1) (gs := x.2.1) (cs := x.2.2) (by rw [hx3]; have := nots_le (gs := getV bs x.1) (as := getV as x.1); omega)) hCl ?_
      rw [hx2, hx3, rebuilt_ok hV a3]
      try decreasing_trivial_pre_omega
      have hshv : Sh 3 1832 (.lst ((getV as x.1).map lP)) := sh_lines (n := 15) (by omega)
      refine wss_cons.mpr ?_
      rw [ws_ife, wt_bop, wb_cons, wt_cmp]
      try decreasing_trivial_pre_omega
      rw [bi_repr (p := .lst ((getV as x.1).map lP)) rfl hshv (by decide) (by unfold SZ; decide), W_some]
      try simp only
      refine ⟨dv_ty (.inr (ha4 _ _ g5)), ?_⟩
      rw [at3_0, W_some]
      try simp only
      rw [dv_get (.inr (ha4 _ _ g5)), W_some]
      try simp only
      rw [bi_repr (p := .lst ((getV as x.1).map lP)) rfl hshv (by decide) (by unfold SZ; decide), W_some, c_nes, decide_eq_true rfl, W_some, if_pos (show (!true) = false from rfl)]
      try decreasing_trivial_pre_omega
      rw [frz_pair2 (hb4 _ _ g5) (ha4 _ _ g5), W_some, bi_repr (p := .lst [dP (vp bs), dP (vp as)]) rfl hshp (by decide) (by unfold SZ; decide), W_some, c_nes, decide_eq_true rfl, W_some]
      exact ⟨fun h => Bool.noConfusion h, fun _ => ⟨_, _, _, _, rfl, rfl⟩⟩
    rintro e t ⟨x11, x12, x13, x14, rfl, rfl⟩
    rw [nxt_nx]
    -- the letters changed
    have hvl : vs.length ≤ 10 := by rw [hT.ln]; exact due_len hV a3
    refine wss_cons.mpr ?_
    rw [ws_forL]
    try decreasing_trivial_pre_omega
    refine ⟨_, rfl, ?_⟩
    refine live_fix (n := 1 + M.length) (vs := vs) (show vs.length < 100 by omega) (fun i e t => ∃ (LP : List (List P)) (x11 : Option Val), LP.length = L.length ∧ (∀ ps ∈ LP, ps.length ≤ 100 + 2 * i) ∧ t = s5 ++ (M ++ .lst vs :: LP.map cp) ∧ e = [some (scr zs), some (.cell 0), some (.pu (.lst (NM.map .str))), some (.pu (.lst (PE.map .str))), some (.cell (1 + b)), some (.pu (.int r)), some (.cell (1 + l.length)), some (.cell (1 + (l.length + 1))), some (.pu (.lst ((due bs as).map duP))), some (.pu (.str (toD (.lst [dP (vp bs), dP (vp as)])).shown)), some (.cell (1 + M.length)), x11, x12, x13, x14]) ⟨LP0, _, hLl, fun ps h => by have := hLP ps h; omega, rfl, rfl⟩ ?_ ?_ ?_
    · rintro i e t ⟨LP, x11, z1, z2, rfl, rfl⟩
      exact hTo _ _ g5
    rotate_left
    · rintro i v e t hv ⟨LP, x11, z1, z2, rfl, rfl⟩
      have hi := (List.getElem?_eq_some_iff.mp hv).1
      obtain ⟨gg, cc, rfl, hg, hc⟩ := hT.to_ i v ((due bs as)[i]'(by rw [← hT.ln]; exact hi)) hv (List.getElem?_eq_getElem _)
      generalize (due bs as)[i]'(by rw [← hT.ln]; exact hi) = dd
      have hg := (List.getElem?_eq_some_iff.mp hg).1
      have hc := (List.getElem?_eq_some_iff.mp hc).1
      rw [← z1] at hg hc
      obtain ⟨ps, hps, hpl, hpn⟩ := lp_step (z := .tup [.str "zz"]) hg z2
      try decreasing_trivial_pre_omega
      decreasing_trivial
      rw [s_tupv, at3_1, W_some]
      refine ⟨isTy_list ((hTi _ _ _ g5).trans hps), ?_⟩
      rw [bm_append ((hTi _ _ _ g5).trans hps) (by rw [List.length_map]; unfold SZ; omega), W_some, hTs _ _ _ _ g5, set_cp]
      have hc2 : cc < (LP.set gg (ps ++ [.tup [.str "zz"]])).length := by rw [List.length_set]; exact hc
      have z1' : (LP.set gg (ps ++ [.tup [.str "zz"]])).length = L.length := by rw [List.length_set]; exact z1
      generalize LP.set gg (ps ++ [.tup [.str "zz"]]) = LP' at hpn hc2 z1' ⊢
      obtain ⟨ps', hps', hpl', hpn'⟩ := lp_step (z := .tup [.str "zz"]) hc2 hpn
      try decreasing_trivial_pre_omega
      decreasing_trivial
      rw [s_tupv, at3_2, W_some]
      refine ⟨isTy_list ((hTi _ _ _ g5).trans hps'), ?_⟩
      rw [bm_append ((hTi _ _ _ g5).trans hps') (by rw [List.length_map]; unfold SZ; omega), W_some, hTs _ _ _ _ g5, set_cp]
      try decreasing_trivial_pre_omega
      exact ⟨_, _, by rw [List.length_set]; exact z1', fun ps h => by have := hpn' ps h; omega, rfl, rfl⟩
    rintro e t ⟨LP, x11, z1, z2, rfl, rfl⟩
    rw [nxt_nx]
    have hX : ∀ X : Store, (s5 ++ (M ++ .lst vs :: LP.map cp) ++ X)[(s5 ++ (M ++ .lst vs :: LP.map cp)).length]? = X[0]? := fun X => by rw [List.getElem?_append_right (Nat.le_refl _), Nat.sub_self]
    decreasing_trivial
    refine W_mono (pw_letters (k := k + 5) hV a3 (by omega) (by omega) (.inr (hb4 _ _ g5)) (.inr (ha4 _ _ g5))) ?_
    rintro ⟨_, _⟩ ⟨rfl, vs', L', rfl, hT'⟩
    try simp only
    rw [bi_repr (hT'.repr (hX _) fun i ls h => ?hi) hshd (by decide) (by unfold SZ; decide), W_some]
    case hi =>
      rw [List.getElem?_append_right (by omega), show (s5 ++ (M ++ .lst vs :: LP.map cp)).length + 1 + i - (s5 ++ (M ++ .lst vs :: LP.map cp)).length = i + 1 by omega, List.getElem?_cons_succ, List.getElem?_map, h]
      rfl
    try simp only
    rw [bi_repr (p := .lst ((due bs as).map duP)) rfl hshd (by decide) (by unfold SZ; decide), W_some, c_nes, decide_eq_true rfl, W_some]
    refine ⟨fun h => Bool.noConfusion h, fun _ => ?_⟩
    decreasing_trivial
    have hDl : DV (M ++ .lst vs :: LP.map cp ++ .lst vs' :: L'.map cel) l.length as := by
      right
      rw [List.append_assoc, List.getElem?_append_left (by omega)]
      exact hMa
    refine ⟨s5, M ++ .lst vs :: LP.map cp ++ .lst vs' :: L'.map cel, l.length, as, _, _, _, _, _, _, _, _, _, _, g5, ?_, by rw [List.append_assoc s5], hDl, a3, rfl⟩
    have hn5 : (s5 ++ (M ++ .lst vs :: LP.map cp)).length = 1 + (M ++ .lst vs :: LP.map cp).length := by rw [List.length_append, hln g5]
    rw [hn5] at hT'
    rw [List.length_append, List.length_cons, List.length_map, List.all_append, hc4 LP _ z1 (by omega), List.all_cons, hT'.closed (by omega), Bool.true_and, Bool.true_and, List.all_map, List.all_eq_true]
    exact fun ls _ => blwC_pu
end
end Y.Pl
open Y.Pl in
theorem Y.K64.ev : Y.K64.Ev 6 := by
  refine ⟨⟨fun _ => 0, fun _ => false⟩, [], 100, fun zs _ => ?_⟩
  obtain ⟨⟨v, s⟩, h, rfl⟩ := law_true64 (cls := []) (gl := glY K64.consts) (ct := fun _ => false) (k := 0) (zs := zs)
  exact ⟨s, h⟩
set_option Elab.async false
set_option maxRecDepth 100000 in
set_option maxHeartbeats 0 in
theorem PySem.Challenge.cw_streamrooms_k64_letters_holds : PySem.Challenge.rw_streamrooms_k64_letters.Holds := by
  exact Y.K64.holds_of ⟨rfl, by decide, by decide⟩ Y.K64.ev

