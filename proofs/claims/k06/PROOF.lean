import PyProof.Rows.All
import Wide.All
import OpenK.AllK
import Wide.FinOn
import PySem.Challenge.RW_keptclauses_k06_whole_what_rows_end_with
import PyProof.ReprReads
import PyProof.EqLayable
import PyProof.SliceList
import HandS.ForMost
import HandS.Exc
import HandS.WordsExc
import HandS.IsInst
import HandS.Wide
import HandS.TupAny
import HandS.SortInts
import HandS.Zip
import HandS.RaiseMore
import HandS.Defaults
import HandS.DictComp
import HandS.HeadHook1
import HandS.More
import KE.DataEq
import HandS.SortRule
import HandS.Style
import HandS.Iter
import HandS.TryOnly
import HandS.Small
import KE.KRevSl
import HandS.Sort
import PyProof.ListRange
import HandS.ExcField
import HandS.ExcIs
import HandS.ExcInit
import HandS.ClsMeth
import HandS.HeadHook2
import HandS.Ends
import HandS.EndBits
import KE.KStateDown
import HandS.Head0
import PyProof.Rows.RegStrFacts
import Lean
import HandS.Head1
import HandS.Head2
import HandS.HeadEnd
set_option Elab.async false
set_option linter.all false
set_option maxRecDepth 100000
/-! VMCore: a small machine over plain data. Texts are PySem.Str, dict keys Sum Int Str. Everything here is a function. -/
namespace VM
open PySem (Str PyData)

/-- a value: scalars, tuples, lists and dicts that nobody changes any more, by their content; a cell of the heap by its number -/
inductive Vl where
  | non
  | bl (b : Bool)
  | int (i : Int)
  | str (s : Str)
  | tup (vs : List Vl)
  | lst (vs : List Vl)
  | dct (kvs : List (Sum Int Str × Vl))
  | ref (a : Nat)
  | exn (x : Str) (fs : List (Str × Vl))
/-- a result: a value, or a list or dict that is new and nobody else's -/
inductive Rv where
  | v (x : Vl)
  | ol (vs : List Vl)
  | od (kvs : List (Sum Int Str × Vl))
def Rv.fz : Rv → Vl
  | .v x => x
  | .ol vs => .lst vs
  | .od kvs => .dct kvs
inductive Cell where
  | lst (vs : List Vl)
  | dct (kvs : List (Sum Int Str × Vl))
abbrev Heap := List Cell
structure St where
  env : List (Option Rv)
  hp : Heap
/-- an exception of the program's own: its class by its name, its fields -/
structure Ex where
  c : Str
  fs : List (Str × Vl)
inductive R (α : Type) where
  | ok (a : α) (s : St)
  | exc (x : Ex) (s : St)
  | bad
abbrev M (α : Type) := St → R α
@[inline] def M.pure {α : Type} (a : α) : M α := fun s => .ok a s
@[inline] def M.bind {α β : Type} (m : M α) (f : α → M β) : M β := fun s => match m s with
  | .ok a s' => f a s'
  | .exc x s' => .exc x s'
  | .bad => .bad
instance : Monad M := { pure := M.pure, bind := M.bind }
def bad {α : Type} : M α := fun _ => .bad
def lift {α : Type} (o : Option α) : M α := fun s => match o with
  | some a => .ok a s
  | none => .bad

/-- how long a list, a tuple, a text may be -/
abbrev top : Nat := 16777216
/-! ### plain data -/
mutual
def pd : Vl → Option PyData
  | .non => some .none
  | .bl b => some (.bool b)
  | .int i => some (.int i)
  | .str s => some (.str s)
  | .tup vs => (pds vs).map PyData.tuple
  | .lst vs => (pds vs).map PyData.list
  | .dct _ => none
  | .ref _ => none
  | .exn _ _ => none
def pds : List Vl → Option (List PyData)
  | [] => some []
  | v :: vs => match pd v, pds vs with
    | some d, some ds => some (d :: ds)
    | _, _ => none
end
/-- a == b -/
def eqV (a b : Vl) : Option Bool := match pd a, pd b with
  | some d, some e => if d.depth ≤ 64 ∧ e.depth ≤ 64 then some (PyData.eqv d e) else none
  | _, _ => none
def isNon : Vl → Bool
  | .non => true
  | _ => false
def isEx : Vl → Bool
  | .exn _ _ => true
  | _ => false
/-- repr -/
def reprV (a : Vl) : Option Str := match pd a with
  | some d => if d.showable = true ∧ d.depth ≤ 64 ∧ d.shown.length ≤ top then some d.shown else none
  | none => none
def flat : Vl → Bool
  | .non | .bl _ | .int _ | .str _ => true
  | _ => false
/-- x == y of flat values -/
def eqF : Vl → Vl → Bool
  | .non, .non => true
  | .bl a, .bl b => a == b
  | .bl a, .int b => (if a then 1 else 0) == b
  | .int a, .bl b => a == (if b then 1 else 0)
  | .int a, .int b => a == b
  | .str a, .str b => a == b
  | _, _ => false
/-! ### dicts -/
def keyOf : Vl → Option (Sum Int Str)
  | .int i => some (.inl i)
  | .str s => some (.inr s)
  | _ => none
def ofKey : Sum Int Str → Vl
  | .inl i => .int i
  | .inr s => .str s
def dget (k : Sum Int Str) (kvs : List (Sum Int Str × Vl)) : Option Vl := (kvs.find? fun p => decide (p.1 = k)).map (·.2)
/-- in its place, or behind the others -/
def dput (k : Sum Int Str) (v : Vl) (kvs : List (Sum Int Str × Vl)) : List (Sum Int Str × Vl) :=
  if (kvs.any fun p => decide (p.1 = k)) = true then kvs.map (fun p => if p.1 = k then (p.1, v) else p) else kvs ++ [(k, v)]
def ddel (k : Sum Int Str) (kvs : List (Sum Int Str × Vl)) : List (Sum Int Str × Vl) := kvs.filter fun p => decide (p.1 ≠ k)
/-! ### operators -/
inductive Bop where
  | add | sub | mul | mod | fdiv | pow | shl | shr | band
  deriving DecidableEq
inductive Cop where
  | eq | ne | lt | le | gt | ge | isin | notin
  deriving DecidableEq
inductive Ty where
  | int | bool | str | tuple | list | dict
  deriving DecidableEq
inductive Bi where
  | len | abs | min | max | int | str | repr | list | tuple | all | any | sum | sorted
  deriving DecidableEq
def cell (h : Heap) (a : Nat) : Option Cell := h[a]?
/-- the items of a list, a tuple -/
def items (h : Heap) : Vl → Option (List Vl)
  | .tup vs => some vs
  | .lst vs => some vs
  | .ref a => match h[a]? with
    | some (.lst vs) => some vs
    | _ => none
  | _ => none
def lits (h : Heap) : Vl → Option (List Vl)
  | .lst vs => some vs
  | .ref a => match h[a]? with
    | some (.lst vs) => some vs
    | _ => none
  | _ => none
def dits (h : Heap) : Vl → Option (List (Sum Int Str × Vl))
  | .dct kvs => some kvs
  | .ref a => match h[a]? with
    | some (.dct kvs) => some kvs
    | _ => none
  | _ => none
/-- the value with its own list told by content (for == and repr) -/
def deref (h : Heap) : Vl → Vl
  | .ref a => match h[a]? with
    | some (.lst vs) => .lst vs
    | some (.dct kvs) => .dct kvs
    | none => .ref a
  | v => v
def bop (h : Heap) (o : Bop) (a b : Vl) : Option Rv := match o with
  | .add => match a, b with
    | .int i, .int j => some (.v (.int (i + j)))
    | .str x, .str y => if x.length + y.length ≤ top then some (.v (.str (x ++ y))) else none
    | .tup xs, .tup ys => if xs.length + ys.length ≤ top then some (.v (.tup (xs ++ ys))) else none
    | a, b => match lits h a, lits h b with
      | some xs, some ys => if xs.length + ys.length ≤ top then some (.ol (xs ++ ys)) else none
      | _, _ => none
  | .sub => match a, b with
    | .int i, .int j => some (.v (.int (i - j)))
    | _, _ => none
  | .mul => match a, b with
    | .int i, .int j => if i.natAbs.log2 + j.natAbs.log2 < 1000000 ∨ j = 0 ∨ j = 1 then some (.v (.int (i * j))) else none
    | _, _ => none
  | .mod => match a, b with
    | .int i, .int j => if 0 < j then some (.v (.int (i % j))) else none
    | _, _ => none
  | .fdiv => match a, b with
    | .int i, .int j => if 0 < j ∧ j.natAbs.log2 < 9000 then some (.v (.int (i / j))) else none
    | _, _ => none
  | .pow => match a, b with
    | .int i, .int j => if 0 ≤ j ∧ j ≤ 1000000 ∧ i.natAbs < 2 ^ 64 then some (.v (.int (i ^ j.toNat))) else none
    | _, _ => none
  | .shl => match a, b with
    | .int i, .int j => if 0 ≤ j ∧ j ≤ 1000000 ∧ i.natAbs < 2 ^ 64 then some (.v (.int (i * 2 ^ j.toNat))) else none
    | _, _ => none
  | .shr => match a, b with
    | .int i, .int j => if 0 ≤ j then some (.v (.int (i / 2 ^ j.toNat))) else none
    | _, _ => none
  | .band => match a, b with
    | .int i, .int j => some (.v (.int (PySem.Builtin.bitAnd i j)))
    | _, _ => none
def cop (h : Heap) (o : Cop) (a b : Vl) : Option Bool := match o with
  | .eq => eqV (deref h a) (deref h b)
  | .ne => (eqV (deref h a) (deref h b)).map not
  | .lt => match a, b with
    | .int i, .int j => some (decide (i < j))
    | _, _ => none
  | .le => match a, b with
    | .int i, .int j => some (decide (i ≤ j))
    | _, _ => none
  | .gt => match a, b with
    | .int i, .int j => some (decide (j < i))
    | _, _ => none
  | .ge => match a, b with
    | .int i, .int j => some (decide (j ≤ i))
    | _, _ => none
  | .isin => isIn h a b
  | .notin => (isIn h a b).map not
where
  isIn (h : Heap) (a b : Vl) : Option Bool := match dits h b with
    | some kvs => (keyOf a).map fun k => (dget k kvs).isSome
    | none => match items h b with
      | some xs => if flat a && xs.all flat then some (xs.any fun y => eqF y a) else none
      | none => none
/-- a place of a list of n items -/
def place (n : Nat) (i : Int) : Option Nat := if 0 ≤ i then (if i < n then some i.toNat else none) else if -(n : Int) ≤ i then some (i + n).toNat else none
def idx (h : Heap) (a i : Vl) : Option Vl := match dits h a with
  | some kvs => match keyOf i with
    | some k => dget k kvs
    | none => none
  | none => match i with
    | .int i => match items h a with
      | some xs => match place xs.length i with
        | some j => xs[j]?
        | none => none
      | none => match a with
        | .str z => if z.length ≤ top then match place z.length i with
            | some j => (z.cps[j]?).map fun c => .str ⟨#[c]⟩
            | none => none
          else none
        | _ => none
    | _ => none
/-- where a slice begins or ends -/
def cutAt (n d : Nat) : Option Int → Nat
  | none => d
  | some v => if v < 0 then (v + n).toNat else min v.toNat n
def cut {α : Type} (xs : List α) (lo hi : Option Int) : List α := (xs.drop (cutAt xs.length 0 lo)).take (cutAt xs.length xs.length hi - cutAt xs.length 0 lo)
def slc (h : Heap) (a : Vl) (l u : Option Int) : Option Rv := match a with
  | .tup vs => some (.v (.tup (cut vs l u)))
  | a => (lits h a).map fun vs => .ol (cut vs l u)
def rev (h : Heap) (a : Vl) : Option Rv := match a with
  | .tup vs => some (.v (.tup vs.reverse))
  | a => (lits h a).map fun vs => .ol vs.reverse
def truth (h : Heap) (a : Vl) : Option Bool := match a with
  | .non => some false
  | .bl b => some b
  | .int i => some (i != 0)
  | .str s => if s.length ≤ top then some ((s.length : Int) != 0) else none
  | a => match dits h a with
    | some kvs => some (!kvs.isEmpty)
    | none => (items h a).map fun vs => !vs.isEmpty
def isTy (h : Heap) (a : Vl) : Ty → Bool
  | .int => match a with
    | .int _ => true
    | .bl _ => true
    | _ => false
  | .bool => match a with
    | .bl _ => true
    | _ => false
  | .str => match a with
    | .str _ => true
    | _ => false
  | .tuple => match a with
    | .tup _ => true
    | _ => false
  | .list => (lits h a).isSome
  | .dict => (dits h a).isSome
def boolsOf : List Vl → Option (List Bool)
  | [] => some []
  | .bl b :: vs => (boolsOf vs).map (b :: ·)
  | _ :: _ => none
def intsOf : List Vl → Option (List Int)
  | [] => some []
  | .int i :: vs => (intsOf vs).map (i :: ·)
  | _ :: _ => none
def insI (i : Int) : List Int → List Int
  | [] => [i]
  | j :: r => if i ≤ j then i :: j :: r else j :: insI i r
def sortI : List Int → List Int
  | [] => []
  | i :: r => insI i (sortI r)
def pairOf : Vl → Option (Int × Int)
  | .tup [.int i, .int j] => some (i, j)
  | _ => none
def keyP (v : Vl) : Int × Int := (pairOf v).getD (0, 0)
def ltPr (p q : Int × Int) : Bool := if p.1 = q.1 then decide (p.2 < q.2) else decide (p.1 < q.1)
/-- behind those that are not above it -/
def insP {α : Type} (k : α → Int × Int) (x : α) : List α → List α
  | [] => [x]
  | y :: r => if ltPr (k x) (k y) = true then x :: y :: r else y :: insP k x r
def sortP {α : Type} (k : α → Int × Int) (l : List α) : List α := l.foldl (fun acc x => insP k x acc) []
def keyInts : List (Sum Int Str × Vl) → Option (List Int)
  | [] => some []
  | (.inl i, _) :: r => (keyInts r).map (i :: ·)
  | _ :: _ => none
def bi (h : Heap) (f : Bi) (as : List Vl) : Option Rv := match f, as with
  | .len, [a] => match a with
    | .str s => if s.length ≤ top then some (.v (.int s.length)) else none
    | a => match dits h a with
      | some kvs => some (.v (.int kvs.length))
      | none => (items h a).map fun vs => .v (.int vs.length)
  | .abs, [.int i] => some (.v (.int (if i < 0 then -i else i)))
  | .min, [.int i, .int j] => some (.v (.int (if j < i then j else i)))
  | .max, [.int i, .int j] => some (.v (.int (if j > i then j else i)))
  | .int, [.int i] => some (.v (.int i))
  | .int, [.bl b] => some (.v (.int (if b then 1 else 0)))
  | .str, [.int i] => if i.natAbs.log2 < 1920 then some (.v (.str (toString i))) else none
  | .repr, [a] => (reprV (deref h a)).map fun s => .v (.str s)
  | .list, [a] => (items h a).map .ol
  | .tuple, [a] => (items h a).map fun vs => .v (.tup vs)
  | .all, [a] => match lits h a with
    | some vs => (boolsOf vs).map fun bs => .v (.bl (bs.all id))
    | none => none
  | .any, [a] => match lits h a with
    | some vs => (boolsOf vs).map fun bs => .v (.bl (bs.any id))
    | none => none
  | .sum, [a] => match lits h a with
    | some vs => (intsOf vs).map fun ns => .v (.int ns.sum)
    | none => none
  | .sorted, [a] => match dits h a with
    | some kvs => if kvs.length < 64 then (keyInts kvs).map fun ns => .ol ((sortI ns).map .int) else none
    | none => match lits h a with
      | some vs => match intsOf vs with
        | some ns => some (.ol ((sortI ns).map .int))
        | none => if vs.all (fun v => (pairOf v).isSome) then some (.ol (sortP keyP vs)) else none
      | none => none
  | _, _ => none

/-! ### the text -/
inductive T where
  | n (i : Nat)
  | tup (ts : List T)
mutual
inductive E where
  | var (i : Nat)
  | cst (v : Vl)
  | glob (g : Nat)
  | tup (es : Es)
  | lst (es : Es)
  | bin (o : Bop) (a b : E)
  | neg (a : E)
  | nt (a : E)
  | cmp (o : Cop) (a b : E)
  | isN (a : E)
  | notN (a : E)
  | chain (a : E) (o : Cop) (b : E) (u : Cop) (c : E)
  | and (a b : E)
  | or (a b : E)
  | ife (c a b : E)
  | idx (a i : E)
  | slc (a : E) (lo hi : Eo)
  | rev (a : E)
  | call (f : Nat) (es : Es)
  | bi (f : Bi) (es : Es)
  | isa (a : E) (ts : List Ty)
  | lc (elt : E) (t : T) (it : It) (ifs : Es) (own : List Nat)
  | dc (k v : E) (t : T) (it : It) (own : List Nat)
  | alloc (e : E)
  | d0
  | isB (a : E) (b : Bool)
  | notB (a : E) (b : Bool)
  | fld (a : E) (kn : List Str) (f : Str)
  | isX (a : E) (kn cs : List Str)
  | lrg (a b : E)
  | stp (a lo : E) (k : Nat)
inductive Es where
  | nil
  | cons (e : E) (es : Es)
inductive Eo where
  | no
  | some (e : E)
inductive It where
  | e (e : E)
  | range1 (a : E)
  | range2 (a b : E)
  | enum (e : E)
  | zip (a b : E)
end
mutual
inductive S where
  | asg (t : T) (e : E)
  | put (o i e : E)
  | app (i : Nat) (e : E)
  | expr (e : E)
  | iff (c : E) (a b : Ss)
  | loop (t : T) (it : It) (body : Ss)
  | whl (c : E) (body : Ss)
  | ret (e : E)
  | retN
  | pass
  | brk
  | cont
  | raise (c : Str) (ns : List Str) (es : Es)
  | tryo (body : Ss) (cs : List Str) (h : Ss)
  | trya (body : Ss) (cs : List Str) (i j : Nat)
  | nev
inductive Ss where
  | nil
  | cons (s : S) (ss : Ss)
end
structure Fn where
  np : Nat              -- parameters
  ns : Nat              -- slots
  dfl : List Vl         -- defaults of the last ones
  body : Ss
/-- what a call gives -/
inductive RF where
  | ret (r : Rv) (h : Heap)
  | exc (x : Ex) (h : Heap)
  | bad
/-- what the text leans on: the calls, the fuel of a while, the module's constants -/
structure Cfg where
  call : Nat → List Vl → Heap → RF
  fuel : Nat
  glob : Nat → Option Vl

def getS (i : Nat) : M Rv := fun s => match s.env[i]? with
  | some (some r) => .ok r s
  | _ => .bad
def setS (i : Nat) (r : Option Rv) : M Unit := fun s => if i < s.env.length then .ok () { s with env := s.env.set i r } else .bad
/-- a name's value; a list that was the name's own is nobody's own from now on -/
def load (i : Nat) : M Rv := fun s => match s.env[i]? with
  | some (some r) => .ok (.v r.fz) { s with env := s.env.set i (some (.v r.fz)) }
  | _ => .bad
/-- .. looked at -/
def peek (i : Nat) : M Vl := fun s => match s.env[i]? with
  | some (some r) => .ok r.fz s
  | _ => .bad
def hp : M Heap := fun s => .ok s.hp s
def onHp {α : Type} (f : Heap → Option α) : M α := fun s => match f s.hp with
  | some a => .ok a s
  | none => .bad
def newCell (c : Cell) : M Vl := fun s => .ok (.ref s.hp.length) { s with hp := s.hp ++ [c] }
def runF (r : RF) : M Rv := fun s => match r with
  | .ret r h => .ok r { s with hp := h }
  | .exc x h => .exc x { s with hp := h }
  | .bad => .bad
/-! a target -/
mutual
def bindT : T → Rv → M Unit
  | .n i, r => setS i (some r)
  | .tup ts, r => match r.fz with
    | .tup vs => if vs.length = ts.length then bindTs ts vs else bad
    | .lst vs => if vs.length = ts.length then bindTs ts vs else bad
    | _ => bad
def bindTs : List T → List Vl → M Unit
  | t :: ts, v :: vs => do bindT t (.v v); bindTs ts vs
  | [], [] => pure ()
  | _, _ => bad
end
mutual
def tnames : T → List Nat
  | .n i => [i]
  | .tup ts => tnamess ts
def tnamess : List T → List Nat
  | [] => []
  | t :: ts => tnames t ++ tnamess ts
end
def wipeE (own : List Nat) (env : List (Option Rv)) : List (Option Rv) := own.foldl (fun e i => e.set i none) env
def wipeM (own : List Nat) : M Unit := fun s => .ok () { s with env := wipeE own s.env }
def backE (own : List Nat) (old env : List (Option Rv)) : List (Option Rv) := own.foldl (fun e i => e.set i (old.getD i none)) env
def plainS : Option Rv → Bool
  | some (.ol _) => false
  | some (.od _) => false
  | _ => true
/-- no exception leaves, the names in own as they were -/
def block {α : Type} (own : List Nat) (m : M α) : M α := fun s =>
  if own.all (fun i => plainS (s.env.getD i none)) then
    match m s with
    | .ok a s' => .ok a { s' with env := backE own s.env s'.env }
    | _ => .bad
  else .bad
def enumV (vs : List Vl) (k : Int) : List Vl := match vs with
  | [] => []
  | v :: vs => .tup [.int k, v] :: enumV vs (k + 1)
def zipV : List Vl → List Vl → List Vl
  | v :: vs, u :: us => .tup [v, u] :: zipV vs us
  | _, _ => []
def rangeV (lo : Int) : Nat → List Vl
  | 0 => []
  | n + 1 => .int lo :: rangeV (lo + 1) n
abbrev lim62 : Int := 2 ^ 62
def inLim (i : Int) : Bool := decide (-lim62 ≤ i) && decide (i < lim62)
/-- every k-th, from lo on -/
def stpIx (n : Nat) (lo : Int) (k : Nat) : List Nat := let (a, b, c) := PySem.sliceBounds (some lo) none (some (k : Int)) n; PySem.sliceRange a b c
def stpV {α : Type} (xs : List α) (lo : Int) (k : Nat) : List α := (stpIx xs.length lo k).filterMap (xs[·]?)
/-- what a loop walks -/
def seqOf : Vl → Option (List Vl)
  | .tup vs => some vs
  | .lst vs => some vs
  | _ => none
def zipOf (x y : Vl) : Option (List Vl) := match x, y with
  | .lst vs, .lst us => some (zipV vs us)
  | .tup vs, .tup us => some (zipV vs us)
  | _, _ => none
def consO {α : Type} : Option α → List α → List α
  | some a, l => a :: l
  | none, l => l
def each {α : Type} (f : Vl → M (Option α)) : List Vl → M (List α)
  | [] => pure []
  | v :: vs => do
    let r ← f v
    let rs ← each f vs
    pure (consO r rs)
/-- what an expression is: as a result, looked at, as a test -/
structure D where
  v : M Rv
  b : M Vl
  t : M Bool
def tstB (b : M Vl) : M Bool := do let x ← b; onHp fun h => truth h x
def D.of (m : M Rv) : D := { v := m, b := do { let r ← m; pure r.fz }, t := tstB (do { let r ← m; pure r.fz }) }
section
variable (c : Cfg)
mutual
def sem : E → D
  | .var i => { v := load i, b := peek i, t := tstB (peek i) }
  | .cst v => .of (pure (.v v))
  | .glob g => .of do let v ← lift (c.glob g); pure (.v v)
  | .tup es => .of do let vs ← semA es; if vs.length ≤ top then pure (.v (.tup vs)) else bad
  | .lst es => .of do let vs ← semA es; if vs.length ≤ top then pure (.ol vs) else bad
  | .bin o a b => .of do let x ← (sem a).b; let y ← (sem b).b; onHp fun h => bop h o x y
  | .neg a => .of do
    let x ← (sem a).b
    match x with
    | .int i => pure (.v (.int (-i)))
    | _ => bad
  | .nt a => { D.of (do
      let x ← (sem a).b
      match x with
      | .bl b => pure (.v (.bl (!b)))
      | _ => bad) with t := do { let r ← (sem a).t; pure (!r) } }
  | .cmp o a b => .of do let x ← (sem a).b; let y ← (sem b).b; let r ← onHp fun h => cop h o x y; pure (.v (.bl r))
  | .isN a => .of do
    let x ← (sem a).b
    pure (.v (.bl (isNon x)))
  | .notN a => .of do
    let x ← (sem a).b
    pure (.v (.bl (!isNon x)))
  | .chain a o b u d => .of do
    let x ← (sem a).b
    let y ← (sem b).b
    let r ← onHp fun h => cop h o x y
    if r then do
      let z ← (sem d).b
      let r ← onHp fun h => cop h u y z
      pure (.v (.bl r))
    else pure (.v (.bl false))
  | .and a b => { D.of (do
      let x ← (sem a).b
      match x with
      | .bl true => (sem b).v
      | .bl false => pure (.v (.bl false))
      | _ => bad) with t := do { let r ← (sem a).t; if r then (sem b).t else pure false } }
  | .or a b => { D.of (do
      let x ← (sem a).b
      match x with
      | .bl true => pure (.v (.bl true))
      | .bl false => (sem b).v
      | _ => bad) with t := do { let r ← (sem a).t; if r then pure true else (sem b).t } }
  | .ife t a b => { D.of (do
      let r ← (sem t).t
      if r then (sem a).v else (sem b).v) with t := do { let r ← (sem t).t; if r then (sem a).t else (sem b).t } }
  | .d0 => .of (pure (.od []))
  | .isB a b => .of do
    let x ← (sem a).b
    match x with
    | .bl r => pure (.v (.bl (r == b)))
    | _ => bad
  | .notB a b => .of do
    let x ← (sem a).b
    match x with
    | .bl r => pure (.v (.bl (!(r == b))))
    | _ => bad
  | .fld a kn f => .of do
    let x ← (sem a).b
    match x with
    | .exn c fs => if kn.contains c then (match fs.lookup f with
      | some v => pure (.v v)
      | none => bad) else bad
    | _ => bad
  | .lrg a b => .of do
    let x ← (sem a).b
    let y ← (sem b).b
    match x, y with
    | .int i, .int j => if inLim i && inLim j && decide ((j - i).toNat ≤ top) then pure (.ol (rangeV i (j - i).toNat)) else bad
    | _, _ => bad
  | .stp a lo k => .of do
    let x ← (sem a).b
    let y ← (sem lo).b
    match y with
    | .int i => if k = 0 then bad else onHp fun h => (lits h x).map fun vs => .ol (stpV vs i k)
    | _ => bad
  | .isX a kn cs => .of do
    let x ← (sem a).b
    match x with
    | .exn c _ => if kn.contains c then pure (.v (.bl (cs.contains c))) else bad
    | _ => bad
  | .idx a i => .of do let x ← (sem a).b; let y ← (sem i).b; let v ← onHp fun h => idx h x y; pure (.v v)
  | .slc a lo hi => .of do let x ← (sem a).b; let l ← semO lo; let u ← semO hi; onHp fun h => slc h x l u
  | .rev a => .of do let x ← (sem a).b; onHp fun h => rev h x
  | .call f es => .of do let vs ← semA es; let h ← hp; runF (c.call f vs h)
  | .bi f es => .of do let vs ← semB es; onHp fun h => bi h f vs
  | .isa a ts => .of do let x ← (sem a).b; if isEx x then bad else do let h ← hp; pure (.v (.bl (ts.any fun t => isTy h x t)))
  | .lc elt t it ifs own => .of do
    let src ← semI false it
    let vs ← block own (each (fun v => do
      wipeM own
      bindT t (.v v)
      let ok ← semTs ifs
      if ok then do
        let r ← (sem elt).v
        pure (some r.fz)
      else pure none) src)
    if vs.length ≤ top then pure (.ol vs) else bad
  | .dc k v t it own => .of do
    let src ← semI false it
    let ps ← block own (each (fun x => do
      wipeM own
      bindT t (.v x)
      let kv ← (sem k).b
      let r ← (sem v).v
      match keyOf kv with
      | some j => pure (some (j, r.fz))
      | none => bad) src)
    if ps.length ≤ top then pure (.od (ps.foldl (fun d p => dput p.1 p.2 d) [])) else bad
  | .alloc e => .of do
    let r ← (sem e).v
    match r with
    | .ol vs => do let x ← newCell (.lst vs); pure (.v x)
    | .od kvs => do let x ← newCell (.dct kvs); pure (.v x)
    | .v _ => bad
def semA : Es → M (List Vl)
  | .nil => pure []
  | .cons e es => do let r ← (sem e).v; let vs ← semA es; pure (r.fz :: vs)
def semB : Es → M (List Vl)
  | .nil => pure []
  | .cons e es => do let v ← (sem e).b; let vs ← semB es; pure (v :: vs)
def semTs : Es → M Bool
  | .nil => pure true
  | .cons e _ => (sem e).t
def semO : Eo → M (Option Int)
  | .no => pure none
  | .some e => do
    let v ← (sem e).b
    match v with
    | .int i => pure (some i)
    | _ => bad
def semI (fr : Bool) : It → M (List Vl)
  | .e e => do let x ← cond fr (do { let r ← (sem e).v; pure r.fz }) (sem e).b; lift (seqOf x)
  | .range1 a => do
    let x ← (sem a).b
    match x with
    | .int n => if inLim n then pure (rangeV 0 n.toNat) else bad
    | _ => bad
  | .range2 a b => do
    let x ← (sem a).b
    let y ← (sem b).b
    match x, y with
    | .int i, .int j => if inLim i && inLim j then pure (rangeV i (j - i).toNat) else bad
    | _, _ => bad
  | .enum e => do
    let x ← cond fr (do { let r ← (sem e).v; pure r.fz }) (sem e).b
    lift (match x with
      | .lst vs => some (enumV vs 0)
      | _ => none)
  | .zip a b => do
    let x ← cond fr (do { let r ← (sem a).v; pure r.fz }) (sem a).b
    let y ← cond fr (do { let r ← (sem b).v; pure r.fz }) (sem b).b
    lift (zipOf x y)
end
def den (e : E) : M Rv := (sem c e).v
def denB (e : E) : M Vl := (sem c e).b
def denT (e : E) : M Bool := (sem c e).t
/-! ### statements -/
inductive Fl where
  | nx
  | rt (r : Rv)
  | bk
  | ct
/-- a walk: the loop's own flow -/
def walk (f : Vl → M Fl) : List Vl → M Fl
  | [] => pure .nx
  | v :: vs => do
    let r ← f v
    match r with
    | .nx => walk f vs
    | .ct => walk f vs
    | .bk => pure .nx
    | .rt r => pure (.rt r)
def whl (t : M Bool) (b : M Fl) : Nat → M Fl
  | 0 => bad
  | n + 1 => do
    let r ← t
    if r then do
      let f ← b
      match f with
      | .nx => whl t b n
      | .ct => whl t b n
      | .bk => pure .nx
      | .rt r => pure (.rt r)
    else pure .nx
def appAt (i : Nat) (u : Vl) : M Fl := fun s => match s.env[i]? with
  | some (some (.ol vs)) => if vs.length < top then .ok .nx { s with env := s.env.set i (some (.ol (vs ++ [u]))) } else .bad
  | some (some (.v (.ref a))) => match s.hp[a]? with
    | some (.lst vs) => if vs.length < top then .ok .nx { s with hp := s.hp.set a (.lst (vs ++ [u])) } else .bad
    | _ => .bad
  | _ => .bad
/-- a name holds a list that may change -/
def peekL (i : Nat) : M Unit := fun s => match s.env[i]? with
  | some (some (.ol _)) => .ok () s
  | some (some (.v (.ref a))) => match s.hp[a]? with
    | some (.lst _) => .ok () s
    | _ => .bad
  | _ => .bad
/-- o[i] = u: a name's own dict or list, or a cell's -/
def putRef (a : Nat) (i u : Vl) : M Fl := fun s => match s.hp[a]? with
  | some (.lst vs) => match i with
    | .int k => match place vs.length k with
      | some j => .ok .nx { s with hp := s.hp.set a (.lst (vs.set j u)) }
      | none => .bad
    | _ => .bad
  | some (.dct kvs) => match keyOf i with
    | some k => if kvs.length < top then .ok .nx { s with hp := s.hp.set a (.dct (dput k u kvs)) } else .bad
    | none => .bad
  | none => .bad
def putOwn (o : Nat) (i u : Vl) : M Fl := fun s => match s.env[o]? with
  | some (some (.ol vs)) => match i with
    | .int k => match place vs.length k with
      | some j => .ok .nx { s with env := s.env.set o (some (.ol (vs.set j u))) }
      | none => .bad
    | _ => .bad
  | some (some (.od kvs)) => match keyOf i with
    | some k => if kvs.length < top then .ok .nx { s with env := s.env.set o (some (.od (dput k u kvs))) } else .bad
    | none => .bad
  | some (some (.v (.ref a))) => putRef a i u s
  | _ => .bad
/-- a return: a name's own list goes with it -/
def retE : E → M Fl
  | .var i => do let r ← getS i; setS i none; pure (.rt r)
  | e => do let r ← den c e; pure (.rt r)
mutual
def exec : S → M Fl
  | .asg t e => do let r ← den c e; bindT t r; pure .nx
  | .put o i e => do
    let r ← den c e
    match o with
    | .var o => do let _ ← peek o; let k ← denB c i; putOwn o k r.fz
    | o => do
      let x ← denB c o
      let k ← denB c i
      match x with
      | .ref a => putRef a k r.fz
      | _ => bad
  | .app i e => do peekL i; let r ← den c e; appAt i r.fz
  | .expr e => do let _ ← den c e; pure .nx
  | .iff t a b => do
    let r ← denT c t
    if r then execs a else execs b
  | .loop t it body => do
    let src ← semI c true it
    walk (fun v => do bindT t (.v v); execs body) src
  | .whl t body => whl (denT c t) (execs body) c.fuel
  | .ret e => retE c e
  | .retN => pure (.rt (.v .non))
  | .pass => pure .nx
  | .brk => pure .bk
  | .cont => pure .ct
  | .raise k ns es => do let vs ← semA c es; fun s => .exc ⟨k, ns.zip vs⟩ s
  | .tryo body cs h => fun s => match execs body s with
    | .exc x s' => if cs.contains x.c then execs h s' else .exc x s'
    | r => r
  | .trya body cs i j => fun s => match execs body s with
    | .exc x s' => if cs.contains x.c then (do setS j (some (.v (.exn x.c x.fs))); setS i none; pure Fl.nx) s' else .exc x s'
    | r => r
  | .nev => bad
def execs : Ss → M Fl
  | .nil => pure .nx
  | .cons s ss => do
    let f ← exec s
    match f with
    | .nx => execs ss
    | f => pure f
end
end
/-! ### a text -/
def runFn (c : Cfg) (f : Fn) (as : List Vl) (h : Heap) : RF :=
  if as.length ≤ f.np ∧ f.np ≤ as.length + f.dfl.length then
    match execs c f.body ⟨((as ++ f.dfl.drop (as.length + f.dfl.length - f.np)).map fun v => some (.v v)) ++ List.replicate (f.ns - f.np) none, h⟩ with
    | .ok (.rt r) s => .ret r s.hp
    | .ok .nx s => .ret (.v .non) s.hp
    | .ok _ _ => .bad
    | .exc x s => .exc x s.hp
    | .bad => .bad
  else .bad
/-- the calls of a text, so many within one another -/
def run (fs : List Fn) (fuel : Nat) (glob : Nat → Option Vl) : Nat → Nat → List Vl → Heap → RF
  | 0 => fun _ _ _ => .bad
  | k + 1 => fun f as h => match fs[f]? with
    | some fn => runFn ⟨run fs fuel glob k, fuel, glob⟩ fn as h
    | none => .bad
end VM

/-! VMRel: how the machine's data lie in the layer's heap. -/
namespace VM
open PySem PySem.Spec PyProof.Rows L2
abbrev Fg := PySem.W.Frag
/-- an exception that was caught, at a -/
def exnH (C a : Addr) (d : Option Addr) : HO := .ext fun h => ∃ oe vs, h.get? a = some oe ∧ Zc (.ref C) d oe ∧ oe.data = .fields vs
mutual
inductive RV (K : Fg) (F : Hp) (ρ : Nat → Option Addr) : Vl → V → Prop where
  | non : RV K F ρ .non .non
  | bl (b : Bool) : RV K F ρ (.bl b) (.bl b)
  | int (i : Int) : RV K F ρ (.int i) (.int i)
  | str (s : Str) : RV K F ρ (.str s) (.str s)
  | tup {vs : List Vl} {xs : List V} {a : Addr} (h : SqT K F a xs) (r : RVs K F ρ vs xs) : RV K F ρ (.tup vs) (.ref a)
  | lst {vs : List Vl} {xs : List V} {a : Addr} (h : SqL K F a xs) (r : RVs K F ρ vs xs) : RV K F ρ (.lst vs) (.ref a)
  | dct {kvs : List (Sum Int Str × Vl)} {xs : List (Key × V)} {a : Addr} (h : F a = some (.dK xs)) (r : RKs K F ρ kvs xs) : RV K F ρ (.dct kvs) (.ref a)
  | ref {a : Nat} {p : Addr} (h : ρ a = some p) : RV K F ρ (.ref a) (.ref p)
  | exn0 {x : Str} {a : Addr} (h : F a = some (exnH (He.ga K x) a none)) : RV K F ρ (.exn x []) (.ref a)
  | exn {x : Str} {fs : List (Str × Vl)} {xs : List (Str × V)} {a d : Addr} (h : F a = some (exnH (He.ga K x) a (some d))) (hd : F d = some (.xd xs)) (r : RFs K F ρ xs fs) : RV K F ρ (.exn x fs) (.ref a)
inductive RVs (K : Fg) (F : Hp) (ρ : Nat → Option Addr) : List Vl → List V → Prop where
  | nil : RVs K F ρ [] []
  | cons {v : Vl} {vs : List Vl} {x : V} {xs : List V} (h : RV K F ρ v x) (r : RVs K F ρ vs xs) : RVs K F ρ (v :: vs) (x :: xs)
inductive RKs (K : Fg) (F : Hp) (ρ : Nat → Option Addr) : List (Sum Int Str × Vl) → List (Key × V) → Prop where
  | nil : RKs K F ρ [] []
  | cons {k : Key} {v : Vl} {vs : List (Sum Int Str × Vl)} {x : V} {xs : List (Key × V)} (h : RV K F ρ v x) (r : RKs K F ρ vs xs) : RKs K F ρ ((k, v) :: vs) ((k, x) :: xs)
/-- fields -/
inductive RFs (K : Fg) (F : Hp) (ρ : Nat → Option Addr) : List (Str × V) → List (Str × Vl) → Prop where
  | nil {xs : List (Str × V)} : RFs K F ρ xs []
  | cons {xs : List (Str × V)} {f : Str} {v : Vl} {x : V} {fs : List (Str × Vl)} (e : xs.lookup f = some x) (h : RV K F ρ v x) (r : RFs K F ρ xs fs) : RFs K F ρ xs ((f, v) :: fs)
end
theorem seqT_mono {K : Fg} {F G : Hp} {a : Addr} {xs : List V} (e : Same F G) (h : SqT K F a xs) : SqT K G a xs := by
  rcases h with (h | ⟨o, h⟩) | h
  · exact .inl (.inl (e _ _ h))
  · exact .inl (.inr ⟨o, e _ _ h⟩)
  · exact .inr h
theorem rd_mono {F G : Hp} {a : Addr} {o : HO} (e : Same F G) (h : Rd F a o) : Rd G a o := by
  rcases h with h | ⟨u, h⟩
  · exact .inl (e _ _ h)
  · exact .inr ⟨u, e _ _ h⟩
theorem seqL_mono {K : Fg} {F G : Hp} {a : Addr} {xs : List V} (e : Same F G) (h : SqL K F a xs) : SqL K G a xs := by
  rcases h with h | h
  · exact .inl (rd_mono e h)
  · exact .inr h
mutual
theorem RV.mono {K : Fg} {F G : Hp} {ρ τ : Nat → Option Addr} (e : Same F G) (q : ∀ a p, ρ a = some p → τ a = some p) : ∀ {v : Vl} {x : V}, RV K F ρ v x → RV K G τ v x
  | _, _, .non => .non
  | _, _, .bl b => .bl b
  | _, _, .int i => .int i
  | _, _, .str s => .str s
  | _, _, .tup h r => .tup (seqT_mono e h) (r.mono e q)
  | _, _, .lst h r => .lst (seqL_mono e h) (r.mono e q)
  | _, _, .dct h r => .dct (e _ _ h) (r.mono e q)
  | _, _, .ref h => .ref (q _ _ h)
  | _, _, .exn0 h => .exn0 (e _ _ h)
  | _, _, .exn h hd r => .exn (e _ _ h) (e _ _ hd) (r.mono e q)
theorem RVs.mono {K : Fg} {F G : Hp} {ρ τ : Nat → Option Addr} (e : Same F G) (q : ∀ a p, ρ a = some p → τ a = some p) : ∀ {v : List Vl} {x : List V}, RVs K F ρ v x → RVs K G τ v x
  | _, _, .nil => .nil
  | _, _, .cons h r => .cons (h.mono e q) (r.mono e q)
theorem RKs.mono {K : Fg} {F G : Hp} {ρ τ : Nat → Option Addr} (e : Same F G) (q : ∀ a p, ρ a = some p → τ a = some p) : ∀ {v : List (Sum Int Str × Vl)} {x : List (Key × V)}, RKs K F ρ v x → RKs K G τ v x
  | _, _, .nil => .nil
  | _, _, .cons h r => .cons (h.mono e q) (r.mono e q)
theorem RFs.mono {K : Fg} {F G : Hp} {ρ τ : Nat → Option Addr} (e : Same F G) (q : ∀ a p, ρ a = some p → τ a = some p) : ∀ {xs : List (Str × V)} {fs : List (Str × Vl)}, RFs K F ρ xs fs → RFs K G τ xs fs
  | _, _, .nil => .nil
  | _, _, .cons z h r => .cons z (h.mono e q) (r.mono e q)
end
theorem RFs.get {K : Fg} {F : Hp} {ρ : Nat → Option Addr} {f : Str} {v : Vl} {xs : List (Str × V)} : ∀ {fs : List (Str × Vl)}, RFs K F ρ xs fs → fs.lookup f = some v → ∃ x, xs.lookup f = some x ∧ RV K F ρ v x
  | _, .nil, e => by cases e
  | _, .cons (f := g) z h r, e => by
    rw [List.lookup_cons] at e
    split at e
    · rename_i q
      cases e
      rw [beq_iff_eq.mp q]
      exact ⟨_, z, h⟩
    · exact r.get e
section
variable {K : Fg} {F : Hp} {ρ : Nat → Option Addr}
theorem RVs.length : ∀ {vs : List Vl} {xs : List V}, RVs K F ρ vs xs → vs.length = xs.length
  | _, _, .nil => rfl
  | _, _, .cons _ r => congrArg Nat.succ r.length
theorem RKs.length : ∀ {vs : List (Sum Int Str × Vl)} {xs : List (Key × V)}, RKs K F ρ vs xs → vs.length = xs.length
  | _, _, .nil => rfl
  | _, _, .cons _ r => congrArg Nat.succ r.length
theorem RVs.append : ∀ {vs us : List Vl} {xs ys : List V}, RVs K F ρ vs xs → RVs K F ρ us ys → RVs K F ρ (vs ++ us) (xs ++ ys)
  | _, _, _, _, .nil, s => s
  | _, _, _, _, .cons h r, s => .cons h (r.append s)
theorem RVs.get : ∀ {vs : List Vl} {xs : List V} {i : Nat} {v : Vl}, RVs K F ρ vs xs → vs[i]? = some v → ∃ x, xs[i]? = some x ∧ RV K F ρ v x
  | _, _, _, _, .nil, e => by simp at e
  | _, _, 0, _, .cons h r, e => by simp at e; subst e; exact ⟨_, rfl, h⟩
  | _, _, i + 1, _, .cons h r, e => by
    obtain ⟨x, h1, h2⟩ := r.get (i := i) (by simpa using e)
    exact ⟨x, by simpa using h1, h2⟩
theorem RVs.drop : ∀ {vs : List Vl} {xs : List V} (n : Nat), RVs K F ρ vs xs → RVs K F ρ (vs.drop n) (xs.drop n)
  | _, _, 0, r => r
  | _, _, n + 1, .nil => .nil
  | _, _, n + 1, .cons _ r => r.drop n
theorem RVs.take : ∀ {vs : List Vl} {xs : List V} (n : Nat), RVs K F ρ vs xs → RVs K F ρ (vs.take n) (xs.take n)
  | _, _, 0, _ => .nil
  | _, _, n + 1, .nil => .nil
  | _, _, n + 1, .cons h r => .cons h (r.take n)
theorem RVs.set {v : Vl} {x : V} (h : RV K F ρ v x) : ∀ {vs : List Vl} {xs : List V} (n : Nat), RVs K F ρ vs xs → RVs K F ρ (vs.set n v) (xs.set n x)
  | _, _, _, .nil => .nil
  | _, _, 0, .cons _ r => .cons h r
  | _, _, n + 1, .cons g r => .cons g (r.set h n)
theorem RVs.reverse {vs : List Vl} {xs : List V} (r : RVs K F ρ vs xs) : RVs K F ρ vs.reverse xs.reverse := by
  induction vs generalizing xs with
  | nil => cases r; exact .nil
  | cons v vs ih =>
    cases r with
    | cons h r => rw [List.reverse_cons, List.reverse_cons]; exact (ih r).append (.cons h .nil)
theorem RVs.ints_ : ∀ {vs : List Vl} {xs : List V} {ns : List Int}, RVs K F ρ vs xs → intsOf vs = some ns → xs = ns.map V.int
  | _, _, _, .nil, e => by cases e; rfl
  | v :: vs, _, _, .cons h r, e => by
    cases h with
    | int i =>
      cases q : VM.intsOf vs with
      | none => simp [VM.intsOf, q] at e
      | some ms =>
        simp [VM.intsOf, q] at e
        subst e
        rw [r.ints_ q]; rfl
    | _ => simp [VM.intsOf] at e
theorem RVs.bools_ : ∀ {vs : List Vl} {xs : List V} {ns : List Bool}, RVs K F ρ vs xs → boolsOf vs = some ns → xs = ns.map V.bl
  | _, _, _, .nil, e => by cases e; rfl
  | v :: vs, _, _, .cons h r, e => by
    cases h with
    | bl i =>
      cases q : VM.boolsOf vs with
      | none => simp [VM.boolsOf, q] at e
      | some ms =>
        simp [VM.boolsOf, q] at e
        subst e
        rw [r.bools_ q]; rfl
    | _ => simp [VM.boolsOf] at e
theorem RVs.ofInts : ∀ (ns : List Int), RVs K F ρ (ns.map Vl.int) (ns.map V.int)
  | [] => .nil
  | n :: ns => .cons (.int n) (RVs.ofInts ns)
end
/-! ### plain data -/
mutual
theorem RV.dp {K : Fg} {F : Hp} {ρ : Nat → Option Addr} : ∀ {v : Vl} {x : V} {d : PyData}, RV K F ρ v x → pd v = some d → Dp K F x d
  | _, _, _, .non, e => by simp [pd] at e; subst e; exact .non
  | _, _, _, .bl b, e => by simp [pd] at e; subst e; exact .bl b
  | _, _, _, .int b, e => by simp [pd] at e; subst e; exact .int b
  | _, _, _, .str b, e => by simp [pd] at e; subst e; exact .str b
  | .tup vs, _, _, .tup h r, e => by
    cases q : pds vs with
    | none => simp [pd, q] at e
    | some ds => simp [pd, q] at e; subst e; exact .tup h (r.dps q)
  | .lst vs, _, _, .lst h r, e => by
    cases q : pds vs with
    | none => simp [pd, q] at e
    | some ds => simp [pd, q] at e; subst e; exact .lst h (r.dps q)
  | _, _, _, .dct _ _, e => by simp [pd] at e
  | _, _, _, .ref _, e => by simp [pd] at e
  | _, _, _, .exn0 _, e => by simp [pd] at e
  | _, _, _, .exn _ _ _, e => by simp [pd] at e
theorem RVs.dps {K : Fg} {F : Hp} {ρ : Nat → Option Addr} : ∀ {v : List Vl} {x : List V} {d : List PyData}, RVs K F ρ v x → pds v = some d → DpAll K F x d
  | _, _, _, .nil, e => by simp [pds] at e; subst e; exact .nil
  | v :: vs, _, _, .cons h r, e => by
    cases q : pd v with
    | none => simp [pds, q] at e
    | some d =>
      cases q' : pds vs with
      | none => simp [pds, q, q'] at e
      | some ds => simp [pds, q, q'] at e; subst e; exact .cons (h.dp q) (r.dps q')
end
/-! ### the ghost -/
/-- F: what nobody changes; P: what no call changes (F, and the names' own lists); B: the callers' P; ρ: where the cells lie; ow: where a name's own list lies -/
structure Gh where
  F : Hp
  P : Hp
  B : Hp
  ρ : Nat → Option Addr
  ow : Nat → Option Addr
def RC (K : Fg) (g : Gh) : Cell → Option HO → Prop
  | .lst vs, o => ∃ xs, o = some (.lst xs) ∧ RVs K g.F g.ρ vs xs
  | .dct kvs, o => ∃ xs, o = some (.dK xs) ∧ RKs K g.F g.ρ kvs xs
/-- the heap alone -/
structure HRel (K : Fg) (g : Gh) (h : Heap) (H : Hp) : Prop where
  fp : Same g.F g.P
  bp : Same g.B g.P
  ph : Same g.P H
  cin : ∀ a p, g.ρ a = some p → g.P p = none
  inj : ∀ a b p, g.ρ a = some p → g.ρ b = some p → a = b
  cel : ∀ a c, h[a]? = some c → ∃ p, g.ρ a = some p ∧ RC K g c (H p)
  dom : ∀ a p, g.ρ a = some p → a < h.length
def RSlot (K : Fg) (g : Gh) (i : Nat) : Option Rv → Option V → Prop
  | none, _ => g.ow i = none
  | some (.v u), x => g.ow i = none ∧ ∃ y, x = some y ∧ RV K g.F g.ρ u y
  | some (.ol vs), x => ∃ p xs, x = some (.ref p) ∧ g.ow i = some p ∧ g.P p = some (.lst xs) ∧ RVs K g.F g.ρ vs xs
  | some (.od kvs), x => ∃ p xs, x = some (.ref p) ∧ g.ow i = some p ∧ g.P p = some (.dK xs) ∧ RKs K g.F g.ρ kvs xs
structure Rel (K : Fg) (g : Gh) (s : St) (σ : L2.St) (H : Hp) : Prop where
  hr : HRel K g s.hp H
  len : s.env.length = σ.length
  slot : ∀ i r x, s.env[i]? = some r → σ[i]? = some x → RSlot K g i r x
  apart : ∀ i j p, g.ow i = some p → g.ow j = some p → i = j
  own : ∀ i p, g.ow i = some p → i < s.env.length ∧ g.F p = none ∧ g.B p = none ∧ (g.P p).isSome = true
structure ExtS (g g' : Gh) : Prop where
  F : Same g.F g'.F
  B : g'.B = g.B
  ρ : ∀ a p, g.ρ a = some p → g'.ρ a = some p
  fb : ∀ p, g.F p = none → g.B p ≠ none → g'.F p = none
structure Ext (g g' : Gh) : Prop extends ExtS g g' where
  P : Same g.P g'.P
theorem ExtS.refl (g : Gh) : ExtS g g := ⟨Same.refl _, rfl, fun _ _ h => h, fun _ h _ => h⟩
theorem ExtS.trans {a b c : Gh} (x : ExtS a b) (y : ExtS b c) : ExtS a c :=
  ⟨x.F.trans y.F, y.B.trans x.B, fun n p h => y.ρ n p (x.ρ n p h), fun p h1 h2 => y.fb p (x.fb p h1 h2) (by rw [x.B]; exact h2)⟩
theorem Ext.refl (g : Gh) : Ext g g := ⟨.refl g, Same.refl _⟩
theorem Ext.trans {a b c : Gh} (x : Ext a b) (y : Ext b c) : Ext a c := ⟨x.toExtS.trans y.toExtS, x.P.trans y.P⟩
/-- a result -/
def RR (K : Fg) (g : Gh) (H : Hp) : Rv → V → Prop
  | .v u, x => RV K g.F g.ρ u x
  | .ol vs, x => ∃ p xs, x = .ref p ∧ H p = some (.lst xs) ∧ RVs K g.F g.ρ vs xs ∧ g.P p = none ∧ ∀ a, g.ρ a ≠ some p
  | .od kvs, x => ∃ p xs, x = .ref p ∧ H p = some (.dK xs) ∧ RKs K g.F g.ρ kvs xs ∧ g.P p = none ∧ ∀ a, g.ρ a ≠ some p
section
variable {K : Fg} {g g' : Gh} {s : St} {σ : L2.St} {H : Hp}
theorem RV.ext (e : ExtS g g') {v : Vl} {x : V} (h : RV K g.F g.ρ v x) : RV K g'.F g'.ρ v x := h.mono e.F e.ρ
theorem RV.extP (e : Ext g g') {v : Vl} {x : V} (h : RV K g.P g.ρ v x) : RV K g'.P g'.ρ v x := h.mono e.P e.ρ
theorem RVs.ext (e : ExtS g g') {v : List Vl} {x : List V} (h : RVs K g.F g.ρ v x) : RVs K g'.F g'.ρ v x := h.mono e.F e.ρ
theorem RVs.extP (e : Ext g g') {v : List Vl} {x : List V} (h : RVs K g.P g.ρ v x) : RVs K g'.P g'.ρ v x := h.mono e.P e.ρ
theorem RKs.ext (e : ExtS g g') {v : List (Sum Int Str × Vl)} {x : List (Key × V)} (h : RKs K g.F g.ρ v x) : RKs K g'.F g'.ρ v x := h.mono e.F e.ρ
theorem HRel.toP (r : HRel K g s.hp H) {v : Vl} {x : V} (h : RV K g.F g.ρ v x) : RV K g.P g.ρ v x := h.mono r.fp fun _ _ q => q
theorem HRel.ncell (r : HRel K g s.hp H) {a : Nat} {p : Addr} (h : g.ρ a = some p) : ∃ o, H p = some o := by
  have hl := r.dom a p h
  obtain ⟨q, e, rc⟩ := r.cel a (s.hp[a]) (by simp [hl])
  rw [h] at e; cases e
  cases c : s.hp[a] with
  | lst vs => rw [c] at rc; obtain ⟨xs, e, _⟩ := rc; exact ⟨_, e⟩
  | dct vs => rw [c] at rc; obtain ⟨xs, e, _⟩ := rc; exact ⟨_, e⟩
/-- an object that is free in H is free in the ghost -/
theorem HRel.free {h : Heap} (r : HRel K g h H) {p : Addr} (hp : H p = none) : g.P p = none ∧ ∀ a, g.ρ a ≠ some p := by
  refine ⟨?_, fun a e => ?_⟩
  · cases q : g.P p with
    | none => rfl
    | some o => rw [r.ph p o q] at hp; cases hp
  · have hl := r.dom a p e
    obtain ⟨q, e', rc⟩ := r.cel a (h[a]) (by simp [hl])
    rw [e] at e'; cases e'
    cases c : h[a] with
    | lst vs => rw [c] at rc; obtain ⟨xs, e, _⟩ := rc; rw [hp] at e; cases e
    | dct vs => rw [c] at rc; obtain ⟨xs, e, _⟩ := rc; rw [hp] at e; cases e
end
/-- a value that is looked at: its own list may be a name's own -/
def RB (K : Fg) (g : Gh) (u : Vl) (x : V) : Prop := RV K g.F g.ρ u x ∨ (∃ vs xs p, u = .lst vs ∧ x = .ref p ∧ g.P p = some (.lst xs) ∧ RVs K g.F g.ρ vs xs) ∨
  ∃ kvs xs p, u = .dct kvs ∧ x = .ref p ∧ g.P p = some (.dK xs) ∧ RKs K g.F g.ρ kvs xs
theorem RB.ext {K : Fg} {g g' : Gh} (e : Ext g g') {u : Vl} {x : V} (h : RB K g u x) : RB K g' u x := by
  rcases h with h | ⟨vs, xs, p, h1, h2, h3, h4⟩ | ⟨vs, xs, p, h1, h2, h3, h4⟩
  · exact .inl (h.ext e.toExtS)
  · exact .inr (.inl ⟨vs, xs, p, h1, h2, e.P _ _ h3, h4.ext e.toExtS⟩)
  · exact .inr (.inr ⟨vs, xs, p, h1, h2, e.P _ _ h3, h4.ext e.toExtS⟩)
section
variable {K : Fg} {g g' : Gh} {s : St} {h : Heap} {σ : L2.St} {H : Hp}
/-- the items of a list, a tuple that is looked at -/
theorem HRel.lits_ (r : HRel K g h H) {u : Vl} {x : V} {vs : List Vl} (b : RB K g u x) (e : lits h u = some vs) : ∃ p xs, x = .ref p ∧ SqL K H p xs ∧ RVs K g.F g.ρ vs xs := by
  rcases b with b | ⟨us, xs, p, rfl, rfl, h3, h4⟩ | ⟨us, xs, p, rfl, rfl, h3, h4⟩
  · cases b with
    | lst h1 h2 => simp [VM.lits] at e; subst e; exact ⟨_, _, rfl, seqL_mono (r.fp.trans r.ph) h1, h2⟩
    | @ref a p h1 =>
      cases c : h[a]? with
      | none => simp [VM.lits, c] at e
      | some cc =>
        cases cc with
        | dct _ => simp [VM.lits, c] at e
        | lst us =>
          simp [VM.lits, c] at e; subst e
          obtain ⟨q, e1, xs, e2, e3⟩ := r.cel a _ c
          rw [h1] at e1; cases e1
          exact ⟨_, _, rfl, .inl (.inl e2), e3⟩
    | _ => simp [VM.lits] at e
  · simp [VM.lits] at e; subst e; exact ⟨_, _, rfl, .inl (.inl (r.ph _ _ h3)), h4⟩
  · simp [VM.lits] at e
theorem HRel.dits_ (r : HRel K g h H) {u : Vl} {x : V} {vs : List (Sum Int Str × Vl)} (b : RB K g u x) (e : dits h u = some vs) : ∃ p xs, x = .ref p ∧ H p = some (.dK xs) ∧ RKs K g.F g.ρ vs xs := by
  rcases b with b | ⟨us, xs, p, rfl, rfl, h3, h4⟩ | ⟨us, xs, p, rfl, rfl, h3, h4⟩
  · cases b with
    | dct h1 h2 => simp [VM.dits] at e; subst e; exact ⟨_, _, rfl, r.ph _ _ (r.fp _ _ h1), h2⟩
    | @ref a p h1 =>
      cases c : h[a]? with
      | none => simp [VM.dits, c] at e
      | some cc =>
        cases cc with
        | lst _ => simp [VM.dits, c] at e
        | dct us =>
          simp [VM.dits, c] at e; subst e
          obtain ⟨q, e1, xs, e2, e3⟩ := r.cel a _ c
          rw [h1] at e1; cases e1
          exact ⟨_, _, rfl, e2, e3⟩
    | _ => simp [VM.dits] at e
  · simp [VM.dits] at e
  · simp [VM.dits] at e; subst e; exact ⟨_, _, rfl, r.ph _ _ h3, h4⟩
theorem HRel.items_ (r : HRel K g h H) {u : Vl} {x : V} {vs : List Vl} (b : RB K g u x) (e : items h u = some vs) : ∃ p xs, x = .ref p ∧ RVs K g.F g.ρ vs xs ∧ ((SqL K H p xs ∧ VM.lits h u = some vs) ∨ (SqT K H p xs ∧ u = .tup vs)) := by
  cases u with
  | tup us =>
    simp [VM.items] at e; subst e
    rcases b with b | ⟨us, xs, p, h1, _⟩ | ⟨us, xs, p, h1, _⟩
    · cases b with
      | tup h1 h2 => exact ⟨_, _, rfl, h2, .inr ⟨seqT_mono (r.fp.trans r.ph) h1, rfl⟩⟩
    · cases h1
    · cases h1
  | lst us =>
    obtain ⟨p, xs, h1, h2, h3⟩ := r.lits_ b (vs := vs) e
    exact ⟨p, xs, h1, h3, .inl ⟨h2, e⟩⟩
  | ref a =>
    obtain ⟨p, xs, h1, h2, h3⟩ := r.lits_ b (vs := vs) e
    exact ⟨p, xs, h1, h3, .inl ⟨h2, e⟩⟩
  | _ => simp [VM.items] at e
theorem HRel.data (r : HRel K g h H) {u : Vl} {x : V} {d : PyData} (b : RB K g u x) (e : pd (deref h u) = some d) : Dp K H x d := by
  have up : Same g.F H := r.fp.trans r.ph
  rcases b with b | ⟨us, xs, p, rfl, rfl, h3, h4⟩ | ⟨us, xs, p, rfl, rfl, h3, h4⟩
  · cases u with
    | ref a =>
      cases b with
      | ref h1 =>
        cases c : h[a]? with
        | none => simp [VM.deref, c, pd] at e
        | some cc =>
          cases cc with
          | dct _ => simp [VM.deref, c, pd] at e
          | lst us =>
            obtain ⟨q, e1, xs, e2, e3⟩ := r.cel a _ c
            rw [h1] at e1; cases e1
            simp only [VM.deref, c, pd] at e
            cases q : pds us with
            | none => simp [q] at e
            | some ds => simp [q] at e; subst e; exact .lst (.inl (.inl e2)) ((e3.mono up fun _ _ z => z).dps q)
    | _ => exact (b.mono up fun _ _ z => z).dp e
  · simp only [VM.deref, pd] at e
    cases q : pds us with
    | none => simp [q] at e
    | some ds => simp [q] at e; subst e; exact .lst (.inl (.inl (r.ph _ _ h3))) ((h4.mono up fun _ _ z => z).dps q)
  · simp [VM.deref, pd] at e
/-- what is flat -/
theorem RB.flat_ {u : Vl} {x : V} (b : RB K g u x) (f : flat u = true) : RV K g.F g.ρ u x := by
  rcases b with b | ⟨us, xs, p, rfl, rfl, h3, h4⟩ | ⟨us, xs, p, rfl, rfl, h3, h4⟩
  · exact b
  · simp [VM.flat] at f
  · simp [VM.flat] at f
theorem RV.flat_ {F : Hp} {ρ : Nat → Option Addr} {u : Vl} {x : V} (b : RV K F ρ u x) (f : flat u = true) : flatV x = true := by
  cases b <;> first | rfl | simp [VM.flat] at f
theorem RVs.flat_ {F : Hp} {ρ : Nat → Option Addr} : ∀ {us : List Vl} {xs : List V}, RVs K F ρ us xs → us.all flat = true → xs.all flatV = true
  | _, _, .nil, _ => rfl
  | _, _, .cons h r, f => by
    rw [List.all_cons, Bool.and_eq_true] at f
    rw [List.all_cons, h.flat_ f.1, r.flat_ f.2]; rfl
theorem RV.eqF_ {F : Hp} {ρ : Nat → Option Addr} {u w : Vl} {x y : V} (b : RV K F ρ u x) (c : RV K F ρ w y) (f : flat u = true) (f' : flat w = true) : L2.eqV x y = eqF u w := by
  cases b <;> cases c <;> first | rfl | simp [VM.flat] at f | simp [VM.flat] at f'
theorem RVs.anyF {F : Hp} {ρ : Nat → Option Addr} {u : Vl} {x : V} (b : RV K F ρ u x) (f : flat u = true) : ∀ {us : List Vl} {xs : List V}, RVs K F ρ us xs → us.all flat = true → inV x xs = us.any fun y => eqF y u
  | _, _, .nil, _ => rfl
  | _, _, .cons h r, f' => by
    rw [List.all_cons, Bool.and_eq_true] at f'
    have ih := RVs.anyF b f r f'.2
    unfold inV at ih ⊢
    rw [List.any_cons, List.any_cons, ih, h.eqF_ b f'.1 f]
/-! ### keys -/
theorem RKs.get (k : Key) : ∀ {us : List (Sum Int Str × Vl)} {xs : List (Key × V)}, RKs K g.F g.ρ us xs →
    match dget k us with
    | some v => ∃ x, valV xs k = some x ∧ RV K g.F g.ρ v x
    | none => valV xs k = none
  | _, _, .nil => by simp [dget, valV]
  | _, _, .cons (k := j) h r => by
    have ih := RKs.get k r
    by_cases e : j = k
    · simp [dget, valV, List.find?_cons, e]
      exact h
    · simp only [dget, List.find?_cons, e, decide_false] at ih ⊢
      rw [valV_neg (p := (j, _)) e]
      exact ih
theorem RKs.anyK (k : Key) : ∀ {us : List (Sum Int Str × Vl)} {xs : List (Key × V)}, RKs K g.F g.ρ us xs → (us.any fun p => decide (p.1 = k)) = xs.any fun p => decide (p.1 = k)
  | _, _, .nil => rfl
  | _, _, .cons h r => by rw [List.any_cons, List.any_cons, RKs.anyK k r]
theorem RKs.snoc {k : Key} {v : Vl} {x : V} (b : RV K g.F g.ρ v x) : ∀ {us : List (Sum Int Str × Vl)} {xs : List (Key × V)}, RKs K g.F g.ρ us xs → RKs K g.F g.ρ (us ++ [(k, v)]) (xs ++ [(k, x)])
  | _, _, .nil => .cons b .nil
  | _, _, .cons h r => .cons h (r.snoc b)
theorem RKs.repl {k : Key} {v : Vl} {x : V} (b : RV K g.F g.ρ v x) : ∀ {us : List (Sum Int Str × Vl)} {xs : List (Key × V)}, RKs K g.F g.ρ us xs →
    RKs K g.F g.ρ (us.map fun p => if p.1 = k then (p.1, v) else p) (xs.map fun p => if p.1 = k then (p.1, x) else p)
  | _, _, .nil => .nil
  | _, _, .cons (k := j) h r => by
    rw [List.map_cons, List.map_cons]
    by_cases e : j = k
    · simp only [e, if_pos]; exact .cons b (r.repl b)
    · simp only [if_neg e]; exact .cons h (r.repl b)
theorem RKs.put {k : Key} {v : Vl} {x : V} (b : RV K g.F g.ρ v x) {us : List (Sum Int Str × Vl)} {xs : List (Key × V)} (r : RKs K g.F g.ρ us xs) : RKs K g.F g.ρ (dput k v us) (putK xs k x) := by
  unfold dput putK
  rw [r.anyK k]
  split
  · exact r.repl b
  · exact r.snoc b
theorem RKs.del (k : Key) : ∀ {us : List (Sum Int Str × Vl)} {xs : List (Key × V)}, RKs K g.F g.ρ us xs → RKs K g.F g.ρ (ddel k us) (dropK xs k)
  | _, _, .nil => .nil
  | _, _, .cons (k := j) h r => by
    have ih := RKs.del k r
    unfold ddel dropK at ih ⊢
    by_cases e : j = k
    · simp only [List.filter_cons, e]; simpa using ih
    · simp only [List.filter_cons, ne_eq, e, not_false_eq_true, decide_true]; exact .cons h ih
theorem RB.key {u : Vl} {x : V} {k : Key} (b : RB K g u x) (e : keyOf u = some k) : x = kV k := by
  rcases b with b | ⟨us, xs, p, rfl, rfl, h3, h4⟩ | ⟨us, xs, p, rfl, rfl, h3, h4⟩
  · cases b <;> simp [keyOf] at e <;> subst e <;> rfl
  · simp [keyOf] at e
  · simp [keyOf] at e
end
end VM

/-! VMOps: the operators. -/
namespace VM
open PySem PySem.Spec PyProof.Rows L2
theorem same_upd {H : Hp} {p : Addr} {o : HO} (h : H p = none) : Same H (upd H p o) := fun b u e => by rw [upd_ne (ne_of_none e h)]; exact e
section
variable {K : Fg} {g g' : Gh} {s : St} {h : Heap} {σ : L2.St} {H H' : Hp} {p : Addr} {o : HO}
theorem RC.heap {c : Cell} {o o' : Option HO} (r : RC K g c o) (e : ∀ u, o = some u → o' = some u) : RC K g c o' := by
  cases c with
  | lst vs => obtain ⟨xs, e1, e2⟩ := r; exact ⟨xs, e _ e1, e2⟩
  | dct vs => obtain ⟨xs, e1, e2⟩ := r; exact ⟨xs, e _ e1, e2⟩
theorem RC.ext {c : Cell} {o : Option HO} (x : ExtS g g') (r : RC K g c o) : RC K g' c o := by
  cases c with
  | lst vs => obtain ⟨xs, e1, e2⟩ := r; exact ⟨xs, e1, e2.ext x⟩
  | dct vs => obtain ⟨xs, e1, e2⟩ := r; exact ⟨xs, e1, e2.ext x⟩
theorem HRel.heap (r : HRel K g h H) (e : Same H H') : HRel K g h H' :=
  ⟨r.fp, r.bp, r.ph.trans e, r.cin, r.inj, fun a c q => by
    obtain ⟨p, h1, h2⟩ := r.cel a c q
    exact ⟨p, h1, h2.heap fun u q => e _ _ q⟩, r.dom⟩
theorem Rel.heap (r : Rel K g s σ H) (e : Same H H') : Rel K g s σ H' := ⟨r.hr.heap e, r.len, r.slot, r.apart, r.own⟩
/-- what is new and nobody's is from now on nobody's to change -/
def Gh.frz (g : Gh) (p : Addr) (o : HO) : Gh := { g with F := upd g.F p o, P := upd g.P p o }
theorem Rel.frz (r : Rel K g s σ H) (hp : H p = some o) (hP : g.P p = none) (hρ : ∀ a, g.ρ a ≠ some p) : Ext g (g.frz p o) ∧ Rel K (g.frz p o) s σ H := by
  have hF : g.F p = none := by
    cases q : g.F p with
    | none => rfl
    | some u => rw [r.hr.fp _ _ q] at hP; cases hP
  have x : Ext g (g.frz p o) := ⟨⟨same_upd hF, rfl, fun _ _ h => h, fun q h1 h2 => by
    show upd g.F p o q = none
    by_cases e : q = p
    · subst e
      cases z : g.B q with
      | none => exact absurd z h2
      | some u => rw [r.hr.bp _ _ z] at hP; cases hP
    · rw [upd_ne e]; exact h1⟩, same_upd hP⟩
  refine ⟨x, ⟨fun q u e => ?_, fun q u e => ?_, fun q u e => ?_, fun a q e => ?_, r.hr.inj, fun a c e => ?_, r.hr.dom⟩, r.len, fun i rv y e1 e2 => ?_, r.apart, fun i q e => ?_⟩
  · have e : upd g.F p o q = some u := e
    show upd g.P p o q = some u
    by_cases z : q = p
    · subst z; rw [upd_same] at e ⊢; exact e
    · rw [upd_ne z] at e ⊢; exact r.hr.fp _ _ e
  · show upd g.P p o q = some u
    have z : q ≠ p := fun z => by subst z; rw [r.hr.bp _ _ e] at hP; cases hP
    rw [upd_ne z]; exact r.hr.bp _ _ e
  · have e : upd g.P p o q = some u := e
    by_cases z : q = p
    · subst z; rw [upd_same] at e; cases e; exact hp
    · rw [upd_ne z] at e; exact r.hr.ph _ _ e
  · show upd g.P p o q = none
    have z : q ≠ p := fun z => by subst z; exact hρ a e
    rw [upd_ne z]; exact r.hr.cin a q e
  · obtain ⟨q, e1, e2⟩ := r.hr.cel a c e
    exact ⟨q, e1, e2.ext x.toExtS⟩
  · have q := r.slot i rv y e1 e2
    cases rv with
    | none => exact q
    | some rv =>
      cases rv with
      | v u => obtain ⟨q1, z, q2, q3⟩ := q; exact ⟨q1, z, q2, q3.ext x.toExtS⟩
      | ol vs =>
        obtain ⟨q, xs, q1, q2, q3, q4⟩ := q
        exact ⟨q, xs, q1, q2, x.P _ _ q3, q4.ext x.toExtS⟩
      | od vs =>
        obtain ⟨q, xs, q1, q2, q3, q4⟩ := q
        exact ⟨q, xs, q1, q2, x.P _ _ q3, q4.ext x.toExtS⟩
  · obtain ⟨l, h1, h2, h3⟩ := r.own i q e
    have z : q ≠ p := fun z => by
      subst z
      rw [hP] at h3; cases h3
    refine ⟨l, ?_, h2, ?_⟩
    · show upd g.F p o q = none
      rw [upd_ne z]; exact h1
    · show (upd g.P p o q).isSome = true
      rw [upd_ne z]; exact h3
theorem frz_F : (g.frz p o).F p = some o := upd_same
theorem frz_P : (g.frz p o).P p = some o := upd_same
/-- a new tuple -/
theorem Rel.newTup (r : Rel K g s σ H) (hp : H p = none) {vs : List Vl} {xs : List V} (q : RVs K g.F g.ρ vs xs) :
    ∃ g', Ext g g' ∧ Rel K g' s σ (upd H p (.tup xs)) ∧ RV K g'.F g'.ρ (.tup vs) (.ref p) := by
  obtain ⟨h1, h2⟩ := r.hr.free hp
  obtain ⟨x, r'⟩ := (r.heap (same_upd (o := .tup xs) hp)).frz (p := p) (o := .tup xs) upd_same h1 h2
  exact ⟨_, x, r', .tup (.inl (.inl frz_F)) (q.ext x.toExtS)⟩
/-- a result is a value -/
theorem RR.fz (r : Rel K g s σ H) {rv : Rv} {x : V} (q : RR K g H rv x) : ∃ g', Ext g g' ∧ Rel K g' s σ H ∧ RV K g'.F g'.ρ rv.fz x := by
  cases rv with
  | v u => exact ⟨g, .refl g, r, q⟩
  | ol vs =>
    obtain ⟨p, xs, rfl, h1, h2, h3, h4⟩ := q
    obtain ⟨x, r'⟩ := r.frz h1 h3 h4
    exact ⟨_, x, r', .lst (.inl (.inl frz_F)) (h2.ext x.toExtS)⟩
  | od vs =>
    obtain ⟨p, xs, rfl, h1, h2, h3, h4⟩ := q
    obtain ⟨x, r'⟩ := r.frz h1 h3 h4
    exact ⟨_, x, r', .dct frz_F (h2.ext x.toExtS)⟩
/-- a new list that is nobody's -/
theorem Rel.newLst (r : Rel K g s σ H) (hp : H p = none) {vs : List Vl} {xs : List V} (q : RVs K g.F g.ρ vs xs) :
    Rel K g s σ (upd H p (.lst xs)) ∧ RR K g (upd H p (.lst xs)) (.ol vs) (.ref p) := by
  obtain ⟨h1, h2⟩ := r.hr.free hp
  exact ⟨r.heap (same_upd hp), p, xs, rfl, upd_same, q, h1, h2⟩
theorem Rel.newDct (r : Rel K g s σ H) (hp : H p = none) {vs : List (Sum Int Str × Vl)} {xs : List (Key × V)} (q : RKs K g.F g.ρ vs xs) :
    Rel K g s σ (upd H p (.dK xs)) ∧ RR K g (upd H p (.dK xs)) (.od vs) (.ref p) := by
  obtain ⟨h1, h2⟩ := r.hr.free hp
  exact ⟨r.heap (same_upd hp), p, xs, rfl, upd_same, q, h1, h2⟩
end
/-! ### what an operator asks -/
/-- the machine gives o; whatever of it comes is well -/
def Give (K : Fg) (g : Gh) (s : St) (σ : L2.St) (Q : VK) (o : Option Rv) : Prop := ∃ r, o = some r ∧ ∀ g' H' z, Ext g g' → Rel K g' s σ H' → RR K g' H' r z → Q z H'
def toOp : Bop → Operator
  | .add => .Add | .sub => .Sub | .mul => .Mult | .mod => .Mod | .fdiv => .FloorDiv | .pow => .Pow | .shl => .LShift | .shr => .RShift | .band => .BitAnd
def rBop (K : Fg) (o : Bop) : R2 := fun x y H Q => ∃ g s σ u w, Rel K g s σ H ∧ RB K g u x ∧ RB K g w y ∧ Give K g s σ Q (bop s.hp o u w)
section
variable {X : Cx}
/-- list + list, each tracked or known -/
theorem op_catR : OpR X (binaryOp .Add) (fun x y H Q => ∃ l b xs zs, x = .ref l ∧ y = .ref b ∧ SqL X.K H l xs ∧ SqL X.K H b zs ∧ xs.length + zs.length ≤ sizeLine ∧ ∀ p, H p = none → Q (.ref p) (upd H p (.lst (xs ++ zs)))) := by
  intro pins s σ H x y v u Q I rx ry h
  obtain ⟨l, b, xs, zs, rfl, rfl, hH, hB, hz, q⟩ := h
  cases rx
  cases ry
  obtain ⟨its, r, p1, _⟩ := I.list hH
  obtain ⟨its2, r2, p2, _⟩ := I.list hB
  obtain ⟨⟨c1, d1, k1, t1⟩, g1, z1, m1, y1⟩ := p1.isList
  obtain ⟨⟨c2, d2, k2, t2⟩, g2, z2, m2, y2⟩ := p2.isList
  dsimp only at z1 y1 z2 y2
  subst z1 y1 z2 y2
  have hl := r.length
  have hl2 := r2.length
  have ea : its.toArray ++ its2.toArray = (its ++ its2).toArray := by simp
  refine concat_meets ⟨_, g1, rfl⟩ ⟨_, g2, rfl⟩ noFill_list_add seq_list_add PySem.F.slot_list_add PySem.F.entry_list_add (PySem.F.args_list_add_2 _ _)
    (list_addW l b its.toArray its2.toArray m1 m2 d1 d2 t1 t2 (by rw [List.size_toArray, List.size_toArray]; omega)) ⟨g1, g2, ?_⟩
  rw [ea]
  exact ⟨.ref _, _, I.lnew (t' := s.toks) (r.append r2) (by rw [List.length_append]; omega), rfl, q _ I.fresh⟩
theorem give_int {K : Fg} {g : Gh} {s : St} {σ : L2.St} {H : Hp} {Q : VK} {i : Int} (r : Rel K g s σ H) (q : ∀ g' H' z, Ext g g' → Rel K g' s σ H' → RR K g' H' (.v (.int i)) z → Q z H') : Q (.int i) H := q g H _ (.refl g) r (.int i)
theorem top_line : top = sizeLine := by rw [sizeLine_eq]
theorem op_bop (o : Bop) : OpR X (binaryOp (toOp o)) (rBop X.K o) := by
  intro pins s σ H x y v u Q I rx ry h
  obtain ⟨g, t, τ, a, b, R, ba, bb, r, e, q⟩ := h
  cases o with
  | add =>
    have lists : ∀ {xs ys : List Vl}, lits t.hp a = some xs → lits t.hp b = some ys → xs.length + ys.length ≤ top → r = .ol (xs ++ ys) → wpAny (model X.prog X.w) X.A (binaryOp (toOp .add) v u) (EP X pins σ Q) X.xe s := by
      intro xs ys e1 e2 l e3
      subst e3
      obtain ⟨p1, xs', rfl, h1, h2⟩ := R.hr.lits_ ba e1
      obtain ⟨p2, ys', rfl, h3, h4⟩ := R.hr.lits_ bb e2
      refine op_catR pins s σ H _ _ v u Q I rx ry ⟨p1, p2, xs', ys', rfl, rfl, h1, h3, by rw [← h2.length, ← h4.length, ← top_line]; exact l, fun p hp => ?_⟩
      obtain ⟨r1, r2⟩ := R.newLst hp (h2.append h4)
      exact q g _ _ (.refl g) r1 r2
    cases a <;> cases b
    case int.int i j =>
      simp only [bop, Option.some.injEq] at e; subst e
      have e1 := ba.flat_ rfl
      have e2 := bb.flat_ rfl
      cases e1; cases e2
      exact op_add pins s σ H _ _ v u Q I rx ry ⟨i, j, rfl, rfl, give_int R q⟩
    case str.str i j =>
      simp only [bop] at e
      split at e
      · rename_i hl
        simp only [Option.some.injEq] at e; subst e
        have e1 := ba.flat_ rfl
        have e2 := bb.flat_ rfl
        cases e1; cases e2
        exact op_add_str pins s σ H _ _ v u Q I rx ry ⟨i, j, rfl, rfl, by rw [← top_line]; exact hl, q g H _ (.refl g) R (.str _)⟩
      · cases e
    case tup.tup xs ys =>
      simp only [bop] at e
      split at e
      · rename_i hl
        simp only [Option.some.injEq] at e; subst e
        obtain ⟨p1, xs', rfl, h2, h1⟩ := R.hr.items_ (vs := xs) ba rfl
        obtain ⟨p2, ys', rfl, h4, h3⟩ := R.hr.items_ (vs := ys) bb rfl
        have h1 : SqT X.K H p1 xs' := by
          rcases h1 with ⟨_, h⟩ | ⟨h, _⟩
          · simp [lits] at h
          · exact h
        have h3 : SqT X.K H p2 ys' := by
          rcases h3 with ⟨_, h⟩ | ⟨h, _⟩
          · simp [lits] at h
          · exact h
        have eb1 : RV X.K g.F g.ρ (.tup xs) (.ref p1) := by
          rcases ba with z | ⟨_, _, _, z, _⟩ | ⟨_, _, _, z, _⟩
          · exact z
          · cases z
          · cases z
        have eb2 : RV X.K g.F g.ρ (.tup ys) (.ref p2) := by
          rcases bb with z | ⟨_, _, _, z, _⟩ | ⟨_, _, _, z, _⟩
          · exact z
          · cases z
          · cases z
        refine op_catA pins s σ H _ _ v u Q I rx ry ⟨p1, p2, xs', ys', rfl, rfl, h1, h3, by rw [← h2.length, ← h4.length, ← top_line]; exact hl, fun z => ?_, fun z1 z => ?_, fun _ _ p hp => ?_⟩
        · have l := h2.length
          rw [z] at l
          have hx : xs = [] := List.length_eq_zero_iff.mp l
          subst hx
          exact q g H _ (.refl g) R eb2
        · have l := h4.length
          rw [z] at l
          have hx : ys = [] := List.length_eq_zero_iff.mp l
          subst hx
          exact q g H _ (.refl g) R (by rw [List.append_nil]; exact eb1)
        · obtain ⟨g', x, r1, r2⟩ := R.newTup hp (h2.append h4)
          exact q g' _ _ x r1 r2
      · cases e
    all_goals
      simp only [bop] at e
      split at e
      · rename_i e1 e2
        split at e
        · rename_i l
          exact lists e1 e2 l (Option.some.inj e).symm
        · cases e
      · cases e
  | sub =>
    simp only [bop] at e
    split at e
    · simp only [Option.some.injEq] at e; subst e
      have e1 := ba.flat_ rfl
      have e2 := bb.flat_ rfl
      cases e1; cases e2
      exact op_sub pins s σ H _ _ v u Q I rx ry ⟨_, _, rfl, rfl, give_int R q⟩
    · cases e
  | mul =>
    simp only [bop] at e
    split at e
    · rename_i i j
      split at e
      · rename_i hl
        simp only [Option.some.injEq] at e; subst e
        have e1 := ba.flat_ rfl
        have e2 := bb.flat_ rfl
        cases e1; cases e2
        rcases hl with hl | hl
        · exact op_mulW pins s σ H _ _ v u Q I rx ry ⟨i, j, rfl, rfl, hl, give_int R q⟩
        · exact op_mul pins s σ H _ _ v u Q I rx ry ⟨i, j, rfl, rfl, .inr (by rcases hl with rfl | rfl <;> decide), give_int R q⟩
      · cases e
    · cases e
  | mod =>
    simp only [bop] at e
    split at e
    · split at e
      · rename_i hl
        simp only [Option.some.injEq] at e; subst e
        have e1 := ba.flat_ rfl
        have e2 := bb.flat_ rfl
        cases e1; cases e2
        exact op_mod pins s σ H _ _ v u Q I rx ry ⟨_, _, rfl, rfl, hl, give_int R q⟩
      · cases e
    · cases e
  | fdiv =>
    simp only [bop] at e
    split at e
    · split at e
      · rename_i hl
        simp only [Option.some.injEq] at e; subst e
        have e1 := ba.flat_ rfl
        have e2 := bb.flat_ rfl
        cases e1; cases e2
        exact op_fdivW pins s σ H _ _ v u Q I rx ry ⟨_, _, rfl, rfl, hl, give_int R q⟩
      · cases e
    · cases e
  | pow =>
    simp only [bop] at e
    split at e
    · split at e
      · rename_i hl
        simp only [Option.some.injEq] at e; subst e
        have e1 := ba.flat_ rfl
        have e2 := bb.flat_ rfl
        cases e1; cases e2
        exact op_pow pins s σ H _ _ v u Q I rx ry ⟨_, _, rfl, rfl, hl, give_int R q⟩
      · cases e
    · cases e
  | shl =>
    simp only [bop] at e
    split at e
    · split at e
      · rename_i hl
        simp only [Option.some.injEq] at e; subst e
        have e1 := ba.flat_ rfl
        have e2 := bb.flat_ rfl
        cases e1; cases e2
        exact op_shl pins s σ H _ _ v u Q I rx ry ⟨_, _, rfl, rfl, hl, give_int R q⟩
      · cases e
    · cases e
  | shr =>
    simp only [bop] at e
    split at e
    · split at e
      · rename_i hl
        simp only [Option.some.injEq] at e; subst e
        have e1 := ba.flat_ rfl
        have e2 := bb.flat_ rfl
        cases e1; cases e2
        exact op_shr pins s σ H _ _ v u Q I rx ry ⟨_, _, rfl, rfl, hl, give_int R q⟩
      · cases e
    · cases e
  | band =>
    simp only [bop] at e
    split at e
    · simp only [Option.some.injEq] at e; subst e
      have e1 := ba.flat_ rfl
      have e2 := bb.flat_ rfl
      cases e1; cases e2
      exact op_and pins s σ H _ _ v u Q I rx ry ⟨_, _, rfl, rfl, give_int R q⟩
    · cases e
end
end VM

/-! VMOps2: comparisons, built-ins. -/
namespace VM
open PySem PySem.Spec PyProof.Rows L2
def toCop : Cop → CmpOp
  | .eq => .Eq | .ne => .NotEq | .lt => .Lt | .le => .LtE | .gt => .Gt | .ge => .GtE | .isin => .In | .notin => .NotIn
def rCop (K : Fg) (o : Cop) : R2 := fun x y H Q => ∃ g s σ u w b, Rel K g s σ H ∧ RB K g u x ∧ RB K g w y ∧ cop s.hp o u w = some b ∧ Q (.bl b) H
mutual
theorem plain_pd : ∀ {v : Vl} {d : PyData}, pd v = some d → d.plain = true ∧ d.hasDict = false
  | .non, _, e => by simp [pd] at e; subst e; exact ⟨rfl, rfl⟩
  | .bl b, _, e => by simp [pd] at e; subst e; exact ⟨rfl, rfl⟩
  | .int b, _, e => by simp [pd] at e; subst e; exact ⟨rfl, rfl⟩
  | .str b, _, e => by simp [pd] at e; subst e; exact ⟨rfl, rfl⟩
  | .tup vs, _, e => by
    cases q : pds vs with
    | none => simp [pd, q] at e
    | some ds =>
      simp [pd, q] at e; subst e
      obtain ⟨h1, h2⟩ := plain_pds q
      exact ⟨by simpa [PyData.plain] using h1, by simpa [PyData.hasDict] using h2⟩
  | .lst vs, _, e => by
    cases q : pds vs with
    | none => simp [pd, q] at e
    | some ds =>
      simp [pd, q] at e; subst e
      obtain ⟨h1, h2⟩ := plain_pds q
      exact ⟨by simpa [PyData.plain] using h1, by simpa [PyData.hasDict] using h2⟩
  | .dct _, _, e => by simp [pd] at e
  | .ref _, _, e => by simp [pd] at e
theorem plain_pds : ∀ {v : List Vl} {d : List PyData}, pds v = some d → PyData.plainAll d = true ∧ PyData.hasDictAll d = false
  | [], _, e => by simp [pds] at e; subst e; exact ⟨rfl, rfl⟩
  | v :: vs, _, e => by
    cases q : pd v with
    | none => simp [pds, q] at e
    | some d =>
      cases q' : pds vs with
      | none => simp [pds, q, q'] at e
      | some ds =>
        simp [pds, q, q'] at e; subst e
        obtain ⟨h1, h2⟩ := plain_pd q
        obtain ⟨h3, h4⟩ := plain_pds q'
        exact ⟨by simp [PyData.plainAll, h1, h3], by simp [PyData.hasDictAll, h2, h4]⟩
end
section
variable {X : Cx}
theorem op_eqP (hu : X.A.units + 64 < cLine) : OpR X (compareOp .Eq) (fun x y H Q => ∃ d d', Dp X.K H x d ∧ Dp X.K H y d' ∧ d.plain = true ∧ d'.plain = true ∧ d.depth ≤ 64 ∧ Q (.bl (PyData.eqv d d')) H) := by
  intro pins s σ H x y v u Q I rx ry h
  obtain ⟨d, d', h1, h2, p1, p2, hd, q⟩ := h
  obtain ⟨as, r1⟩ := Dp.reads I d x v h1 rx
  obtain ⟨bs, r2⟩ := Dp.reads I d' y u h2 ry
  exact PySem.SeqAt.eq_plain r1 r2 p1 p2 (by omega) ⟨.bl _, H, I, rfl, q⟩
theorem op_neP (hu : X.A.units + 64 < cLine) : OpR X (compareOp .NotEq) (fun x y H Q => ∃ d d', Dp X.K H x d ∧ Dp X.K H y d' ∧ d.plain = true ∧ d'.plain = true ∧ d.depth ≤ 64 ∧ Q (.bl (!PyData.eqv d d')) H) := by
  intro pins s σ H x y v u Q I rx ry h
  obtain ⟨d, d', h1, h2, p1, p2, hd, q⟩ := h
  obtain ⟨as, r1⟩ := Dp.reads I d x v h1 rx
  obtain ⟨bs, r2⟩ := Dp.reads I d' y u h2 ry
  exact PySem.SeqAt.ne_plain r1 r2 p1 p2 (by omega) ⟨.bl _, H, I, rfl, q⟩
end
theorem shaped_of {a b : Vl} {r : Bool} (e : eqV a b = some r) : ∃ d d', pd a = some d ∧ pd b = some d' ∧ d.depth ≤ 64 ∧ d'.depth ≤ 64 ∧ PyData.eqv d d' = r := by
  unfold eqV at e
  split at e
  · rename_i d d' h1 h2
    split at e
    · rename_i h
      exact ⟨d, d', h1, h2, h.1, h.2, Option.some.inj e⟩
    · cases e
  · cases e
section
variable {X : Cx}
theorem in_any (hu : X.A.units + 1 < cLine) (neg : Bool) : OpR X (compareOp (if neg then .NotIn else .In)) (fun x y H Q => ∃ g s σ u w b, Rel X.K g s σ H ∧ RB X.K g u x ∧ RB X.K g w y ∧ cop.isIn s.hp u w = some b ∧ Q (.bl (if neg then !b else b)) H) := by
  intro pins s σ H x y v u Q I rx ry h
  obtain ⟨g, t, τ, a, w, b, R, ba, bw, e, q⟩ := h
  unfold cop.isIn at e
  split at e
  · rename_i kvs hd
    obtain ⟨p, xs, rfl, h1, h2⟩ := R.hr.dits_ bw hd
    cases hk : keyOf a with
    | none => simp [hk] at e
    | some k =>
      simp [hk] at e
      have ek := ba.key hk
      subst ek
      cases ry
      have hg := h2.get k
      have eq1 : (dget k kvs).isSome = (valV xs k).isSome := by
        cases hq : dget k kvs with
        | none => rw [hq] at hg; rw [hg]; rfl
        | some z => rw [hq] at hg; obtain ⟨z', e1, _⟩ := hg; rw [e1]; rfl
      rw [eq1] at e
      subst e
      cases neg with
      | false => exact d_in hu I (DGet.k h1) rx fun s2 I2 => ⟨.bl _, H, I2, rfl, q⟩
      | true => exact d_notIn hu I (DGet.k h1) rx fun s2 I2 => ⟨.bl _, H, I2, rfl, q⟩
  · split at e
    · rename_i xs hi
      split at e
      · rename_i hf
        rw [Bool.and_eq_true] at hf
        obtain ⟨p, xs', rfl, h2, h1⟩ := R.hr.items_ bw hi
        have e2 := Option.some.inj e
        have ra := ba.flat_ hf.1
        have h1 : SqL X.K H p xs' ∨ SqT X.K H p xs' := by
          rcases h1 with ⟨z, _⟩ | ⟨z, _⟩
          · exact .inl z
          · exact .inr z
        have e3 := RVs.anyF ra hf.1 h2 hf.2
        rw [← e3] at e2
        subst e2
        cases neg with
        | false => exact op_in_seq pins s σ H _ _ v u Q I rx ry ⟨p, xs', rfl, h1, ra.flat_ hf.1, h2.flat_ hf.2, q⟩
        | true => exact op_notIn_seq pins s σ H _ _ v u Q I rx ry ⟨p, xs', rfl, h1, ra.flat_ hf.1, h2.flat_ hf.2, q⟩
      · cases e
    · cases e
theorem op_cop (hu : X.A.units + 64 < cLine) (o : Cop) : OpR X (compareOp (toCop o)) (rCop X.K o) := by
  intro pins s σ H x y v u Q I rx ry h
  obtain ⟨g, t, τ, a, w, b, R, ba, bw, e, q⟩ := h
  cases o with
  | eq =>
    obtain ⟨d, d', h1, h2, h3, h4, h5⟩ := shaped_of e
    subst h5
    exact op_eqP hu pins s σ H _ _ v u Q I rx ry ⟨d, d', R.hr.data ba h1, R.hr.data bw h2, (plain_pd h1).1, (plain_pd h2).1, h3, q⟩
  | ne =>
    have e1 : (eqV (deref t.hp a) (deref t.hp w)).map not = some b := e
    cases e2 : eqV (deref t.hp a) (deref t.hp w) with
    | none => rw [e2] at e1; cases e1
    | some r =>
      rw [e2] at e1
      have e3 : (!r) = b := Option.some.inj e1
      subst e3
      obtain ⟨d, d', h1, h2, h3, h4, h5⟩ := shaped_of e2
      subst h5
      exact op_neP hu pins s σ H _ _ v u Q I rx ry ⟨d, d', R.hr.data ba h1, R.hr.data bw h2, (plain_pd h1).1, (plain_pd h2).1, h3, q⟩
  | lt =>
    simp only [cop] at e
    split at e
    · have e3 := Option.some.inj e; subst e3
      have e1 := ba.flat_ rfl
      have e2 := bw.flat_ rfl
      cases e1; cases e2
      exact op_lt pins s σ H _ _ v u Q I rx ry ⟨_, _, rfl, rfl, q⟩
    · cases e
  | le =>
    simp only [cop] at e
    split at e
    · have e3 := Option.some.inj e; subst e3
      have e1 := ba.flat_ rfl
      have e2 := bw.flat_ rfl
      cases e1; cases e2
      exact op_le pins s σ H _ _ v u Q I rx ry ⟨_, _, rfl, rfl, q⟩
    · cases e
  | gt =>
    simp only [cop] at e
    split at e
    · have e3 := Option.some.inj e; subst e3
      have e1 := ba.flat_ rfl
      have e2 := bw.flat_ rfl
      cases e1; cases e2
      exact op_gt pins s σ H _ _ v u Q I rx ry ⟨_, _, rfl, rfl, q⟩
    · cases e
  | ge =>
    simp only [cop] at e
    split at e
    · have e3 := Option.some.inj e; subst e3
      have e1 := ba.flat_ rfl
      have e2 := bw.flat_ rfl
      cases e1; cases e2
      exact op_ge pins s σ H _ _ v u Q I rx ry ⟨_, _, rfl, rfl, q⟩
    · cases e
  | isin => exact in_any (by omega) false pins s σ H x y v u Q I rx ry ⟨g, t, τ, a, w, b, R, ba, bw, e, q⟩
  | notin =>
    have e1 : (cop.isIn t.hp a w).map not = some b := e
    cases e2 : cop.isIn t.hp a w with
    | none => rw [e2] at e1; cases e1
    | some r =>
      rw [e2] at e1
      have e3 : (!r) = b := Option.some.inj e1
      subst e3
      exact in_any (by omega) true pins s σ H x y v u Q I rx ry ⟨g, t, τ, a, w, r, R, ba, bw, e2, q⟩
end
/-! ### built-ins -/
theorem insI_perm (i : Int) : ∀ l : List Int, (insI i l).Perm (i :: l)
  | [] => .refl _
  | j :: r => by
    unfold insI
    split
    · exact .refl _
    · exact ((insI_perm i r).cons j).trans (.swap i j r)
theorem sortI_perm : ∀ l : List Int, (sortI l).Perm l
  | [] => .refl _
  | i :: r => (insI_perm i _).trans ((sortI_perm r).cons i)
theorem insI_sorted (i : Int) : ∀ l : List Int, l.Pairwise (· ≤ ·) → (insI i l).Pairwise (· ≤ ·)
  | [], _ => by simp [insI]
  | j :: r, h => by
    unfold insI
    rw [List.pairwise_cons] at h
    split
    · rename_i hij
      refine List.pairwise_cons.mpr ⟨fun k hk => ?_, List.pairwise_cons.mpr h⟩
      rcases List.mem_cons.mp hk with rfl | hk
      · exact hij
      · exact Int.le_trans hij (h.1 k hk)
    · rename_i hij
      refine List.pairwise_cons.mpr ⟨fun k hk => ?_, insI_sorted i r h.2⟩
      rcases List.mem_cons.mp ((insI_perm i r).mem_iff.mp hk) with rfl | hk
      · omega
      · exact h.1 k hk
theorem sortI_sorted : ∀ l : List Int, (sortI l).Pairwise (· ≤ ·)
  | [] => .nil
  | i :: r => insI_sorted i _ (sortI_sorted r)
theorem sortI_only {l m : List Int} (p : m.Perm l) (h : m.Pairwise (· ≤ ·)) : m = sortI l :=
  (p.trans (sortI_perm l).symm).eq_of_pairwise (fun _ _ _ _ h1 h2 => Int.le_antisymm h1 h2) h (sortI_sorted l)
theorem keyInts_map {K : Fg} {F : Hp} {ρ : Nat → Option Addr} : ∀ {kvs : List (Sum Int Str × Vl)} {xs : List (Key × V)} {ns : List Int}, RKs K F ρ kvs xs → keyInts kvs = some ns → xs.map (·.1) = ns.map Sum.inl
  | _, _, _, .nil, e => by cases e; rfl
  | (.inl i, v) :: r, _, _, .cons h q, e => by
    cases z : keyInts r with
    | none => simp [keyInts, z] at e
    | some ms =>
      simp [keyInts, z] at e
      subst e
      rw [List.map_cons, List.map_cons, keyInts_map q z]
  | (.inr i, v) :: r, _, _, .cons h q, e => by simp [keyInts] at e
def biVal : Bi → Value
  | .len => .builtin "len" | .abs => .builtin "abs" | .min => .builtin "min" | .max => .builtin "max" | .int => .type "int" | .str => .type "str" | .repr => .builtin "repr"
  | .list => .type "list" | .tuple => .type "tuple" | .all => .builtin "all" | .any => .builtin "any" | .sum => .builtin "sum" | .sorted => .builtin "sorted"
inductive RBs (K : Fg) (g : Gh) : List Vl → List V → Prop where
  | nil : RBs K g [] []
  | cons {v : Vl} {vs : List Vl} {x : V} {xs : List V} (h : RB K g v x) (r : RBs K g vs xs) : RBs K g (v :: vs) (x :: xs)
theorem RBs.ext {K : Fg} {g g' : Gh} (e : Ext g g') : ∀ {us : List Vl} {xs : List V}, RBs K g us xs → RBs K g' us xs
  | _, _, .nil => .nil
  | _, _, .cons h r => .cons (h.ext e) (r.ext e)
def rBi (K : Fg) (f : Bi) : List V → Hp → VK → Prop := fun xs H Q => ∃ g s σ us, Rel K g s σ H ∧ RBs K g us xs ∧ Give K g s σ Q (bi s.hp f us)
theorem shown_of {a : Vl} {r : Str} (e : reprV a = some r) : ∃ d, pd a = some d ∧ d.showable = true ∧ d.depth ≤ 64 ∧ d.shown.length ≤ sizeLine ∧ d.shown = r := by
  unfold reprV at e
  split at e
  · rename_i d h1
    split at e
    · rename_i h
      exact ⟨d, h1, h.1, h.2.1, by rw [← top_line]; exact h.2.2, Option.some.inj e⟩
    · cases e
  · cases e
section
variable {X : Cx}
theorem call_reprD (hu : X.A.units + 80 < cLine) (hg : X.A.guards = some []) : CallR X (.builtin "repr") (fun xs H Q => ∃ x d, xs = [x] ∧ Dp X.K H x d ∧ d.showable = true ∧ (d.hasDict = false ∧ d.depth ≤ 64) ∧ d.shown.length ≤ sizeLine ∧ Q (.str d.shown) H) := by
  intro pins s σ H xs us Q I r h
  obtain ⟨x, d, rfl, hd, h1, h2, h3, q⟩ := h
  obtain ⟨u, rfl, rx⟩ := vals1 r
  have hnd := h2.1
  have hdep := h2.2
  obtain ⟨as, hr⟩ := Dp.reads I d x u hd rx
  have fin : ∀ (h' : PySem.Heap) (u' : Tok) (tk : Nat), (∀ b o, s.heap.get? b = some o → h'.get? b = some o) → EP X pins σ Q (.str d.shown u') { s with heap := h', toks := tk } := fun h' u' tk k => ⟨.str d.shown, H, I.kept k, ⟨u', rfl⟩, q⟩
  cases hd with
  | non => cases rx; exact PySem.P.repr_of_none (fin s.heap _ _ fun _ _ e => e)
  | bl b => cases rx; exact PySem.P.repr_of_bool (fin s.heap _ _ fun _ _ e => e)
  | int i => obtain ⟨t, rfl⟩ := rx; exact PySem.P.repr_of_int (by simpa [PyData.showable] using h1) (fin s.heap _ _ fun _ _ e => e)
  | str y => obtain ⟨t, rfl⟩ := rx; exact PySem.P.repr_of_str (fin s.heap _ _ fun _ _ e => e) (by simpa [PyData.shown] using h3)
  | lst _ _ =>
    cases rx
    exact PySem.repr_of_reads' hr h1 (PyData.noDict_hsm hnd) hg (by omega) (fun _ _ e => e) fin h3
  | tup _ _ =>
    cases rx
    exact PySem.repr_of_reads' hr h1 (PyData.noDict_hsm hnd) hg (by omega) (fun _ _ e => e) fin h3
end
end VM

/-! VMSort: sorted of pairs. -/
namespace VM
open PySem PySem.Spec PyProof.Rows L2
section
variable {α β : Type}
theorem swoP (k : α → Int × Int) : SrtO.Swo fun v u : α => SrtO.lexB (k v) (k u) := by
  refine ⟨fun x y h => ?_, fun x y z h1 h2 => ?_⟩
  · have a := SrtO.lexB_iff.mp h
    refine SrtO.lexB_no.mpr ?_
    omega
  · have a := SrtO.lexB_no.mp h1
    have b := SrtO.lexB_no.mp h2
    refine SrtO.lexB_no.mpr ?_
    omega
theorem ltPr_lexB (p q : Int × Int) : ltPr p q = SrtO.lexB p q := rfl
theorem insP_split {k : α → Int × Int} {y : α} : ∀ {l : List α}, SrtO.Srtd (fun a b => SrtO.lexB (k a) (k b)) l → ∃ M N, l = M ++ N ∧ insP k y l = M ++ y :: N ∧ (∀ x ∈ M, SrtO.lexB (k y) (k x) = false) ∧ ∀ x ∈ N, SrtO.lexB (k y) (k x) = true
  | [], _ => ⟨[], [], rfl, rfl, (fun _ h => by cases h), (fun _ h => by cases h)⟩
  | z :: r, h => by
    have O := swoP k
    by_cases e : ltPr (k y) (k z) = true
    · exact ⟨[], z :: r, rfl, by rw [insP, if_pos e]; rfl, (fun _ h => by cases h), SrtO.Swo.lt_all O h e⟩
    · obtain ⟨M, N, h1, h2, h3, h4⟩ := insP_split (y := y) (List.pairwise_cons.mp h).2
      refine ⟨z :: M, N, by rw [h1]; rfl, by rw [insP, if_neg e, h2]; rfl, fun x hx => ?_, h4⟩
      rcases List.mem_cons.mp hx with rfl | hx
      · exact Bool.not_eq_true _ ▸ e
      · exact h3 x hx
theorem sortP_ok (k : α → Int × Int) (l : List α) : SrtO.Srtd (fun a b => SrtO.lexB (k a) (k b)) (sortP k l) ∧ SrtO.Stb (fun a b => SrtO.lexB (k a) (k b)) (sortP k l) l := by
  have key : ∀ (l acc done : List α), SrtO.Srtd (fun a b => SrtO.lexB (k a) (k b)) acc → SrtO.Stb (fun a b => SrtO.lexB (k a) (k b)) acc done →
      SrtO.Srtd (fun a b => SrtO.lexB (k a) (k b)) (l.foldl (fun acc x => insP k x acc) acc) ∧ SrtO.Stb (fun a b => SrtO.lexB (k a) (k b)) (l.foldl (fun acc x => insP k x acc) acc) (done ++ l) := by
    intro l
    induction l with
    | nil => intro acc done h1 h2; rw [List.append_nil]; exact ⟨h1, h2⟩
    | cons x l ih =>
      intro acc done h1 h2
      obtain ⟨M, N, e1, e2, e3, e4⟩ := insP_split (y := x) h1
      rw [e1] at h1 h2
      have a1 := SrtO.ins_srtd (swoP k) h1 e3 e4
      have a2 := SrtO.ins_stb (swoP k) e4 h2
      rw [← e2] at a1 a2
      have z := ih _ _ a1 a2
      rw [List.append_assoc] at z
      exact z
  exact key l [] [] List.Pairwise.nil (SrtO.Stb.refl _)
theorem sortP_only {k : α → Int × Int} {l m : List α} (h1 : SrtO.Srtd (fun a b => SrtO.lexB (k a) (k b)) m) (h2 : SrtO.Stb (fun a b => SrtO.lexB (k a) (k b)) m l) : m = sortP k l := by
  obtain ⟨a1, a2⟩ := sortP_ok k l
  exact SrtO.stb_uniq (swoP k) h1 a1 (h2.trans ⟨a2.perm.symm, fun x => (a2.cls x).symm⟩)
theorem insP_rel {P : α → β → Prop} {k : α → Int × Int} {j : β → Int × Int} (hk : ∀ a b, P a b → k a = j b) {x : α} {y : β} (h : P x y) : ∀ {l : List α} {m : List β}, Paired P l m → Paired P (insP k x l) (insP j y m)
  | _, _, .nil => .cons h .nil
  | _, _, .cons (a := a) (b := b) h1 r => by
    rw [insP, insP, hk _ _ h, hk _ _ h1]
    split
    · exact .cons h (.cons h1 r)
    · exact .cons h1 (insP_rel hk h r)
theorem sortP_rel {P : α → β → Prop} {k : α → Int × Int} {j : β → Int × Int} (hk : ∀ a b, P a b → k a = j b) {l : List α} {m : List β} (h : Paired P l m) : Paired P (sortP k l) (sortP j m) := by
  have key : ∀ {l : List α} {m : List β} {a : List α} {b : List β}, Paired P l m → Paired P a b → Paired P (l.foldl (fun acc x => insP k x acc) a) (m.foldl (fun acc x => insP j x acc) b) := by
    intro l m a b h
    induction h generalizing a b with
    | nil => exact fun z => z
    | cons h1 r ih => exact fun z => ih (insP_rel hk h1 z)
  exact key h .nil
end
section
variable {X : Cx}
theorem isPair_uniq {h : PySem.Heap} {v : Value} {x y x' y' : Int} (a : Srt.IsPair h v x y) (b : Srt.IsPair h v x' y') : x = x' ∧ y = y' := by
  obtain ⟨p, o, t, u, n, rfl, h1, h2, h3⟩ := a
  obtain ⟨p', o', t', u', n', e, h1', h2', h3'⟩ := b
  cases e
  rw [h1] at h1'
  cases h1'
  rw [h3] at h3'
  have z := (Data.seq.inj h3').1
  have z2 := congrArg Array.toList z
  simp only [List.cons.injEq, Value.int.injEq] at z2
  exact ⟨z2.1.1, z2.2.1.1⟩
theorem call_sortPr {K : Fg} {g : Gh} {vs : List Vl} {H : Hp} (hK : K = X.K) (hF : Same g.F H) (hp : vs.all (fun v => (pairOf v).isSome) = true) :
    CallR X (.builtin "sorted") (fun xs H' Q => ∃ a ys, H' = H ∧ xs = [V.ref a] ∧ SqL X.K H a ys ∧ RVs K g.F g.ρ vs ys ∧ ∀ zs p, RVs K g.F g.ρ (sortP keyP vs) zs → H p = none → Q (.ref p) (upd H p (.lst zs))) := by
  subst hK
  intro pins s σ H' xs us Q I r h
  obtain ⟨a, ys, rfl, rfl, hs, rv, q⟩ := h
  obtain ⟨its, rI, hl, hz⟩ := I.list hs
  obtain ⟨u, rfl, ru⟩ := vals1 r
  obtain rfl : u = Value.ref a := ru
  -- each item is a pair
  have each : ∀ {vs : List Vl} {ys : List V} {its : List Value}, RVs X.K g.F g.ρ vs ys → Vals ys its → vs.all (fun v => (pairOf v).isSome) = true →
      Paired (fun (v : Vl) (u : Value) => RV X.K g.F g.ρ v (backV u) ∧ Srt.IsPair s.heap u (keyP v).1 (keyP v).2 ∧ RelV (backV u) u) vs its := by
    intro vs
    induction vs with
    | nil => intro ys its r1 r2 _; cases r1; cases r2; exact .nil
    | cons v vs ih =>
      intro ys its r1 r2 hp
      rw [List.all_cons, Bool.and_eq_true] at hp
      cases r1 with
      | cons h1 r1 =>
        cases r2 with
        | cons h2 r2 =>
          refine .cons ?_ (ih r1 r2 hp.2)
          obtain ⟨p, hpp⟩ := Option.isSome_iff_exists.mp hp.1
          unfold pairOf at hpp
          split at hpp
          · rename_i i j
            cases h1 with
            | tup hq rr =>
              cases rr with
              | cons a1 rr =>
                cases rr with
                | cons a2 rr =>
                  cases rr
                  cases a1
                  cases a2
                  cases (show _ = Value.ref _ from h2)
                  obtain ⟨its2, w1, w2, _⟩ := I.tuple (seqT_mono hF hq)
                  obtain ⟨u1, u2, rfl, ri, rj⟩ := vals2 w1
                  obtain ⟨t1, rfl⟩ := ri
                  obtain ⟨t2, rfl⟩ := rj
                  obtain ⟨o, ho, hc, n, hd⟩ := w2
                  exact ⟨.tup hq (.cons (.int i) (.cons (.int j) .nil)), ⟨_, o, t1, t2, n, rfl, ho, hc, hd⟩, rfl⟩
          · cases hpp
  have all := each rv rI hp
  -- the key of an item
  let k : Value → Int × Int := fun v => open Classical in if h : ∃ p : Int × Int, Srt.IsPair s.heap v p.1 p.2 then Classical.choose h else (0, 0)
  have hk : ∀ (v : Vl) (u : Value), (RV X.K g.F g.ρ v (backV u) ∧ Srt.IsPair s.heap u (keyP v).1 (keyP v).2 ∧ RelV (backV u) u) → keyP v = k u := fun v u ⟨_, h, _⟩ => by
    have e : ∃ p : Int × Int, Srt.IsPair s.heap u p.1 p.2 := ⟨keyP v, h⟩
    have e2 : k u = Classical.choose e := dif_pos e
    have := isPair_uniq h (Classical.choose_spec e)
    rw [e2]
    exact Prod.ext this.1 this.2
  refine SrtO.sorted_pairsO (k := k) hl.isList (by rw [← rI.length]; exact hz) (fun v hv => ?_) fun h' d out h1 h2 kp hd hn => ?_
  · obtain ⟨w, hw⟩ : ∃ w, RV X.K g.F g.ρ w (backV v) ∧ Srt.IsPair s.heap v (keyP w).1 (keyP w).2 ∧ RelV (backV v) v := by
      clear hl hz
      have : ∀ {vs : List Vl} {its : List Value}, Paired (fun (v : Vl) (u : Value) => RV X.K g.F g.ρ v (backV u) ∧ Srt.IsPair s.heap u (keyP v).1 (keyP v).2 ∧ RelV (backV u) u) vs its → v ∈ its → ∃ w, RV X.K g.F g.ρ w (backV v) ∧ Srt.IsPair s.heap v (keyP w).1 (keyP w).2 ∧ RelV (backV v) v := by
        intro vs its h
        induction h with
        | nil => exact fun z => nomatch z
        | cons h1 r ih =>
          intro hm
          rcases List.mem_cons.mp hm with rfl | hm
          · exact ⟨_, h1⟩
          · exact ih hm
      exact this all hv
    rw [← hk w v hw]; exact hw.2.1
  · have eo := sortP_only h1 h2
    have rel := sortP_rel hk all
    rw [← eo] at rel
    obtain ⟨n, hn⟩ := hn
    have r1 : ∀ {as : List Vl} {bs : List Value}, Paired (fun (v : Vl) (u : Value) => RV X.K g.F g.ρ v (backV u) ∧ Srt.IsPair s.heap u (keyP v).1 (keyP v).2 ∧ RelV (backV u) u) as bs → RVs X.K g.F g.ρ as (bs.map backV) ∧ Vals (bs.map backV) bs := by
      intro as bs rel
      induction rel with
      | nil => exact ⟨.nil, .nil⟩
      | cons h r ih => exact ⟨.cons h.1 ih.1, .cons h.2.2 ih.2⟩
    obtain ⟨r1, r2⟩ := r1 rel
    refine ⟨.ref d, upd H' d (.lst (out.map backV)), I.laid (t' := s.toks) kp hd ⟨?_, out, n, r2, hn⟩, rfl, q _ d r1 (I.hok.fresh hd)⟩
    rw [List.length_map, h2.len, ← rI.length]
    exact hz
end
end VM

/-! VMOps3: built-ins by values, subscripts, slices, isinstance. -/
namespace VM
open PySem PySem.Spec PyProof.Rows L2
section
variable {X : Cx}
theorem biCase1 {K : Fg} {g : Gh} {us : List Vl} {xs : List V} {a : Vl} (r : RBs K g us xs) (e : us = [a]) : ∃ x, xs = [x] ∧ RB K g a x := by
  subst e
  cases r with
  | cons h r => cases r; exact ⟨_, rfl, h⟩
theorem biCase2 {K : Fg} {g : Gh} {us : List Vl} {xs : List V} {a b : Vl} (r : RBs K g us xs) (e : us = [a, b]) : ∃ x y, xs = [x, y] ∧ RB K g a x ∧ RB K g b y := by
  subst e
  cases r with
  | cons h r =>
    cases r with
    | cons h' r => cases r; exact ⟨_, _, rfl, h, h'⟩
theorem lenOf (h : Heap) (a : Vl) (r : Rv) (e : bi h .len [a] = some r) : (∃ s, a = .str s ∧ s.length ≤ top ∧ r = .v (.int s.length)) ∨ (∃ kvs, dits h a = some kvs ∧ r = .v (.int kvs.length)) ∨ ∃ vs, items h a = some vs ∧ r = .v (.int vs.length) := by
  cases a
  case str s =>
    simp only [bi] at e
    split at e
    · rename_i hl; exact .inl ⟨s, rfl, hl, (Option.some.inj e).symm⟩
    · cases e
  all_goals
    simp only [bi] at e
    split at e
    · rename_i kvs hk; exact .inr (.inl ⟨kvs, hk, (Option.some.inj e).symm⟩)
    · obtain ⟨vs, h1, h2⟩ := Option.map_eq_some_iff.mp e
      exact .inr (.inr ⟨vs, h1, h2.symm⟩)
theorem op_bi (hu : X.A.units + 80 < cLine) (hg : X.A.guards = some []) (hc : X.calm = true) (f : Bi) : CallR X (biVal f) (rBi X.K f) := by
  intro pins s σ H xs us Q I rs h
  obtain ⟨g, t, τ, as, R, rb, r, e, q⟩ := h
  have seq : ∀ {a : Vl} {x : V} {vs : List Vl}, RB X.K g a x → items t.hp a = some vs → ∃ p ys, x = .ref p ∧ (SqL X.K H p ys ∨ SqT X.K H p ys) ∧ RVs X.K g.F g.ρ vs ys := fun b hi => by
    obtain ⟨p, ys, h1, h2, h3⟩ := R.hr.items_ b hi
    refine ⟨p, ys, h1, ?_, h2⟩
    rcases h3 with ⟨z, _⟩ | ⟨z, _⟩
    · exact .inl z
    · exact .inr z
  cases f with
  | len =>
    match as, rb, e with
    | [a], rb, e =>
      obtain ⟨x, rfl, ba⟩ := biCase1 rb rfl
      rcases lenOf t.hp a r e with ⟨z, rfl, hl, rfl⟩ | ⟨kvs, hk, rfl⟩ | ⟨vs, hi, rfl⟩
      · have e1 := ba.flat_ rfl
        cases e1
        exact call_len_str pins s σ H _ us Q I rs ⟨z, rfl, by rw [← top_line]; exact hl, give_int R q⟩
      · obtain ⟨p, ys, rfl, h1, h2⟩ := R.hr.dits_ ba hk
        refine call_lenD pins s σ H _ us Q I rs ⟨p, ys, rfl, h1, ?_⟩
        rw [← h2.length]
        exact give_int R q
      · obtain ⟨p, ys, rfl, h1, h2⟩ := seq ba hi
        refine call_len_seq pins s σ H _ us Q I rs ⟨p, ys, rfl, h1, ?_⟩
        rw [← h2.length]
        exact give_int R q
    | [], _, e => cases e
    | _ :: _ :: _, _, e => cases e
  | abs =>
    have : ∃ i, as = [.int i] := by
      unfold bi at e
      split at e <;> first | (cases e; done) | exact ⟨_, rfl⟩ | (simp_all; done)
    obtain ⟨i, rfl⟩ := this
    obtain ⟨x, rfl, ba⟩ := biCase1 rb rfl
    have e1 := ba.flat_ rfl
    cases e1
    have e2 := Option.some.inj e
    subst e2
    exact call_abs pins s σ H _ us Q I rs ⟨i, rfl, give_int R q⟩
  | min =>
    have : ∃ i j, as = [.int i, .int j] := by
      unfold bi at e
      split at e <;> first | (cases e; done) | exact ⟨_, _, rfl⟩ | (simp_all; done)
    obtain ⟨i, j, rfl⟩ := this
    obtain ⟨x, y, rfl, ba, bb⟩ := biCase2 rb rfl
    have e1 := ba.flat_ rfl
    have e2 := bb.flat_ rfl
    cases e1; cases e2
    have e3 := Option.some.inj e
    subst e3
    exact call_min2 hc pins s σ H _ us Q I rs ⟨i, j, rfl, give_int R q⟩
  | max =>
    have : ∃ i j, as = [.int i, .int j] := by
      unfold bi at e
      split at e <;> first | (cases e; done) | exact ⟨_, _, rfl⟩ | (simp_all; done)
    obtain ⟨i, j, rfl⟩ := this
    obtain ⟨x, y, rfl, ba, bb⟩ := biCase2 rb rfl
    have e1 := ba.flat_ rfl
    have e2 := bb.flat_ rfl
    cases e1; cases e2
    have e3 := Option.some.inj e
    subst e3
    exact call_max2 hc pins s σ H _ us Q I rs ⟨i, j, rfl, give_int R q⟩
  | int =>
    have : (∃ i, as = [.int i] ∧ r = .v (.int i)) ∨ ∃ b, as = [.bl b] ∧ r = .v (.int (if b then 1 else 0)) := by
      unfold bi at e
      split at e <;> first | (cases e; done) | exact .inl ⟨_, rfl, (Option.some.inj e).symm⟩ | exact .inr ⟨_, rfl, (Option.some.inj e).symm⟩ | (simp_all; done)
    rcases this with ⟨i, rfl, rfl⟩ | ⟨b, rfl, rfl⟩
    · obtain ⟨x, rfl, ba⟩ := biCase1 rb rfl
      have e1 := ba.flat_ rfl
      cases e1
      exact call_int1 pins s σ H _ us Q I rs (.inl ⟨i, rfl, give_int R q⟩)
    · obtain ⟨x, rfl, ba⟩ := biCase1 rb rfl
      have e1 := ba.flat_ rfl
      cases e1
      exact call_int1 pins s σ H _ us Q I rs (.inr ⟨b, rfl, give_int R q⟩)
  | str =>
    have : ∃ i, as = [.int i] ∧ i.natAbs.log2 < 1920 ∧ r = .v (.str (toString i)) := by
      unfold bi at e
      split at e <;> first
        | (cases e; done)
        | (split at e
           · rename_i hl; exact ⟨_, rfl, hl, (Option.some.inj e).symm⟩
           · cases e)
        | (simp_all; done)
    obtain ⟨i, rfl, hl, rfl⟩ := this
    obtain ⟨x, rfl, ba⟩ := biCase1 rb rfl
    have e1 := ba.flat_ rfl
    cases e1
    exact call_str_int pins s σ H _ us Q I rs ⟨i, rfl, hl, q g H _ (.refl g) R (.str _)⟩
  | repr =>
    match as, rb, e with
    | [a], rb, e =>
      obtain ⟨x, rfl, ba⟩ := biCase1 rb rfl
      obtain ⟨z, h1, h2⟩ := Option.map_eq_some_iff.mp (show (reprV (deref t.hp a)).map (fun s => Rv.v (.str s)) = some r from e)
      subst h2
      obtain ⟨d, h3, h4, h5, h6, h7⟩ := shown_of h1
      subst h7
      exact call_reprD hu hg pins s σ H _ us Q I rs ⟨x, d, rfl, R.hr.data ba h3, h4, ⟨(plain_pd h3).2, h5⟩, h6, q g H _ (.refl g) R (.str _)⟩
    | [], _, e => cases e
    | _ :: _ :: _, _, e => cases e
  | list =>
    match as, rb, e with
    | [a], rb, e =>
      obtain ⟨x, rfl, ba⟩ := biCase1 rb rfl
      obtain ⟨vs, hi, rfl⟩ := Option.map_eq_some_iff.mp (show (items t.hp a).map Rv.ol = some r from e)
      obtain ⟨p, ys, rfl, h1, h2⟩ := seq ba hi
      refine call_list_of pins s σ H _ us Q I rs ⟨p, ys, rfl, h1, fun l hl => ?_⟩
      obtain ⟨r1, r2⟩ := R.newLst hl h2
      exact q g _ _ (.refl g) r1 r2
    | [], _, e => cases e
    | _ :: _ :: _, _, e => cases e
  | tuple =>
    match as, rb, e with
    | [a], rb, e =>
      obtain ⟨x, rfl, ba⟩ := biCase1 rb rfl
      obtain ⟨vs, hi, rfl⟩ := Option.map_eq_some_iff.mp (show (items t.hp a).map (fun vs => Rv.v (.tup vs)) = some r from e)
      obtain ⟨p, ys, rfl, h2, h1⟩ := R.hr.items_ ba hi
      refine call_tuple_of pins s σ H _ us Q I rs ⟨p, ys, rfl, ?_⟩
      rcases h1 with ⟨z, _⟩ | ⟨z, ez⟩
      · refine .inl ⟨z, fun l hl => ?_⟩
        obtain ⟨g', x, r1, r2⟩ := R.newTup hl h2
        exact q g' _ _ x r1 r2
      · refine .inr ⟨z, q g H _ (.refl g) R ?_⟩
        subst ez
        rcases ba with z | ⟨_, _, _, z, _⟩ | ⟨_, _, _, z, _⟩
        · exact z
        · cases z
        · cases z
    | [], _, e => cases e
    | _ :: _ :: _, _, e => cases e
  | all =>
    match as, rb, e with
    | [a], rb, e =>
      obtain ⟨x, rfl, ba⟩ := biCase1 rb rfl
      simp only [bi] at e
      split at e
      · rename_i vs hv
        obtain ⟨bs, hb, rfl⟩ := Option.map_eq_some_iff.mp e
        obtain ⟨p, ys, rfl, h1, h2⟩ := R.hr.lits_ ba hv
        have e2 := h2.bools_ hb
        subst e2
        exact cr_all hc pins s σ H _ us Q I rs ⟨p, bs, rfl, h1, q g H _ (.refl g) R (.bl _)⟩
      · cases e
    | [], _, e => cases e
    | _ :: _ :: _, _, e => cases e
  | any =>
    match as, rb, e with
    | [a], rb, e =>
      obtain ⟨x, rfl, ba⟩ := biCase1 rb rfl
      simp only [bi] at e
      split at e
      · rename_i vs hv
        obtain ⟨bs, hb, rfl⟩ := Option.map_eq_some_iff.mp e
        obtain ⟨p, ys, rfl, h1, h2⟩ := R.hr.lits_ ba hv
        have e2 := h2.bools_ hb
        subst e2
        exact cr_any hc pins s σ H _ us Q I rs ⟨p, bs, rfl, h1, q g H _ (.refl g) R (.bl _)⟩
      · cases e
    | [], _, e => cases e
    | _ :: _ :: _, _, e => cases e
  | sum =>
    match as, rb, e with
    | [a], rb, e =>
      obtain ⟨x, rfl, ba⟩ := biCase1 rb rfl
      simp only [bi] at e
      split at e
      · rename_i vs hv
        obtain ⟨ns, hb, rfl⟩ := Option.map_eq_some_iff.mp e
        obtain ⟨p, ys, rfl, h1, h2⟩ := R.hr.lits_ ba hv
        have e2 := h2.ints_ hb
        subst e2
        exact cr_sum hc pins s σ H _ us Q I rs ⟨p, ns, rfl, h1, give_int R q⟩
      · cases e
    | [], _, e => cases e
    | _ :: _ :: _, _, e => cases e
  | sorted =>
    match as, rb, e with
    | [a], rb, e =>
      obtain ⟨x, rfl, ba⟩ := biCase1 rb rfl
      simp only [bi] at e
      split at e
      · rename_i kvs hk
        split at e
        · rename_i hl
          obtain ⟨ns, hn, rfl⟩ := Option.map_eq_some_iff.mp e
          obtain ⟨p, ys, rfl, h1, h2⟩ := R.hr.dits_ ba hk
          have hm := keyInts_map h2 hn
          have hnl : ns.length < 64 := by
            have := congrArg List.length hm
            rw [List.length_map, List.length_map, ← h2.length] at this
            omega
          refine call_sortedDI hc pins s σ H _ us Q I rs ⟨p, ys, ns, rfl, .inl h1, hm, hnl, fun zs l hp hs hl => ?_⟩
          have e3 : zs = sortI ns := sortI_only hp hs
          subst e3
          obtain ⟨r1, r2⟩ := R.newLst hl (RVs.ofInts (K := X.K) (F := g.F) (ρ := g.ρ) (sortI ns))
          exact q g _ _ (.refl g) r1 r2
        · cases e
      · split at e
        · rename_i vs hv
          obtain ⟨p, ys, rfl, h1, h2⟩ := R.hr.lits_ ba hv
          split at e
          · rename_i ns hb
            cases e
            have e2 := h2.ints_ hb
            subst e2
            refine cr_sortedI pins s σ H _ us Q I rs ⟨p, ns, rfl, h1, fun zs l hp hs hl => ?_⟩
            have e3 : zs = sortI ns := sortI_only hp hs
            subst e3
            obtain ⟨r1, r2⟩ := R.newLst hl (RVs.ofInts (K := X.K) (F := g.F) (ρ := g.ρ) (sortI ns))
            exact q g _ _ (.refl g) r1 r2
          · split at e
            · rename_i hall
              cases e
              refine call_sortPr (K := X.K) (g := g) rfl (R.hr.fp.trans R.hr.ph) hall pins s σ H _ us Q I rs ⟨p, ys, rfl, rfl, h1, h2, fun zs l hz hl => ?_⟩
              obtain ⟨r1, r2⟩ := R.newLst hl hz
              exact q g _ _ (.refl g) r1 r2
            · cases e
        · cases e
    | [], _, e => cases e
    | _ :: _ :: _, _, e => cases e
/-! ### a[i] -/
def rIdx (K : Fg) : R2 := fun x y H Q => ∃ g s σ u w v, Rel K g s σ H ∧ RB K g u x ∧ RB K g w y ∧ idx s.hp u w = some v ∧ ∀ z, RV K g.F g.ρ v z → Q z H
theorem place_ix {n : Nat} {i : Int} : place n i = ixN n i := rfl
theorem ix_any (hu : X.A.units + 1 < cLine) : IxR X (rIdx X.K) := by
  intro value slice pins s σ H x y v u Q I rx ry h hs
  obtain ⟨g, t, τ, a, w, r, R, ba, bw, e, q⟩ := h
  unfold idx at e
  split at e
  · rename_i kvs hk
    split at e
    · rename_i k hkey
      obtain ⟨p, ys, rfl, h1, h2⟩ := R.hr.dits_ ba hk
      have ey := bw.key hkey
      subst ey
      have hg := h2.get k
      rw [e] at hg
      obtain ⟨z, e1, e2⟩ := hg
      have dg : DGet H p (kV k) (some z) := by rw [← e1]; exact DGet.k h1
      cases rx
      refine tail_any (dict_typeIs I dg) PySem.F.slot_dict_getitem.lookup (d_getItem hu I dg ry fun w' s3 I3 rw' => ?_) hs
      exact ⟨z, H, I3, rw', q z e2⟩
    · cases e
  · split at e
    · rename_i i
      have e1 := bw.flat_ rfl
      cases e1
      split at e
      · rename_i xs hi
        split at e
        · rename_i j hj
          obtain ⟨p, ys, rfl, h2, h1⟩ := R.hr.items_ ba hi
          obtain ⟨z, e1, e2⟩ := h2.get e
          have hat : atI ys i = some z := by
            unfold atI
            rw [← h2.length, ← place_ix, hj]
            exact e1
          rcases h1 with ⟨z1, _⟩ | ⟨z1, _⟩
          · exact ix_list value slice pins s σ H _ _ v u Q I rx ry ⟨p, ys, i, z, rfl, rfl, z1, hat, q z e2⟩ hs
          · exact ix_tup value slice pins s σ H _ _ v u Q I rx ry ⟨p, ys, i, z, rfl, rfl, z1, hat, q z e2⟩ hs
        · cases e
      · split at e
        · rename_i z hz1 hz2
          split at e
          · rename_i hl
            split at e
            · rename_i j hj
              obtain ⟨c, hc, rfl⟩ := Option.map_eq_some_iff.mp e
              have e1 := ba.flat_ rfl
              cases e1
              have hat : atI z.cps.toList i = some c := by
                unfold atI
                rw [Array.length_toList, ← place_ix, show z.cps.size = z.length from rfl, hj]
                show z.cps.toList[j]? = some c
                rw [Array.getElem?_toList]; exact hc
              exact ix_str value slice pins s σ H _ _ v u Q I rx ry ⟨z, i, c, rfl, rfl, by rw [← top_line]; exact hl, hat, q _ (.str _)⟩ hs
            · cases e
          · cases e
        · cases e
    · cases e
/-! ### slices -/
def rSlc (K : Fg) : V → Option Int → Option Int → Hp → VK → Prop := fun x lo hi H Q => ∃ g s σ u, Rel K g s σ H ∧ RB K g u x ∧ Give K g s σ Q (slc s.hp u lo hi)
theorem cut_eq (n d : Nat) (o : Option Int) : cutAt n d o = HT.sIx n d o := by
  cases o <;> rfl
theorem cut_len {α : Type} (xs : List α) (l u : Option Int) : cut xs l u = (xs.drop (HT.sIx xs.length 0 l)).take (HT.sIx xs.length xs.length u - HT.sIx xs.length 0 l) := by
  unfold cut
  rw [cut_eq, cut_eq]
theorem RVs.cutV {K : Fg} {F : Hp} {ρ : Nat → Option Addr} {vs : List Vl} {xs : List V} (r : RVs K F ρ vs xs) (l u : Option Int) : RVs K F ρ (cut vs l u) (L2.cutV xs l u) := by
  rw [cut_len]
  unfold L2.cutV
  rw [← r.length]
  exact (r.drop _).take _
theorem sl_any : SlR X (rSlc X.K) := by
  intro pins s σ H x v vl vu lo hi sl Q I rx hs pl pu h
  obtain ⟨g, t, τ, a, R, ba, r, e, q⟩ := h
  unfold slc at e
  have lists : ∀ {vs : List Vl}, lits t.hp a = some vs → r = .ol (cut vs lo hi) → ∃ T id, typeLookup (.type T) "__getitem__" = pure (some (.builtin id)) ∧ s.TypeIs v T ∧ wpAny (model X.prog X.w) X.A (getItem v (.ref sl)) (EP X pins σ Q) X.xe s := by
    intro vs hv er
    subst er
    obtain ⟨p, ys, rfl, h1, h2⟩ := R.hr.lits_ ba hv
    refine sl_list pins s σ H _ v vl vu lo hi sl Q I rx hs pl pu ⟨p, ys, rfl, h1, fun l hl => ?_⟩
    obtain ⟨r1, r2⟩ := R.newLst hl (h2.cutV lo hi)
    exact q g _ _ (.refl g) r1 r2
  cases a
  case tup vs =>
    have er := Option.some.inj e
    subst er
    obtain ⟨p, ys, rfl, h2, h1⟩ := R.hr.items_ (vs := vs) ba rfl
    have h1 : SqT X.K H p ys := by
      rcases h1 with ⟨_, h⟩ | ⟨h, _⟩
      · simp [lits] at h
      · exact h
    refine sl_tupA pins s σ H _ v vl vu lo hi sl Q I rx hs pl pu ⟨p, ys, rfl, h1, fun hw => ?_, fun _ l hl => ?_⟩
    · have ev : cut vs lo hi = vs := by
        rw [cut_len, h2.length, hw.1, hw.2, List.drop_zero, Nat.sub_zero, List.take_of_length_le (by rw [h2.length]; exact Nat.le_refl _)]
      rw [ev] at q
      refine q g H _ (.refl g) R ?_
      rcases ba with z | ⟨_, _, _, z, _⟩ | ⟨_, _, _, z, _⟩
      · exact z
      · cases z
      · cases z
    · obtain ⟨g', x, r1, r2⟩ := R.newTup hl (h2.cutV lo hi)
      exact q g' _ _ x r1 r2
  all_goals
    obtain ⟨vs, hv, er⟩ := Option.map_eq_some_iff.mp e
    exact lists hv er.symm
/-! ### isinstance -/
def tyName : Ty → String
  | .int => "int" | .bool => "bool" | .str => "str" | .tuple => "tuple" | .list => "list" | .dict => "dict"
/-- the type of a value that is looked at -/
def vTy (h : Heap) : Vl → Option String
  | .non => some "NoneType"
  | .bl _ => some "bool"
  | .int _ => some "int"
  | .str _ => some "str"
  | .tup _ => some "tuple"
  | .lst _ => some "list"
  | .dct _ => some "dict"
  | .ref a => match h[a]? with
    | some (.lst _) => some "list"
    | some (.dct _) => some "dict"
    | none => none
  | .exn _ _ => none
theorem HRel.ty_ {K : Fg} {g : Gh} {h : Heap} {H : Hp} {u : Vl} {x : V} (r : HRel K g h H) (b : RB K g u x) (t : String) (e : vTy h u = some t) : TyX K H x (.type t) := by
  have up : Same g.F H := r.fp.trans r.ph
  have rdL : ∀ {p : Addr} {xs : List V}, SqL K H p xs → TyX K H (.ref p) (.type "list") := fun z => by
    rcases z with (z | ⟨o, z⟩) | ⟨o, its, n, h, hc, _⟩
    · exact .base (.lst z)
    · exact .base (.frz z)
    · exact .kList h hc
  cases u with
  | non => cases e; have z := b.flat_ rfl; cases z; exact .base .non
  | bl b' => cases e; have z := b.flat_ rfl; cases z; exact .base (.bl _)
  | int b' => cases e; have z := b.flat_ rfl; cases z; exact .base (.int _)
  | str b' => cases e; have z := b.flat_ rfl; cases z; exact .base (.str _)
  | tup vs =>
    cases e
    obtain ⟨p, ys, rfl, h2, h1⟩ := r.items_ (vs := vs) b rfl
    rcases h1 with ⟨_, h⟩ | ⟨h, _⟩
    · simp [lits] at h
    · rcases h with (h | ⟨o, h⟩) | ⟨o, its, n, h, hc, _⟩
      · exact .base (.tup h)
      · exact .fTuple h
      · exact .kTuple h hc
  | lst vs => cases e; obtain ⟨p, ys, rfl, h1, _⟩ := r.lits_ (vs := vs) b rfl; exact rdL h1
  | dct vs => cases e; obtain ⟨p, ys, rfl, h1, _⟩ := r.dits_ (vs := vs) b rfl; exact .base (.dK h1)
  | exn _ _ => cases e
  | ref a =>
    cases c : h[a]? with
    | none => simp only [vTy, c] at e; cases e
    | some cc =>
      simp only [vTy, c] at e
      cases cc with
      | lst vs => cases e; obtain ⟨p, ys, rfl, h1, _⟩ := r.lits_ (vs := vs) b (by simp [lits, c]); exact rdL h1
      | dct vs => cases e; obtain ⟨p, ys, rfl, h1, _⟩ := r.dits_ (vs := vs) b (by simp [dits, c]); exact .base (.dK h1)
theorem isTy_kit (K : Fg) (h : Heap) (u : Vl) (t : String) (e : vTy h u = some t) (ty : Ty) : PySem.W.kitOne K (.type t) (.type (tyName ty)) = some (isTy h u ty) := by
  have key : ∀ (t : String) (ty : Ty) (b : Bool), kitB t (tyName ty) = some b → PySem.W.kitOne K (.type t) (.type (tyName ty)) = some b := fun t ty b hb => kit_ty hb
  cases u with
  | non => cases e; cases ty <;> first | exact key _ _ true (by decide +kernel) | exact key _ _ false (by decide +kernel)
  | bl b' => cases e; cases ty <;> first | exact key _ _ true (by decide +kernel) | exact key _ _ false (by decide +kernel)
  | int b' => cases e; cases ty <;> first | exact key _ _ true (by decide +kernel) | exact key _ _ false (by decide +kernel)
  | str b' => cases e; cases ty <;> first | exact key _ _ true (by decide +kernel) | exact key _ _ false (by decide +kernel)
  | tup vs => cases e; cases ty <;> first | exact key _ _ true (by decide +kernel) | exact key _ _ false (by decide +kernel)
  | lst vs => cases e; cases ty <;> first | exact key _ _ true (by decide +kernel) | exact key _ _ false (by decide +kernel)
  | dct vs => cases e; cases ty <;> first | exact key _ _ true (by decide +kernel) | exact key _ _ false (by decide +kernel)
  | exn _ _ => cases e
  | ref a =>
    cases c : h[a]? with
    | none => simp only [vTy, c] at e; cases e
    | some cc =>
      simp only [vTy, c] at e
      cases cc with
      | lst vs =>
        cases e
        have e1 : lits h (.ref a) = some vs := by simp [lits, c]
        have e2 : dits h (.ref a) = none := by simp [dits, c]
        cases ty <;> simp only [isTy, e1, e2] <;> first | exact key _ _ true (by decide +kernel) | exact key _ _ false (by decide +kernel)
      | dct vs =>
        cases e
        have e1 : lits h (.ref a) = none := by simp [lits, c]
        have e2 : dits h (.ref a) = some vs := by simp [dits, c]
        cases ty <;> simp only [isTy, e1, e2] <;> first | exact key _ _ true (by decide +kernel) | exact key _ _ false (by decide +kernel)
end
end VM

/-! VMSim: expressions. -/
namespace VM
open PySem PySem.Spec PyProof.Rows L2
/-! ### the machine's steps -/
def Sim {α : Type} (m : R α) (Q : α → St → Prop) (Z : Ex → St → Prop) : Prop := match m with
  | .ok a s => Q a s
  | .exc x s => Z x s
  | .bad => False
theorem sim_bind {α β : Type} (m : M α) (f : α → M β) (s : St) (Q : β → St → Prop) (Z : Ex → St → Prop) : Sim ((m >>= f) s) Q Z = Sim (m s) (fun a s' => Sim (f a s') Q Z) Z := by
  show Sim (M.bind m f s) Q Z = _
  unfold M.bind Sim
  cases m s <;> rfl
theorem sim_pure {α : Type} (a : α) (s : St) (Q : α → St → Prop) (Z : Ex → St → Prop) : Sim ((Pure.pure a : M α) s) Q Z = Q a s := rfl
theorem sim_bad {α : Type} (s : St) (Q : α → St → Prop) (Z : Ex → St → Prop) : Sim ((bad : M α) s) Q Z = False := rfl
theorem sim_onHp {α : Type} (f : Heap → Option α) (s : St) (Q : α → St → Prop) (Z : Ex → St → Prop) : Sim (onHp f s) Q Z = ∃ a, f s.hp = some a ∧ Q a s := by
  unfold onHp Sim
  cases f s.hp with
  | none => simp
  | some a => simp
theorem sim_lift {α : Type} (o : Option α) (s : St) (Q : α → St → Prop) (Z : Ex → St → Prop) : Sim (lift o s) Q Z = ∃ a, o = some a ∧ Q a s := by
  unfold lift Sim
  cases o with
  | none => simp
  | some a => simp
theorem sim_hp (s : St) (Q : Heap → St → Prop) (Z : Ex → St → Prop) : Sim (hp s) Q Z = Q s.hp s := rfl
theorem Sim.mono {α : Type} {m : R α} {Q Q' : α → St → Prop} {Z Z' : Ex → St → Prop} (h : Sim m Q Z) (hq : ∀ a s, Q a s → Q' a s) (hz : ∀ x s, Z x s → Z' x s) : Sim m Q' Z' := by
  unfold Sim at h ⊢
  cases m with
  | ok a s => exact hq a s h
  | exc x s => exact hz x s h
  | bad => exact h
/-! ### readings -/
abbrev RXT := Gh → Ex → Value → Option Addr → Hp → Prop
/-- the wish about exceptions, from ghost g on -/
def Zx (K : Fg) (RX : RXT) (W : WX) (g : Gh) (σ : L2.St) : Ex → St → Prop := fun x s' => ∀ g' H' cls d, ExtS g g' → Rel K g' s' σ H' → RX g' x cls d H' → W cls d σ H'
def tM (K : Fg) (RX : RXT) (W : WX) (m : M Rv) : TE := fun σ H Q => ∃ g s, Rel K g s σ H ∧ Sim (m s) (fun r s' => ∀ g' H' x, Ext g g' → Rel K g' s' σ H' → RR K g' H' r x → Q x H') (Zx K RX W g σ)
def tB (K : Fg) (RX : RXT) (W : WX) (m : M Vl) : TE := fun σ H Q => ∃ g s, Rel K g s σ H ∧ Sim (m s) (fun u s' => ∀ g' H' x, Ext g g' → Rel K g' s' σ H' → RB K g' u x → Q x H') (Zx K RX W g σ)
def tT (K : Fg) (RX : RXT) (W : WX) (m : M Bool) : TT := fun σ H Q => ∃ g s, Rel K g s σ H ∧ Sim (m s) (fun b s' => ∀ g' H', Ext g g' → Rel K g' s' σ H' → Q b H') (Zx K RX W g σ)
def tAF (K : Fg) (RX : RXT) (W : WX) (m : M (List Vl)) : TA := fun σ H Q => ∃ g s, Rel K g s σ H ∧ Sim (m s) (fun us s' => ∀ g' H' xs, Ext g g' → Rel K g' s' σ H' → RVs K g'.F g'.ρ us xs → Q xs H') (Zx K RX W g σ)
def tAB (K : Fg) (RX : RXT) (W : WX) (m : M (List Vl)) : TA := fun σ H Q => ∃ g s, Rel K g s σ H ∧ Sim (m s) (fun us s' => ∀ g' H' xs, Ext g g' → Rel K g' s' σ H' → RBs K g' us xs → Q xs H') (Zx K RX W g σ)
section
variable {K : Fg} {RX : RXT} {W : WX} {g g' : Gh} {σ : L2.St}
theorem Zx.ext {x : Ex} {s : St} (e : ExtS g g') (h : Zx K RX W g σ x s) : Zx K RX W g' σ x s := fun g'' H' cls d e' r q => h g'' H' cls d (e.trans e') r q
end
theorem _root_.L2.PE.imp {X : Cx} {e : Expr} {t t' : TE} (p : PE X e t) (h : ∀ σ H Q, t' σ H Q → t σ H Q) : PE X e t' := ⟨fun pins s σ H Q I q => p.run pins s σ H Q I (h σ H Q q)⟩
theorem _root_.L2.PT.imp {X : Cx} {e : Expr} {t t' : TT} (p : PT X e t) (h : ∀ σ H Q, t' σ H Q → t σ H Q) : PT X e t' := ⟨fun pins s σ H Q I q => p.run pins s σ H Q I (h σ H Q q)⟩
theorem _root_.L2.PW.imp {X : Cx} {e : Expr} {t t' : TT} (p : PW X e t) (h : ∀ σ H Q, t' σ H Q → t σ H Q) : PW X e t' := ⟨fun w pins s σ H Q I q => p.run w pins s σ H Q I (h σ H Q q)⟩
theorem _root_.L2.PA.imp {X : Cx} {e : List Expr} {t t' : TA} (p : PA X e t) (h : ∀ σ H Q, t' σ H Q → t σ H Q) : PA X e t' := ⟨fun pos pins s σ H Q I q => p.run pos pins s σ H Q I (h σ H Q q)⟩
section
variable {X : Cx} {RX : RXT} {W : WX} {e e' : Expr} {pos : Pos}
/-- a result looked at -/
theorem tB_of {m : M Rv} (p : PE X e (tM X.K RX W m)) : PE X e (tB X.K RX W (do let r ← m; pure r.fz)) := p.imp fun σ H Q ⟨g, s, R, h⟩ => by
  refine ⟨g, s, R, ?_⟩
  rw [sim_bind] at h
  refine h.mono (fun r s' q g' H' x e1 R' rr => ?_) fun _ _ z => z
  obtain ⟨g2, e2, R2, rv⟩ := RR.fz R' rr
  exact q g2 H' x (e1.trans e2) R2 (.inl rv)
theorem tV_of {v : Vl} {V' : V} (p : PE X e (tC V')) (h : ∀ F ρ, RV X.K F ρ v V') : PE X e (tM X.K RX W (pure (.v v))) := p.imp fun σ H Q ⟨g, s, R, q⟩ => q g H V' (.refl g) R (h _ _)
/-- a name -/
theorem load_rel {K : Fg} {g : Gh} {s : St} {σ : L2.St} {H : Hp} {i : Nat} {r : Rv} (R : Rel K g s σ H) (e : s.env[i]? = some (some r)) :
    ∃ x, σ[i]? = some (some x) ∧ RB K g r.fz x ∧ ∃ g', Ext g g' ∧ Rel K g' { s with env := s.env.set i (some (.v r.fz)) } σ H ∧ RV K g'.F g'.ρ r.fz x := by
  have hi : i < s.env.length := (List.getElem?_eq_some_iff.mp e).1
  have hσ : i < σ.length := by rw [← R.len]; exact hi
  have ex : σ[i]? = some σ[i] := by simp [hσ]
  have q := R.slot i _ _ e ex
  have set_self : ∀ {v : Rv}, s.env[i]? = some (some v) → s.env.set i (some v) = s.env := fun {v} h => by
    refine List.ext_getElem? fun j => ?_
    by_cases z : i = j
    · subst z; rw [List.getElem?_set_self hi]; exact h.symm
    · rw [List.getElem?_set_ne z]
  -- the slot's own list is frozen
  have own : ∀ (p : Addr) (o : HO) (v : Vl), g.ow i = some p → g.P p = some o → (∀ g' : Gh, Ext g g' → g'.F p = some o → RV K g'.F g'.ρ v (.ref p)) → σ[i] = some (.ref p) →
      ∃ g', Ext g g' ∧ Rel K g' { s with env := s.env.set i (some (.v v)) } σ H ∧ RV K g'.F g'.ρ v (.ref p) := by
    intro p o v ho hp hv hx
    obtain ⟨_, h1, h2, h3⟩ := R.own i p ho
    let g' : Gh := { g with F := upd g.F p o, ow := fun j => if j = i then none else g.ow j }
    have x : Ext g g' := ⟨⟨same_upd h1, rfl, fun _ _ h => h, fun q a1 a2 => by
      show upd g.F p o q = none
      have z : q ≠ p := fun z => by subst z; exact a2 h2
      rw [upd_ne z]; exact a1⟩, Same.refl _⟩
    have rv := hv g' x upd_same
    refine ⟨g', x, ⟨⟨fun q u h => ?_, R.hr.bp, R.hr.ph, R.hr.cin, R.hr.inj, fun a c h => ?_, R.hr.dom⟩, by rw [List.length_set]; exact R.len, fun j r y a1 a2 => ?_, fun j l q a1 a2 => ?_, fun j q a1 => ?_⟩, rv⟩
    · have h : upd g.F p o q = some u := h
      by_cases z : q = p
      · subst z; rw [upd_same] at h; cases h; exact hp
      · rw [upd_ne z] at h; exact R.hr.fp _ _ h
    · obtain ⟨q, b1, b2⟩ := R.hr.cel a c h
      exact ⟨q, b1, b2.ext x.toExtS⟩
    · by_cases z : i = j
      · subst z
        rw [List.getElem?_set_self hi] at a1
        cases a1
        rw [ex, hx] at a2
        cases a2
        exact ⟨if_pos rfl, _, rfl, rv⟩
      · rw [List.getElem?_set_ne z] at a1
        have q := R.slot j r y a1 a2
        have z' : ¬ j = i := fun h => z h.symm
        have eo : g'.ow j = g.ow j := if_neg z'
        cases r with
        | none => exact eo.trans q
        | some r =>
          cases r with
          | v u => obtain ⟨q1, w, q2, q3⟩ := q; exact ⟨eo.trans q1, w, q2, q3.ext x.toExtS⟩
          | ol vs => obtain ⟨w, xs, q1, q2, q3, q4⟩ := q; exact ⟨w, xs, q1, eo.trans q2, q3, q4.ext x.toExtS⟩
          | od vs => obtain ⟨w, xs, q1, q2, q3, q4⟩ := q; exact ⟨w, xs, q1, eo.trans q2, q3, q4.ext x.toExtS⟩
    · by_cases z : j = i
      · rw [show g'.ow j = none from if_pos z] at a1; cases a1
      · by_cases z2 : l = i
        · rw [show g'.ow l = none from if_pos z2] at a2; cases a2
        · rw [show g'.ow j = g.ow j from if_neg z] at a1
          rw [show g'.ow l = g.ow l from if_neg z2] at a2
          exact R.apart j l q a1 a2
    · by_cases z : j = i
      · rw [show g'.ow j = none from if_pos z] at a1; cases a1
      · rw [show g'.ow j = g.ow j from if_neg z] at a1
        obtain ⟨b0, b1, b2, b3⟩ := R.own j q a1
        refine ⟨by rw [List.length_set]; exact b0, ?_, b2, b3⟩
        show upd g.F p o q = none
        have zz : q ≠ p := fun h => by subst h; exact z (R.apart j i q a1 ho)
        rw [upd_ne zz]; exact b1
  cases r with
  | v u =>
    obtain ⟨q1, x, q2, q3⟩ := q
    refine ⟨x, by rw [ex, q2], .inl q3, g, .refl g, ?_, q3⟩
    show Rel K g { s with env := s.env.set i (some (.v u)) } σ H
    rw [set_self e]
    exact R
  | ol vs =>
    obtain ⟨p, xs, q1, q2, q3, q4⟩ := q
    exact ⟨.ref p, by rw [ex, q1], .inr (.inl ⟨vs, xs, p, rfl, rfl, q3, q4⟩), own p _ _ q2 q3 (fun g' x hF => .lst (.inl (.inl hF)) (q4.ext x.toExtS)) q1⟩
  | od vs =>
    obtain ⟨p, xs, q1, q2, q3, q4⟩ := q
    exact ⟨.ref p, by rw [ex, q1], .inr (.inr ⟨vs, xs, p, rfl, rfl, q3, q4⟩), own p _ _ q2 q3 (fun g' x hF => .dct hF (q4.ext x.toExtS)) q1⟩
theorem pe_load {i : Nat} (p : PE X e (tVar i)) : PE X e (tM X.K RX W (load i)) := p.imp fun σ H Q ⟨g, s, R, h⟩ => by
  unfold load at h
  cases c : s.env[i]? with
  | none => rw [c] at h; exact h.elim
  | some r =>
    cases r with
    | none => rw [c] at h; exact h.elim
    | some r =>
      rw [c] at h
      obtain ⟨x, hx, _, g', e1, R', rv⟩ := load_rel R c
      exact ⟨x, hx, h g' H x e1 R' rv⟩
theorem pe_peek {i : Nat} (p : PE X e (tVar i)) : PE X e (tB X.K RX W (peek i)) := p.imp fun σ H Q ⟨g, s, R, h⟩ => by
  unfold peek at h
  cases c : s.env[i]? with
  | none => rw [c] at h; exact h.elim
  | some r =>
    cases r with
    | none => rw [c] at h; exact h.elim
    | some r =>
      rw [c] at h
      obtain ⟨x, hx, rb, _⟩ := load_rel R c
      exact ⟨x, hx, h g H x (.refl g) R rb⟩
/-! ### one, two in a row -/
theorem seq1 {m : M Vl} {f : Vl → M Rv} {Rr : V → Hp → VK → Prop} {σ : L2.St} {H : Hp} {Q : VK} (h : tM X.K RX W (do let x ← m; f x) σ H Q)
    (k : ∀ g s u x H1, Rel X.K g s σ H1 → RB X.K g u x → Sim (f u s) (fun r s' => ∀ g' H' z, Ext g g' → Rel X.K g' s' σ H' → RR X.K g' H' r z → Q z H') (Zx X.K RX W g σ) → Rr x H1 Q) : tB X.K RX W m σ H fun x H1 => Rr x H1 Q := by
  obtain ⟨g, s, R, h⟩ := h
  rw [sim_bind] at h
  refine ⟨g, s, R, h.mono (fun u s1 q g1 H1 x e1 R1 b1 => ?_) fun _ _ z => z⟩
  exact k g1 s1 u x H1 R1 b1 (q.mono (fun r s' q' g' H' z e2 => q' g' H' z (e1.trans e2)) fun _ _ z => z.ext e1.toExtS)
theorem seq2 {ma mb : M Vl} {f : Vl → Vl → M Rv} {Rr : R2} {σ : L2.St} {H : Hp} {Q : VK} (h : tM X.K RX W (do let x ← ma; let y ← mb; f x y) σ H Q)
    (k : ∀ g s u w x y H2, Rel X.K g s σ H2 → RB X.K g u x → RB X.K g w y → Sim (f u w s) (fun r s' => ∀ g' H' z, Ext g g' → Rel X.K g' s' σ H' → RR X.K g' H' r z → Q z H') (Zx X.K RX W g σ) → Rr x y H2 Q) :
    tB X.K RX W ma σ H fun x H1 => tB X.K RX W mb σ H1 fun y H2 => Rr x y H2 Q := by
  obtain ⟨g, s, R, h⟩ := h
  rw [sim_bind] at h
  refine ⟨g, s, R, h.mono (fun u s1 q g1 H1 x e1 R1 b1 => ?_) fun _ _ z => z⟩
  rw [sim_bind] at q
  refine ⟨g1, s1, R1, q.mono (fun w s2 q2 g2 H2 y e2 R2 b2 => ?_) fun _ _ z => z.ext e1.toExtS⟩
  exact k g2 s2 u w x y H2 R2 (b1.ext e2) b2 (q2.mono (fun r s' q' g' H' z e3 => q' g' H' z ((e1.trans e2).trans e3)) fun _ _ z => z.ext (e1.trans e2).toExtS)
theorem pe_bin {a b : M Vl} {o : Bop} (pa : PE X e (tB X.K RX W a)) (pb : PE X e' (tB X.K RX W b)) : PE X (.BinOp e (toOp o) e' pos) (tM X.K RX W (do let x ← a; let y ← b; onHp fun h => bop h o x y)) :=
  (pe_op (op_bop o) pa pb).imp fun σ H Q h => seq2 h fun g s u w x y H2 R b1 b2 q => by
    rw [sim_onHp] at q
    obtain ⟨r, e1, q⟩ := q
    exact ⟨g, s, σ, u, w, R, b1, b2, r, e1, q⟩
theorem pe_cop (hu : X.A.units + 64 < cLine) {a b : M Vl} {o : Cop} (pa : PE X e (tB X.K RX W a)) (pb : PE X e' (tB X.K RX W b)) (hm : behindInMarks (toCop o) e' = false) :
    PE X (.Compare e [toCop o] [e'] pos) (tM X.K RX W (do let x ← a; let y ← b; let r ← onHp fun h => cop h o x y; pure (.v (.bl r)))) :=
  (pe_cmpR (op_cop hu o) pa pb hm).imp fun σ H Q h => seq2 h fun g s u w x y H2 R b1 b2 q => by
    rw [sim_bind, sim_onHp] at q
    obtain ⟨r, e1, q⟩ := q
    exact ⟨g, s, σ, u, w, r, R, b1, b2, e1, q g H2 _ (.refl g) R (.bl r)⟩
/-- the truth of a value -/
theorem tru_any : TruR X (fun x H Q => ∃ g s σ u b, Rel X.K g s σ H ∧ RB X.K g u x ∧ truth s.hp u = some b ∧ Q b H) := by
  intro pins s σ H x v Q I rx h
  obtain ⟨g, t, τ, u, b, R, rb, e, q⟩ := h
  have out : ∀ {y : Vl}, RB X.K g y x → (match dits t.hp y with | some kvs => some (!kvs.isEmpty) | none => (items t.hp y).map fun vs => !vs.isEmpty) = some b → wpAny (model X.prog X.w) X.A (truthy v) (TP X pins σ Q) X.xe s := fun {y} rb e => by
    split at e
    · rename_i kvs hk
      obtain ⟨p, xs, rfl, h1, h2⟩ := R.hr.dits_ rb hk
      have e2 := Option.some.inj e
      refine tru_ok pins s σ H _ v Q I rx ⟨b, .inr (.inr ⟨xs, h1, ?_⟩), q⟩
      rw [← e2]
      cases h2 <;> rfl
    · obtain ⟨vs, hv, e2⟩ := Option.map_eq_some_iff.mp e
      obtain ⟨p, xs, rfl, h2, h1⟩ := R.hr.items_ rb hv
      have eb : b = !xs.isEmpty := by rw [← e2]; cases h2 <;> rfl
      rcases h1 with ⟨z, _⟩ | ⟨z, _⟩
      · exact tru_ok pins s σ H _ v Q I rx ⟨b, .inl ⟨xs, z, eb⟩, q⟩
      · exact tru_ok pins s σ H _ v Q I rx ⟨b, .inr (.inl ⟨xs, z, eb⟩), q⟩
  cases u with
  | non => cases e; have z := rb.flat_ rfl; cases z; exact tru_ok pins s σ H _ v Q I rx ⟨_, rfl, q⟩
  | bl k => cases e; have z := rb.flat_ rfl; cases z; exact tru_ok pins s σ H _ v Q I rx ⟨_, rfl, q⟩
  | int k => cases e; have z := rb.flat_ rfl; cases z; exact tru_ok pins s σ H _ v Q I rx ⟨_, rfl, q⟩
  | str k =>
    simp only [truth] at e
    split at e
    · rename_i hl
      cases e
      have z := rb.flat_ rfl; cases z
      exact tru_ok pins s σ H _ v Q I rx ⟨_, ⟨by rw [← top_line]; exact hl, rfl⟩, q⟩
    · cases e
  | tup vs => exact out rb e
  | lst vs => exact out rb e
  | dct vs => exact out rb e
  | ref a => exact out rb e
  | exn _ _ => cases e
theorem pt_any {a : M Vl} (pa : PE X e (tB X.K RX W a)) (he : ∀ whole, isTrue e X.env whole = (do let v ← whole; standAt e.pos; holding [v] (truthy v))) : PT X e (tT X.K RX W (tstB a)) := by
  refine ⟨fun pins s σ H Q I h => ?_⟩
  obtain ⟨g, t, R, h⟩ := h
  unfold tstB at h
  rw [sim_bind] at h
  refine isTrue_plain (thn (pa.run pins s σ H (fun x H1 => ∃ g s σ u b, Rel X.K g s σ H1 ∧ RB X.K g u x ∧ truth s.hp u = some b ∧ Q b H1) I ⟨g, t, R, h.mono (fun u s1 q g1 H1 x e1 R1 b1 => ?_) fun _ _ z => z⟩) fun v s1 ⟨x, H1, I1, r1, q1⟩ => tru_any pins s1 σ H1 x v Q I1 r1 q1) (he _)
  rw [sim_onHp] at q
  obtain ⟨b, e2, q⟩ := q
  exact ⟨g1, s1, σ, u, b, R1, b1, e2, q g1 H1 e1 R1⟩
theorem tB_bool {σ : L2.St} {H : Hp} {x : V} {K : Fg} {g : Gh} {b : Bool} (h : RB K g (.bl b) x) : x = .bl b := by
  have z := h.flat_ rfl
  cases z; rfl
theorem pe_nt {a : M Vl} (pa : PE X e (tB X.K RX W a)) : PE X (.UnaryOp .Not e pos) (tM X.K RX W (do
      let x ← a
      match x with
      | .bl b => pure (.v (.bl (!b)))
      | _ => bad)) :=
  (L2.pe_not pa).imp fun σ H Q h => seq1 (Rr := fun x H1 Q => ∃ c, x = .bl c ∧ Q (.bl (!c)) H1) h fun g s u x H1 R b q => by
    cases u with
    | bl c =>
      have z := b.flat_ rfl
      cases z
      exact ⟨c, rfl, q g H1 _ (.refl g) R (.bl _)⟩
    | _ => exact q.elim
theorem pt_nt {m : M Bool} (pa : PT X e (tT X.K RX W m)) : PT X (.UnaryOp .Not e pos) (tT X.K RX W (do let r ← m; pure (!r))) :=
  (L2.pt_not pa).imp fun σ H Q ⟨g, s, R, h⟩ => by
    rw [sim_bind] at h
    exact ⟨g, s, R, h.mono (fun b s' q g' H' e1 R' => q g' H' e1 R') fun _ _ z => z⟩
theorem pe_neg {a : M Vl} (pa : PE X e (tB X.K RX W a)) : PE X (.UnaryOp .USub e pos) (tM X.K RX W (do
      let x ← a
      match x with
      | .int i => pure (.v (.int (-i)))
      | _ => bad)) :=
  (pe_un un_neg pa).imp fun σ H Q h => seq1 (Rr := fun x H1 Q => rU (fun i => .int (-i)) x H1 Q) h fun g s u x H1 R b q => by
    cases u with
    | int c =>
      have z := b.flat_ rfl
      cases z
      exact ⟨c, rfl, q g H1 _ (.refl g) R (.int _)⟩
    | _ => exact q.elim
theorem isN_rel {K : Fg} {g : Gh} {u : Vl} {x : V} (b : RB K g u x) : decide (x = .non) = isNon u := by
  rcases b with b | ⟨_, _, _, rfl, rfl, _⟩ | ⟨_, _, _, rfl, rfl, _⟩
  · cases b <;> simp [isNon]
  · simp [isNon]
  · simp [isNon]
theorem pe_isN_ {a : M Vl} {j : Nat} {p' : Pos} (pa : PE X e (tB X.K RX W a)) : PE X (.Compare e [.Is] [.Constant .none j p'] pos) (tM X.K RX W (do
      let x ← a
      pure (.v (.bl (isNon x))))) :=
  (pe_cmp (pc_isN pa)).imp fun σ H Q h => seq1 (Rr := fun x H1 Q => Q (.bl (decide (x = .non))) H1) h fun g s u x H1 R b q => by
    rw [isN_rel b]
    exact q g H1 _ (.refl g) R (.bl _)
theorem pe_notN_ {a : M Vl} {j : Nat} {p' : Pos} (pa : PE X e (tB X.K RX W a)) : PE X (.Compare e [.IsNot] [.Constant .none j p'] pos) (tM X.K RX W (do
      let x ← a
      pure (.v (.bl (!isNon x))))) :=
  (pe_cmp (pc_notN pa)).imp fun σ H Q h => seq1 (Rr := fun x H1 Q => Q (.bl (!decide (x = .non))) H1) h fun g s u x H1 R b q => by
    rw [isN_rel b]
    exact q g H1 _ (.refl g) R (.bl _)
/-- a comparison, whatever it is, as a test -/
theorem pt_of_bl {m : M Rv} {op : CmpOp} {c : Expr} (pc : PC X op e c (tM X.K RX W m)) (hm : behindInMarks op c = false) : PT X (.Compare e [op] [c] pos) (tT X.K RX W (tstB (do let r ← m; pure r.fz))) := by
  refine ⟨fun pins s σ H Q I h => ?_⟩
  obtain ⟨g, t, R, h⟩ := h
  unfold tstB at h
  rw [sim_bind, sim_bind] at h
  refine wpAny_isTrue_Compare1 (thn (pc.run pins s σ H (fun x H1 => ∃ g s σ u b, Rel X.K g s σ H1 ∧ RB X.K g u x ∧ truth s.hp u = some b ∧ Q b H1) I ⟨g, t, R, h.mono (fun r s1 q g1 H1 x e1 R1 b1 => ?_) fun _ _ z => z⟩)
    fun v s1 h1 => thn h1 fun u s2 h2 => thn h2 fun c s3 ⟨x, H1, I1, r1, q1⟩ => tru_any pins s3 σ H1 x c Q I1 r1 q1) hm
  obtain ⟨g2, e2, R2, rv⟩ := RR.fz R1 b1
  have q : Sim (onHp (fun h => truth h r.fz) s1) _ _ := q
  rw [sim_onHp] at q
  obtain ⟨b, e3, q⟩ := q
  exact ⟨g2, s1, σ, r.fz, b, R2, .inl rv, e3, q g2 H1 (e1.trans e2) R2⟩
theorem _root_.L2.PC.imp {op : CmpOp} {a b : Expr} {t t' : TE} (p : PC X op a b t) (h : ∀ σ H Q, t' σ H Q → t σ H Q) : PC X op a b t' := ⟨fun pins s σ H Q I q => p.run pins s σ H Q I (h σ H Q q)⟩
theorem pcR {op : CmpOp} {r : R2} {a b : Expr} {ta tb : TE} (ho : OpR X (compareOp op) r) (ha : PE X a ta) (hb : PE X b tb) : PC X op a b (tOp r ta tb) :=
  ⟨fun pins s σ H Q I h => binT ha hb I h fun v u s2 x y H2 I2 rx ry q => ho pins s2 σ H2 x y v u Q I2 rx ry q⟩
theorem pt_cop (hu : X.A.units + 64 < cLine) {a b : M Vl} {o : Cop} (pa : PE X e (tB X.K RX W a)) (pb : PE X e' (tB X.K RX W b)) (hm : behindInMarks (toCop o) e' = false) :
    PT X (.Compare e [toCop o] [e'] pos) (tT X.K RX W (tstB (do let r ← (do { let x ← a; let y ← b; let r ← onHp fun h => cop h o x y; pure (.v (.bl r)) } : M Rv); pure r.fz))) :=
  pt_of_bl ((pcR (op_cop hu o) pa pb).imp fun σ H Q h => seq2 h fun g s u w x y H2 R b1 b2 q => by
    rw [sim_bind, sim_onHp] at q
    obtain ⟨r, e1, q⟩ := q
    exact ⟨g, s, σ, u, w, r, R, b1, b2, e1, q g H2 _ (.refl g) R (.bl r)⟩) hm
theorem pt_isN_ {a : M Vl} {j : Nat} {p' : Pos} (pa : PE X e (tB X.K RX W a)) : PT X (.Compare e [.Is] [.Constant .none j p'] pos) (tT X.K RX W (tstB (do let r ← (do { let x ← a; pure (.v (.bl (isNon x))) } : M Rv); pure r.fz))) :=
  pt_of_bl ((pc_isN pa).imp fun σ H Q h => seq1 (Rr := fun x H1 Q => Q (.bl (decide (x = .non))) H1) h fun g s u x H1 R b q => by
    rw [isN_rel b]
    exact q g H1 _ (.refl g) R (.bl _)) rfl
theorem pt_notN_ {a : M Vl} {j : Nat} {p' : Pos} (pa : PE X e (tB X.K RX W a)) : PT X (.Compare e [.IsNot] [.Constant .none j p'] pos) (tT X.K RX W (tstB (do let r ← (do { let x ← a; pure (.v (.bl (!isNon x))) } : M Rv); pure r.fz))) :=
  pt_of_bl ((pc_notN pa).imp fun σ H Q h => seq1 (Rr := fun x H1 Q => Q (.bl (!decide (x = .non))) H1) h fun g s u x H1 R b q => by
    rw [isN_rel b]
    exact q g H1 _ (.refl g) R (.bl _)) rfl
end
end VM

/-! VMSim2: further expressions. -/
namespace VM
open PySem PySem.Spec PyProof.Rows L2
section
variable {X : Cx} {RX : RXT} {W : WX} {e e' e₃ : Expr} {pos : Pos}
theorem pe_and_ {a : M Vl} {b : M Rv} {rest : List Expr} (pa : PE X e (tB X.K RX W a)) (pb : PE X (.BoolOp .And (e' :: rest) pos) (tM X.K RX W b)) :
    PE X (.BoolOp .And (e :: e' :: rest) pos) (tM X.K RX W (do
      let x ← a
      match x with
      | .bl true => b
      | .bl false => pure (.v (.bl false))
      | _ => bad)) :=
  (pe_and pa pb).imp fun σ H Q h => seq1 (Rr := fun x H1 Q => ∃ c, x = .bl c ∧ if c = true then tM X.K RX W b σ H1 Q else Q (.bl false) H1) h fun g s u x H1 R b q => by
    cases u with
    | bl c =>
      cases tB_bool (σ := σ) (H := H) b
      cases c with
      | true => exact ⟨true, rfl, iteT ⟨g, s, R, q⟩⟩
      | false => exact ⟨false, rfl, iteF (q g H1 _ (.refl g) R (.bl _))⟩
    | _ => exact q.elim
theorem pe_or_ {a : M Vl} {b : M Rv} {rest : List Expr} (pa : PE X e (tB X.K RX W a)) (pb : PE X (.BoolOp .Or (e' :: rest) pos) (tM X.K RX W b)) :
    PE X (.BoolOp .Or (e :: e' :: rest) pos) (tM X.K RX W (do
      let x ← a
      match x with
      | .bl true => pure (.v (.bl true))
      | .bl false => b
      | _ => bad)) :=
  (pe_or pa pb).imp fun σ H Q h => seq1 (Rr := fun x H1 Q => ∃ c, x = .bl c ∧ if c = true then Q (.bl true) H1 else tM X.K RX W b σ H1 Q) h fun g s u x H1 R b q => by
    cases u with
    | bl c =>
      cases tB_bool (σ := σ) (H := H) b
      cases c with
      | true => exact ⟨true, rfl, iteT (q g H1 _ (.refl g) R (.bl _))⟩
      | false => exact ⟨false, rfl, iteF ⟨g, s, R, q⟩⟩
    | _ => exact q.elim
theorem pw_and_ {a b : M Bool} {rest : List Expr} (pa : PT X e (tT X.K RX W a)) (pb : PW X (.BoolOp .And (e' :: rest) pos) (tT X.K RX W b)) :
    PW X (.BoolOp .And (e :: e' :: rest) pos) (tT X.K RX W (do let r ← a; if r then b else pure false)) :=
  (pw_and pa pb).imp fun σ H Q ⟨g, s, R, h⟩ => by
    rw [sim_bind] at h
    refine ⟨g, s, R, h.mono (fun c s1 q g1 H1 e1 R1 => ?_) fun _ _ z => z⟩
    cases c with
    | true => exact iteT ⟨g1, s1, R1, q.mono (fun b s' q' g' H' e2 => q' g' H' (e1.trans e2)) fun _ _ z => z.ext e1.toExtS⟩
    | false => exact iteF (q g1 H1 e1 R1)
theorem pw_or_ {a b : M Bool} {rest : List Expr} (pa : PT X e (tT X.K RX W a)) (pb : PW X (.BoolOp .Or (e' :: rest) pos) (tT X.K RX W b)) :
    PW X (.BoolOp .Or (e :: e' :: rest) pos) (tT X.K RX W (do let r ← a; if r then pure true else b)) :=
  (pw_or pa pb).imp fun σ H Q ⟨g, s, R, h⟩ => by
    rw [sim_bind] at h
    refine ⟨g, s, R, h.mono (fun c s1 q g1 H1 e1 R1 => ?_) fun _ _ z => z⟩
    cases c with
    | true => exact iteT (q g1 H1 e1 R1)
    | false => exact iteF ⟨g1, s1, R1, q.mono (fun b s' q' g' H' e2 => q' g' H' (e1.trans e2)) fun _ _ z => z.ext e1.toExtS⟩
theorem pe_ife {t : M Bool} {a b : M Rv} (pt : PT X e (tT X.K RX W t)) (pa : PE X e' (tM X.K RX W a)) (pb : PE X e₃ (tM X.K RX W b)) :
    PE X (.IfExp e e' e₃ pos) (tM X.K RX W (do let r ← t; if r then a else b)) :=
  (pe_ifExp pt pa pb).imp fun σ H Q ⟨g, s, R, h⟩ => by
    rw [sim_bind] at h
    refine ⟨g, s, R, h.mono (fun c s1 q g1 H1 e1 R1 => ?_) fun _ _ z => z⟩
    have q := q.mono (fun b s' q' g' H' z (e2 : Ext g1 g') => q' g' H' z (e1.trans e2)) fun _ _ z => z.ext e1.toExtS
    cases c with
    | true => exact iteT ⟨g1, s1, R1, q⟩
    | false => exact iteF ⟨g1, s1, R1, q⟩
theorem pe_chain_ (hu : X.A.units + 64 < cLine) {a b d : M Vl} {o u : Cop} (pa : PE X e (tB X.K RX W a)) (pb : PE X e' (tB X.K RX W b)) (pd : PE X e₃ (tB X.K RX W d)) (hm : lastMarks [toCop o, toCop u] [e', e₃] = false) :
    PE X (.Compare e [toCop o, toCop u] [e', e₃] pos) (tM X.K RX W (do
      let x ← a
      let y ← b
      let r ← onHp fun h => cop h o x y
      if r then do
        let z ← d
        let r ← onHp fun h => cop h u y z
        pure (.v (.bl r))
      else pure (.v (.bl false)))) :=
  (pe_chain (op_cop hu o) (op_cop hu u) pa pb pd hm).imp fun σ H Q h =>
    seq2 (Rr := fun x y H2 Q => rCop X.K o x y H2 fun z H3 => ∃ k, z = .bl k ∧ if k = true then tB X.K RX W d σ H3 fun w' H4 => rCop X.K u y w' H4 Q else Q (.bl false) H3) h fun g s v w x y H2 R b1 b2 q => by
    rw [sim_bind, sim_onHp] at q
    obtain ⟨r, e1, q⟩ := q
    refine ⟨g, s, σ, v, w, r, R, b1, b2, e1, r, rfl, ?_⟩
    cases r with
    | false => exact iteF (q g H2 _ (.refl g) R (.bl _))
    | true =>
      refine iteT ⟨g, s, R, ?_⟩
      have q : Sim ((do let z ← d; let r ← onHp fun h => cop h u w z; pure (.v (.bl r)) : M Rv) s) _ _ := q
      rw [sim_bind] at q
      refine q.mono (fun z s3 q3 g3 H3 zv e3 R3 b3 => ?_) fun _ _ z => z
      rw [sim_bind, sim_onHp] at q3
      obtain ⟨r, e4, q3⟩ := q3
      exact ⟨g3, s3, σ, w, z, r, R3, b2.ext e3, b3, e4, q3 g3 H3 _ e3 R3 (.bl _)⟩
theorem pt_chain_ (hu : X.A.units + 64 < cLine) {a b d : M Vl} {o u : Cop} (pa : PE X e (tB X.K RX W a)) (pb : PE X e' (tB X.K RX W b)) (pd : PE X e₃ (tB X.K RX W d)) (hm : lastMarks [toCop o, toCop u] [e', e₃] = false) :
    PT X (.Compare e [toCop o, toCop u] [e', e₃] pos) (tT X.K RX W (tstB (do
      let r ← (do {
        let x ← a
        let y ← b
        let r ← onHp fun h => cop h o x y
        if r then do
          let z ← d
          let r ← onHp fun h => cop h u y z
          pure (.v (.bl r))
        else pure (.v (.bl false)) } : M Rv)
      pure r.fz))) :=
  (pt_chain (op_cop hu o) (op_cop hu u) pa pb pd hm).imp fun σ H Q ⟨g, s, R, h⟩ => by
    unfold tstB at h
    rw [sim_bind, sim_bind] at h
    have h2 : tM X.K RX W (do
        let x ← a
        let y ← b
        let r ← onHp fun h => cop h o x y
        if r then do
          let z ← d
          let r ← onHp fun h => cop h u y z
          pure (.v (.bl r))
        else pure (.v (.bl false))) σ H (fun x H1 => ∃ k, x = .bl k ∧ Q k H1) := by
      refine ⟨g, s, R, ?_⟩
      rw [sim_bind] at h ⊢
      refine h.mono (fun x s1 q1 => ?_) fun _ _ z => z
      rw [sim_bind] at q1 ⊢
      refine q1.mono (fun y s2 q2 => ?_) fun _ _ z => z
      rw [sim_bind] at q2 ⊢
      refine q2.mono (fun r s3 q3 => ?_) fun _ _ z => z
      have fin : ∀ (r : Bool) (s3 : St), (Sim (onHp (fun h => truth h (.bl r)) s3) (fun b s' => ∀ g' H', Ext g g' → Rel X.K g' s' σ H' → Q b H') (Zx X.K RX W g σ)) →
          ∀ g' H' z, Ext g g' → Rel X.K g' s3 σ H' → RR X.K g' H' (.v (.bl r)) z → ∃ k, z = .bl k ∧ Q k H' := fun r s3 q g' H' z e1 R1 rr => by
        rw [sim_onHp] at q
        obtain ⟨b, e2, q⟩ := q
        cases e2
        cases (show RV X.K g'.F g'.ρ (.bl r) z from rr)
        exact ⟨r, rfl, q g' H' e1 R1⟩
      cases r with
      | false => exact fin false s3 q3
      | true =>
        have q3 : Sim ((do let z ← d; let r ← onHp fun h => cop h u y z; pure (.v (.bl r)) : M Rv) s3) _ _ := q3
        show Sim ((do let z ← d; let r ← onHp fun h => cop h u y z; pure (.v (.bl r)) : M Rv) s3) _ _
        rw [sim_bind] at q3 ⊢
        refine q3.mono (fun z s4 q4 => ?_) fun _ _ z => z
        rw [sim_bind] at q4 ⊢
        exact q4.mono (fun r s5 q5 => fin r s5 q5) fun _ _ z => z
    have h3 := seq2 (Rr := fun x y H2 Q => rCop X.K o x y H2 fun z H3 => ∃ k, z = .bl k ∧ if k = true then tB X.K RX W d σ H3 fun w' H4 => rCop X.K u y w' H4 Q else Q (.bl false) H3) h2 fun g s v w x y H2 R b1 b2 q => by
      rw [sim_bind, sim_onHp] at q
      obtain ⟨r, e1, q⟩ := q
      refine ⟨g, s, σ, v, w, r, R, b1, b2, e1, r, rfl, ?_⟩
      cases r with
      | false => exact iteF (q g H2 _ (.refl g) R (.bl _))
      | true =>
        refine iteT ⟨g, s, R, ?_⟩
        have q : Sim ((do let z ← d; let r ← onHp fun h => cop h u w z; pure (.v (.bl r)) : M Rv) s) _ _ := q
        rw [sim_bind] at q
        refine q.mono (fun z s3 q3 g3 H3 zv e3 R3 b3 => ?_) fun _ _ z => z
        rw [sim_bind, sim_onHp] at q3
        obtain ⟨r, e4, q3⟩ := q3
        exact ⟨g3, s3, σ, w, z, r, R3, b2.ext e3, b3, e4, q3 g3 H3 _ e3 R3 (.bl _)⟩
    exact h3
theorem pe_idx_ (hu : X.A.units + 1 < cLine) {a b : M Vl} (pa : PE X e (tB X.K RX W a)) (pb : PE X e' (tB X.K RX W b)) (hp : PlainIx e') :
    PE X (.Subscript e e' pos) (tM X.K RX W (do let x ← a; let y ← b; let v ← onHp fun h => idx h x y; pure (.v v))) :=
  (pe_ix (ix_any hu) pa pb hp).imp fun σ H Q h => seq2 h fun g s u w x y H2 R b1 b2 q => by
    rw [sim_bind, sim_onHp] at q
    obtain ⟨r, e1, q⟩ := q
    exact ⟨g, s, σ, u, w, r, R, b1, b2, e1, fun z hz => q g H2 _ (.refl g) R hz⟩
/-- a slice's end -/
def tO (K : Fg) (RX : RXT) (W : WX) (m : M (Option Int)) : TO := fun σ H Q => ∃ g s, Rel K g s σ H ∧ Sim (m s) (fun o s' => ∀ g' H', Ext g g' → Rel K g' s' σ H' → Q o H') (Zx K RX W g σ)
theorem _root_.L2.PO.imp {o : Option Expr} {t t' : TO} (p : PO X o t) (h : ∀ σ H Q, t' σ H Q → t σ H Q) : PO X o t' := ⟨fun pins s σ H Q I q => p.run pins s σ H Q I (h σ H Q q)⟩
theorem po_none_ : PO X none (tO X.K RX W (pure none)) := po_none.imp fun σ H Q ⟨g, s, R, h⟩ => h g H (.refl g) R
theorem po_some_ {a : M Vl} (pa : PE X e (tB X.K RX W a)) : PO X (some e) (tO X.K RX W (do
    let v ← a
    match v with
    | .int i => pure (some i)
    | _ => bad)) := (po_some pa).imp fun σ H Q ⟨g, s, R, h⟩ => by
  rw [sim_bind] at h
  refine ⟨g, s, R, h.mono (fun u s1 q g1 H1 x e1 R1 b1 => ?_) fun _ _ z => z⟩
  cases u with
  | int i =>
    have z := b1.flat_ rfl
    cases z
    exact ⟨i, rfl, q g1 H1 e1 R1⟩
  | _ => exact q.elim
theorem pe_slc_ {a : M Vl} {l u : M (Option Int)} {lo hi : Option Expr} {p2 : Pos} (pa : PE X e (tB X.K RX W a)) (pl : PO X lo (tO X.K RX W l)) (pu : PO X hi (tO X.K RX W u)) :
    PE X (.Subscript e (.Slice lo hi none p2) pos) (tM X.K RX W (do let x ← a; let i ← l; let j ← u; onHp fun h => slc h x i j)) :=
  (pe_slice sl_any pa pl pu).imp fun σ H Q ⟨g, s, R, h⟩ => by
    rw [sim_bind] at h
    refine ⟨g, s, R, h.mono (fun v s1 q g1 H1 x e1 R1 b1 => ?_) fun _ _ z => z⟩
    rw [sim_bind] at q
    refine ⟨g1, s1, R1, q.mono (fun i s2 q2 g2 H2 e2 R2 => ?_) fun _ _ z => z.ext e1.toExtS⟩
    rw [sim_bind] at q2
    refine ⟨g2, s2, R2, q2.mono (fun j s3 q3 g3 H3 e3 R3 => ?_) fun _ _ z => z.ext (e1.trans e2).toExtS⟩
    rw [sim_onHp] at q3
    obtain ⟨r, e4, q3⟩ := q3
    exact ⟨g3, s3, σ, v, R3, (b1.ext e2).ext e3, r, e4, fun g' H' z e5 => q3 g' H' z (((e1.trans e2).trans e3).trans e5)⟩
/-! ### arguments, displays, calls -/
def star1 : Expr → Bool
  | .Starred _ _ => true
  | _ => false
theorem star_of {es : List Expr} {env : Env} (h : star1 e = false) : starEach (e :: es) env = (false, eval e env) :: starEach es env := by
  cases e <;> first | rfl | (simp [star1] at h)
theorem paF_nil : PA X [] (tAF X.K RX W (pure [])) := pa_nil.imp fun σ H Q ⟨g, s, R, h⟩ => h g H [] (.refl g) R .nil
theorem paF_cons {m : M Rv} {ms : M (List Vl)} {es : List Expr} (pa : PE X e (tM X.K RX W m)) (ps : PA X es (tAF X.K RX W ms)) (hs : star1 e = false) :
    PA X (e :: es) (tAF X.K RX W (do let r ← m; let vs ← ms; pure (r.fz :: vs))) :=
  (pa_cons pa ps (star_of hs)).imp fun σ H Q ⟨g, s, R, h⟩ => by
    rw [sim_bind] at h
    refine ⟨g, s, R, h.mono (fun r s1 q g1 H1 x e1 R1 b1 => ?_) fun _ _ z => z⟩
    obtain ⟨g2, e2, R2, rv⟩ := RR.fz R1 b1
    rw [sim_bind] at q
    refine ⟨g2, s1, R2, q.mono (fun vs s2 q2 g3 H3 xs e3 R3 b3 => ?_) fun _ _ z => z.ext (e1.trans e2).toExtS⟩
    exact q2 g3 H3 _ ((e1.trans e2).trans e3) R3 (.cons (rv.ext e3.toExtS) b3)
theorem paB_nil : PA X [] (tAB X.K RX W (pure [])) := pa_nil.imp fun σ H Q ⟨g, s, R, h⟩ => h g H [] (.refl g) R .nil
theorem paB_cons {m : M Vl} {ms : M (List Vl)} {es : List Expr} (pa : PE X e (tB X.K RX W m)) (ps : PA X es (tAB X.K RX W ms)) (hs : star1 e = false) :
    PA X (e :: es) (tAB X.K RX W (do let r ← m; let vs ← ms; pure (r :: vs))) :=
  (pa_cons pa ps (star_of hs)).imp fun σ H Q ⟨g, s, R, h⟩ => by
    rw [sim_bind] at h
    refine ⟨g, s, R, h.mono (fun r s1 q g1 H1 x e1 R1 b1 => ?_) fun _ _ z => z⟩
    rw [sim_bind] at q
    refine ⟨g1, s1, R1, q.mono (fun vs s2 q2 g3 H3 xs e3 R3 b3 => ?_) fun _ _ z => z.ext e1.toExtS⟩
    exact q2 g3 H3 _ (e1.trans e3) R3 (.cons (b1.ext e3) b3)
theorem pe_tup_ {ms : M (List Vl)} {es : List Expr} {k : Nat} (ps : PA X es (tAF X.K RX W ms)) : PE X (.Tuple es k pos) (tM X.K RX W (do let vs ← ms; if vs.length ≤ top then pure (.v (.tup vs)) else bad)) :=
  (pe_tup ps).imp fun σ H Q ⟨g, s, R, h⟩ => by
    rw [sim_bind] at h
    refine ⟨g, s, R, h.mono (fun vs s1 q g1 H1 xs e1 R1 b1 => ?_) fun _ _ z => z⟩
    by_cases hl : vs.length ≤ top
    · rw [if_pos hl] at q
      refine ⟨by rw [← b1.length, ← top_line]; exact hl, fun p hp => ?_⟩
      obtain ⟨g2, e2, R2, rv⟩ := R1.newTup hp b1
      exact q g2 _ _ (e1.trans e2) R2 rv
    · rw [if_neg hl] at q; exact q.elim
theorem pe_lst_ {ms : M (List Vl)} {es : List Expr} (ps : PA X es (tAF X.K RX W ms)) : PE X (.List es pos) (tM X.K RX W (do let vs ← ms; if vs.length ≤ top then pure (.ol vs) else bad)) :=
  (pe_lst ps).imp fun σ H Q ⟨g, s, R, h⟩ => by
    rw [sim_bind] at h
    refine ⟨g, s, R, h.mono (fun vs s1 q g1 H1 xs e1 R1 b1 => ?_) fun _ _ z => z⟩
    by_cases hl : vs.length ≤ top
    · rw [if_pos hl] at q
      refine ⟨by rw [← b1.length, ← top_line]; exact hl, fun p hp => ?_⟩
      obtain ⟨R2, rr⟩ := R1.newLst hp b1
      exact q g1 _ _ e1 R2 rr
    · rw [if_neg hl] at q; exact q.elim
theorem backTo_star (p : Pos) {l : List (Bool × Sem Value)} (h : l.any (·.1) = false) : (backTo p l).any (·.1) = false := by
  first
    | simpa [backTo] using h
    | (cases l <;> simp_all [backTo])
end
end VM

/-! VMSim3: built-ins called, isinstance, cells, calls of the text's defs. -/
namespace VM
open PySem PySem.Spec PyProof.Rows L2
def biName : Bi → Str
  | .len => "len" | .abs => "abs" | .min => "min" | .max => "max" | .int => "int" | .str => "str" | .repr => "repr" | .list => "list" | .tuple => "tuple" | .all => "all" | .any => "any" | .sum => "sum" | .sorted => "sorted"
theorem biBoot (f : Bi) : bootBuiltins (biName f) = some (biVal f) := by
  cases f <;> decide +kernel
theorem biNm (f : Bi) : biName f ≠ "__name__" ∧ (biName f == ("__debug__" : Str)) = false := by
  cases f <;> decide +kernel
theorem tyBoot (t : Ty) : bootBuiltins (tyName t) = some (.type (tyName t)) := by
  cases t <;> decide +kernel
theorem tyNm (t : Ty) : (tyName t : Str) ≠ "__name__" ∧ ((tyName t : Str) == ("__debug__" : Str)) = false := by
  cases t <;> decide +kernel
def stars (es : List Expr) : Bool := es.any star1
theorem stars_of {env : Env} (pos : Pos) : ∀ {es : List Expr}, stars es = false → (backTo pos (starEach es env)).any (·.1) = false
  | [], _ => rfl
  | e :: es, h => by
    have h' : (star1 e || stars es) = false := h
    rw [Bool.or_eq_false_iff] at h'
    rw [star_of h'.1]
    show (false || (backTo pos (starEach es env)).any (·.1)) = false
    rw [stars_of pos h'.2]; rfl
section
variable {X : Cx} {RX : RXT} {W : WX} {e e' : Expr} {es : List Expr} {pos p : Pos}
theorem pe_bi_ (hu : X.A.units + 80 < cLine) (hg : X.A.guards = some []) (hc : X.calm = true) (f : Bi) {ms : M (List Vl)} (pa : PA X (e :: es) (tAB X.K RX W ms)) (hs : stars (e :: es) = false)
    (hgl : Gl X (biName f)) (hm : X.mg (biName f) = none) : PE X (.Call (.Name (biName f) p) (e :: es) [] pos) (tM X.K RX W (do let vs ← ms; onHp fun h => bi h f vs)) := by
  have h' : (star1 e || stars es) = false := hs
  rw [Bool.or_eq_false_iff] at h'
  have imp : ∀ σ H Q, tM X.K RX W (do let vs ← ms; onHp fun h => bi h f vs) σ H Q → tCB (rBi X.K f) (tAB X.K RX W ms) σ H Q := fun σ H Q ⟨g, s, R, h⟩ => by
    rw [sim_bind] at h
    refine ⟨g, s, R, h.mono (fun us s1 q g1 H1 xs e1 R1 b1 => ?_) fun _ _ z => z⟩
    rw [sim_onHp] at q
    obtain ⟨r, e2, q⟩ := q
    exact ⟨g1, s1, σ, us, R1, b1, r, e2, fun g' H' z e3 => q g' H' z (e1.trans e3)⟩
  have hv := biBoot f
  have key := op_bi hu hg hc f
  have hn := biNm f
  cases f <;> first
    | exact (pe_callB key hgl hm hv pa hn.1 hn.2 (star_of h'.1) (stars_of pos h'.2)).imp imp
    | exact (pe_callTy key hgl hm hv pa hn.1 hn.2 (star_of h'.1) (stars_of pos h'.2)).imp imp
/-! ### isinstance -/
theorem ty_some {K : Fg} {g : Gh} {h : Heap} {H : Hp} {u : Vl} {x : V} (r : HRel K g h H) (b : RB K g u x) (ne : isEx u = false) : ∃ t, vTy h u = some t := by
  cases u with
  | exn _ _ => cases ne
  | ref a =>
    rcases b with b | ⟨_, _, _, z, _⟩ | ⟨_, _, _, z, _⟩
    · cases b with
      | ref h1 =>
        have hl := r.dom a _ h1
        have e : h[a]? = some h[a] := by simp [hl]
        cases c : h[a] with
        | lst vs => exact ⟨"list", by simp [vTy, e, c]⟩
        | dct vs => exact ⟨"dict", by simp [vTy, e, c]⟩
    · cases z
    · cases z
  | _ => exact ⟨_, rfl⟩
def tyNames : List Ty → List Expr → Bool
  | [], [] => true
  | t :: ts, .Name x _ :: es => decide (x = (tyName t : Str)) && tyNames ts es
  | _, _ => false
theorem kitAny_tys (K : Fg) (h : Heap) (u : Vl) (t : String) (e : vTy h u = some t) : ∀ ts : List Ty, PySem.W.kitAny K (.type t) (ts.map fun ty => Value.type (tyName ty)) = some (ts.any fun ty => isTy h u ty)
  | [] => kitAny_nil
  | ty :: ts => by
    rw [List.map_cons, List.any_cons]
    have h1 := isTy_kit K h u t e ty
    have h2 := kitAny_tys K h u t e ts
    cases q : isTy h u ty with
    | true => rw [q] at h1; exact kitAny_cons h1 (fun z => by cases z) fun _ => rfl
    | false => rw [q] at h1; exact kitAny_cons h1 (fun _ => h2) fun z => by cases z
theorem pa_tys : ∀ (ts : List Ty) (es : List Expr), tyNames ts es = true → (∀ t ∈ ts, Gl X (tyName t) ∧ X.mg (tyName t) = none) → PA X es (fun _ H Q => Q (ts.map fun t => V.ty (tyName t)) H) ∧ stars es = false
  | [], [], _, _ => ⟨pa_nil, rfl⟩
  | t :: ts, .Name x q :: es, h, hg => by
    have h' : (decide (x = (tyName t : Str)) && tyNames ts es) = true := h
    rw [Bool.and_eq_true, decide_eq_true_eq] at h'
    obtain ⟨rfl, h2⟩ := h'
    obtain ⟨i1, i2⟩ := pa_tys ts es h2 fun t ht => hg t (List.mem_cons_of_mem _ ht)
    obtain ⟨g1, g2⟩ := hg t List.mem_cons_self
    exact ⟨(pa_cons (pe_bltn (v := .ty (tyName t)) g1 g2 (tyBoot t) rfl (tyNm t).1 (tyNm t).2) i1 rfl).imp fun σ H Q q => q, by
      show (false || stars es) = false
      rw [i2]; rfl⟩
  | [], _ :: _, h, _ => by cases h
  | _ :: _, [], h, _ => by cases h
  | _ :: _, .BoolOp .. :: _, h, _ => by cases h
  | _ :: _, .NamedExpr .. :: _, h, _ => by cases h
  | _ :: _, .BinOp .. :: _, h, _ => by cases h
  | _ :: _, .UnaryOp .. :: _, h, _ => by cases h
  | _ :: _, .Lambda .. :: _, h, _ => by cases h
  | _ :: _, .IfExp .. :: _, h, _ => by cases h
  | _ :: _, .Dict .. :: _, h, _ => by cases h
  | _ :: _, .Set .. :: _, h, _ => by cases h
  | _ :: _, .ListComp .. :: _, h, _ => by cases h
  | _ :: _, .SetComp .. :: _, h, _ => by cases h
  | _ :: _, .DictComp .. :: _, h, _ => by cases h
  | _ :: _, .GeneratorExp .. :: _, h, _ => by cases h
  | _ :: _, .Await .. :: _, h, _ => by cases h
  | _ :: _, .Yield .. :: _, h, _ => by cases h
  | _ :: _, .YieldFrom .. :: _, h, _ => by cases h
  | _ :: _, .Compare .. :: _, h, _ => by cases h
  | _ :: _, .Call .. :: _, h, _ => by cases h
  | _ :: _, .FormattedValue .. :: _, h, _ => by cases h
  | _ :: _, .JoinedStr .. :: _, h, _ => by cases h
  | _ :: _, .Constant .. :: _, h, _ => by cases h
  | _ :: _, .Attribute .. :: _, h, _ => by cases h
  | _ :: _, .Subscript .. :: _, h, _ => by cases h
  | _ :: _, .Starred .. :: _, h, _ => by cases h
  | _ :: _, .List .. :: _, h, _ => by cases h
  | _ :: _, .Tuple .. :: _, h, _ => by cases h
  | _ :: _, .Slice .. :: _, h, _ => by cases h
theorem isi_boot : bootBuiltins ("isinstance" : Str) = some (.builtin "isinstance") := by decide +kernel
theorem clsv_tys : ∀ ts : List Ty, Paired ClsV (ts.map fun t => V.ty (tyName t)) (ts.map fun t => Value.type (tyName t))
  | [] => .nil
  | t :: ts => .cons (.ty _) (clsv_tys ts)
theorem pe_isa1 {a : M Vl} {t : Ty} {q : Pos} (pa : PE X e (tB X.K RX W a)) (hs : star1 e = false) (hgl : Gl X ("isinstance" : Str)) (hm : X.mg ("isinstance" : Str) = none) (g1 : Gl X (tyName t)) (g2 : X.mg (tyName t) = none) :
    PE X (.Call (.Name ("isinstance" : Str) p) [e, .Name (tyName t : Str) q] [] pos) (tM X.K RX W (do let x ← a; if isEx x then bad else do let h ← hp; pure (.v (.bl ([t].any fun t => isTy h x t))))) :=
  (pe_callB call_isi hgl hm isi_boot (pa_cons pa (pa_cons (pe_bltn (v := .ty (tyName t)) g1 g2 (tyBoot t) rfl (tyNm t).1 (tyNm t).2) pa_nil rfl) (star_of hs)) (by decide +kernel) (by decide +kernel) (star_of hs)).imp fun σ H Q ⟨g, s, R, h⟩ => by
    rw [sim_bind] at h
    refine ⟨g, s, R, h.mono (fun u s1 w g1 H1 x e1 R1 b1 => ?_) fun _ _ z => z⟩
    cases ne : isEx u with
    | true => rw [ne] at w; exact w.elim
    | false =>
    rw [ne] at w
    have w : Sim ((do let h ← hp; pure (Rv.v (.bl ([t].any fun t => isTy h u t))) : M Rv) s1) _ _ := w
    rw [sim_bind, sim_hp] at w
    obtain ⟨ty, hty⟩ := ty_some R1.hr b1 ne
    have kit := isTy_kit X.K s1.hp u ty hty t
    refine ⟨x, .ty (tyName t), .type ty, .type (tyName t), _, rfl, .ty _, R1.hr.ty_ b1 ty hty, kit, ?_⟩
    have w := w g1 H1 (.bl ([t].any fun t => isTy s1.hp u t)) e1 R1 (.bl _)
    rw [List.any_cons, List.any_nil, Bool.or_false] at w
    exact w
theorem pe_isaT {a : M Vl} {ts : List Ty} {cs : List Expr} {k : Nat} {q : Pos} (pa : PE X e (tB X.K RX W a)) (hs : star1 e = false) (hgl : Gl X ("isinstance" : Str)) (hm : X.mg ("isinstance" : Str) = none) (ht : tyNames ts cs = true) (hl : ts.length ≤ 9)
    (hg : ∀ t ∈ ts, Gl X (tyName t) ∧ X.mg (tyName t) = none) : PE X (.Call (.Name ("isinstance" : Str) p) [e, .Tuple cs k q] [] pos) (tM X.K RX W (do let x ← a; if isEx x then bad else do let h ← hp; pure (.v (.bl (ts.any fun t => isTy h x t))))) :=
  (pe_callB call_isiT hgl hm isi_boot (pa_cons pa (pa_cons (pe_tup (pa_tys ts cs ht hg).1) pa_nil rfl) (star_of hs)) (by decide +kernel) (by decide +kernel) (star_of hs)).imp fun σ H Q ⟨g, s, R, h⟩ => by
    rw [sim_bind] at h
    refine ⟨g, s, R, h.mono (fun u s1 w g1 H1 x e1 R1 b1 => ?_) fun _ _ z => z⟩
    cases ne : isEx u with
    | true => rw [ne] at w; exact w.elim
    | false =>
    rw [ne] at w
    have w : Sim ((do let h ← hp; pure (Rv.v (.bl (ts.any fun t => isTy h u t))) : M Rv) s1) _ _ := w
    rw [sim_bind, sim_hp] at w
    refine ⟨by rw [List.length_map, sizeLine_eq]; omega, fun tp htp => ?_⟩
    have R2 := R1.heap (same_upd (o := .tup (ts.map fun t => V.ty (tyName t))) htp)
    obtain ⟨ty, hty⟩ := ty_some R2.hr b1 ne
    exact ⟨x, tp, _, .type ty, _, _, rfl, upd_same, clsv_tys ts, R2.hr.ty_ b1 ty hty, kitAny_tys X.K s1.hp u ty hty ts, w g1 _ _ e1 R2 (.bl _)⟩
/-! ### a cell -/
theorem Rel.newCell {K : Fg} {g : Gh} {s : St} {σ : L2.St} {H : Hp} {p : Addr} {o : HO} {c : Cell} (R : Rel K g s σ H) (hp : H p = some o) (hP : g.P p = none) (hρ : ∀ a, g.ρ a ≠ some p) (rc : RC K g c (some o)) :
    ∃ g', Ext g g' ∧ Rel K g' { s with hp := s.hp ++ [c] } σ H ∧ RV K g'.F g'.ρ (.ref s.hp.length) (.ref p) := by
  have fresh : ∀ a q, g.ρ a = some q → a ≠ s.hp.length := fun a q h z => by have := R.hr.dom a q h; omega
  let g' : Gh := { g with ρ := fun a => if a = s.hp.length then some p else g.ρ a }
  have old : ∀ a q, g.ρ a = some q → g'.ρ a = some q := fun a q h => by
    show (if a = s.hp.length then some p else g.ρ a) = some q
    rw [if_neg (fresh a q h)]; exact h
  have cases_ : ∀ a q, g'.ρ a = some q → (a = s.hp.length ∧ q = p) ∨ (a ≠ s.hp.length ∧ g.ρ a = some q) := fun a q h => by
    have h : (if a = s.hp.length then some p else g.ρ a) = some q := h
    by_cases z : a = s.hp.length
    · rw [if_pos z] at h; exact .inl ⟨z, (Option.some.inj h).symm⟩
    · rw [if_neg z] at h; exact .inr ⟨z, h⟩
  have x : Ext g g' := ⟨⟨Same.refl _, rfl, old, fun _ h _ => h⟩, Same.refl _⟩
  refine ⟨g', x, ⟨⟨R.hr.fp, R.hr.bp, R.hr.ph, fun a q h => ?_, fun a b q h1 h2 => ?_, fun a c' h => ?_, fun a q h => ?_⟩, R.len, fun i r y h1 h2 => ?_, R.apart, R.own⟩, .ref (show g'.ρ s.hp.length = some p from if_pos rfl)⟩
  · rcases cases_ a q h with ⟨_, rfl⟩ | ⟨_, h⟩
    · exact hP
    · exact R.hr.cin a q h
  · rcases cases_ a q h1 with ⟨z1, z2⟩ | ⟨z1, z2⟩
    · rcases cases_ b q h2 with ⟨y1, y2⟩ | ⟨y1, y2⟩
      · rw [z1, y1]
      · exact absurd (z2 ▸ y2) (hρ b)
    · rcases cases_ b q h2 with ⟨y1, y2⟩ | ⟨y1, y2⟩
      · exact absurd (y2 ▸ z2) (hρ a)
      · exact R.hr.inj a b q z2 y2
  · by_cases z : a < s.hp.length
    · rw [List.getElem?_append_left z] at h
      obtain ⟨q, e1, e2⟩ := R.hr.cel a c' h
      exact ⟨q, old a q e1, e2.ext x.toExtS⟩
    · rw [List.getElem?_append_right (by omega)] at h
      have ha : a = s.hp.length := by
        have := (List.getElem?_eq_some_iff.mp h).1
        simp at this
        omega
      subst ha
      simp at h
      subst h
      refine ⟨p, if_pos rfl, ?_⟩
      rw [hp]
      exact rc.ext x.toExtS
  · show a < (s.hp ++ [c]).length
    rw [List.length_append, List.length_singleton]
    rcases cases_ a q h with ⟨z, _⟩ | ⟨_, h⟩
    · omega
    · have := R.hr.dom a q h; omega
  · have q := R.slot i r y h1 h2
    cases r with
    | none => exact q
    | some r =>
      cases r with
      | v u => obtain ⟨q1, w, q2, q3⟩ := q; exact ⟨q1, w, q2, q3.ext x.toExtS⟩
      | ol vs => obtain ⟨w, xs, q1, q2, q3, q4⟩ := q; exact ⟨w, xs, q1, q2, q3, q4.ext x.toExtS⟩
      | od vs => obtain ⟨w, xs, q1, q2, q3, q4⟩ := q; exact ⟨w, xs, q1, q2, q3, q4.ext x.toExtS⟩
theorem pe_alloc_ {m : M Rv} (pa : PE X e (tM X.K RX W m)) : PE X e (tM X.K RX W (do
    let r ← m
    match r with
    | .ol vs => do let x ← newCell (.lst vs); pure (.v x)
    | .od kvs => do let x ← newCell (.dct kvs); pure (.v x)
    | .v _ => bad)) := pa.imp fun σ H Q ⟨g, s, R, h⟩ => by
  rw [sim_bind] at h
  refine ⟨g, s, R, h.mono (fun r s1 q g1 H1 x e1 R1 rr => ?_) fun _ _ z => z⟩
  cases r with
  | v u => exact q.elim
  | ol vs =>
    obtain ⟨p, xs, rfl, h1, h2, h3, h4⟩ := rr
    obtain ⟨g2, e2, R2, rv⟩ := R1.newCell (c := .lst vs) h1 h3 h4 ⟨xs, rfl, h2⟩
    exact q g2 H1 _ (e1.trans e2) R2 rv
  | od vs =>
    obtain ⟨p, xs, rfl, h1, h2, h3, h4⟩ := rr
    obtain ⟨g2, e2, R2, rv⟩ := R1.newCell (c := .dct vs) h1 h3 h4 ⟨xs, rfl, h2⟩
    exact q g2 H1 _ (e1.trans e2) R2 rv
end
/-! ### calls of the text's defs -/
/-- what a call of a def gives: the ghost of the caller's, its own names apart -/
structure CExt (g g' : Gh) : Prop where
  F : Same g.F g'.F
  B : Same g.P g'.P
  ρ : ∀ a p, g.ρ a = some p → g'.ρ a = some p
  fb : ∀ p, g.F p = none → g.P p ≠ none → g'.F p = none
def SimF (r : RF) (Q : Rv → Heap → Prop) (Z : Ex → Heap → Prop) : Prop := match r with
  | .ret r h => Q r h
  | .exc x h => Z x h
  | .bad => False
/-- the promise of the machine's function f -/
def spF (K : Fg) (RX : RXT) (f : List Vl → Heap → RF) (np : Nat) : Sp := fun vs H Q E => ∃ g h as, as.length = np ∧ HRel K g h H ∧ RVs K g.F g.ρ as vs ∧
  SimF (f as h) (fun r h' => ∀ g' H' x, CExt g g' → HRel K g' h' H' → RR K g' H' r x → Q x H') (fun x h' => ∀ g' H' cls d, CExt g g' → HRel K g' h' H' → RX g' x cls d H' → E cls d H')
/-- a def keeps its promise where no repr runs -/
structure FnG (P : Program) (w : World) (K : PySem.W.Frag) (mg : Str → Option Value) (base : PySem.Heap) (CX : CXT) (k : Nat) (f : Addr) (fd : FuncData) (ps : List Str) (sp : Sp) : Prop where
  len : ∀ vs H Q E, sp vs H Q E → vs.length = ps.length
  run : ∀ (A : Around) (outer : List Env) (s : Shared) (H : Hp) (args : Args) (us : List Value) (vs : List V) (Q : VK) (E : XK), Room k A → A.guards = some [] → Env0 P w K mg base A outer s H → BindsTo s fd args (ps.zip us) →
    Vals vs us → sp vs H Q E → codeAny (model P w) A (.call (.ref f) args) (CR CX outer P w H s Q E) s
/-- how a def of the text stands where a body runs, called with n arguments -/
structure Here (X : Cx) (RX : RXT) (call : List Vl → Heap → RF) (x : Str) (n : Nat) : Prop where
  ex : ∃ (k : Nat) (f : Addr) (fd : FuncData) (ps : List Str) (np : Nat) (dvs : List V) (ds : List Value) (dl : List Vl),
    FnG X.prog X.w X.K X.mg X.base (L2.CX X.prog X.w) k f fd ps (spF X.K RX call np) ∧ Room k X.A ∧ X.mg x = some (.ref f) ∧ PySem.W.keepIn X.K (.ref f) = true ∧ Binds X.K fd ps ds ∧ Vals dvs ds ∧ (∀ F ρ, RVs X.K F ρ dl dvs) ∧
    n + dl.length = np ∧ ∀ as h, as.length = n → call as h = call (as ++ dl) h
section
variable {X : Cx} {RX : RXT} {W : WX} {e : Expr} {es : List Expr} {pos p : Pos} {x : Str}
theorem run_G {k : Nat} {f : Addr} {fd : FuncData} {ps : List Str} {sp : Sp} {dvs : List V} {ds us : List Value} {vs : List V} {E : XK} {pins : List (Addr × Obj)} {σ : L2.St} {H : Hp} {s : Shared} {Q : VK}
    (F : FnG X.prog X.w X.K X.mg X.base (L2.CX X.prog X.w) k f fd ps sp) (hr : Room k X.A) (hg : X.A.guards = some []) (hb : Binds X.K fd ps ds) (hd : Vals dvs ds) (I : Inv X pins σ H s) (hx : ∀ e s', L2.CX X.prog X.w X.stack H s E e s' → X.xe e s') (r : Vals vs us)
    (h : sp (vs ++ dvs) H Q E) : wpAny (model X.prog X.w) X.A (PySem.call (.ref f) us) (EP X pins σ Q) X.xe s := by
  have r2 : Vals (vs ++ dvs) (us ++ ds) := r.append hd
  have hl : (us ++ ds).length = ps.length := r2.length.symm.trans (F.len _ _ _ _ h)
  refine wpAny_call (codeAny_mono (F.run X.A X.stack s H ⟨us, []⟩ (us ++ ds) (vs ++ dvs) Q E hr hg I.env0 (hb s us I.kIn hl) r2 h) fun r s' q => ?_)
  match r, q with
  | .error e, q => exact hx e s' q
  | .ok (.ret u), q => exact I.after q
  | .ok .next, q => exact q.elim
  | .ok .brk, q => exact q.elim
  | .ok .cont, q => exact q.elim
/-- the caller's ghost behind a call -/
theorem Rel.back {K : Fg} {g g' : Gh} {s : St} {σ : L2.St} {H H' : Hp} {h' : Heap} (R : Rel K g s σ H) (c : CExt { g with B := g.P, ow := fun _ => none } g') (R' : HRel K g' h' H') :
    Ext g { g' with B := g.B, ow := g.ow } ∧ Rel K { g' with B := g.B, ow := g.ow } { s with hp := h' } σ H' := by
  have x : Ext g { g' with B := g.B, ow := g.ow } := ⟨⟨c.F, rfl, c.ρ, fun p h1 h2 => c.fb p h1 fun z => h2 (by
    cases q : g.B p with
    | none => rfl
    | some u => have z : g.P p = none := z; rw [R.hr.bp _ _ q] at z; cases z)⟩, c.B⟩
  refine ⟨x, ⟨R'.fp, R.hr.bp.trans c.B, R'.ph, R'.cin, R'.inj, fun a c' h => ?_, R'.dom⟩, R.len, fun i r y h1 h2 => ?_, R.apart, fun i p h => ?_⟩
  · obtain ⟨q, e1, e2⟩ := R'.cel a c' h
    refine ⟨q, e1, ?_⟩
    cases c' with
    | lst vs => exact e2
    | dct vs => exact e2
  · have q := R.slot i r y h1 h2
    cases r with
    | none => exact q
    | some r =>
      cases r with
      | v u => obtain ⟨q1, w, q2, q3⟩ := q; exact ⟨q1, w, q2, q3.ext x.toExtS⟩
      | ol vs => obtain ⟨w, xs, q1, q2, q3, q4⟩ := q; exact ⟨w, xs, q1, q2, c.B _ _ q3, q4.ext x.toExtS⟩
      | od vs => obtain ⟨w, xs, q1, q2, q3, q4⟩ := q; exact ⟨w, xs, q1, q2, c.B _ _ q3, q4.ext x.toExtS⟩
  · obtain ⟨h0, h1, h2, h3⟩ := R.own i p h
    obtain ⟨u, hu⟩ := Option.isSome_iff_exists.mp h3
    refine ⟨h0, c.fb p h1 (by show g.P p ≠ none; rw [hu]; simp), h2, ?_⟩
    show (g'.P p).isSome = true
    rw [c.B _ _ hu]; rfl
/-- what a call of the machine's function wants, from a state -/
theorem spF_of {call : List Vl → Heap → RF} {np : Nat} {as dl : List Vl} {dvs xs : List V} {g g1 : Gh} {t1 : St} {σ : L2.St} {H1 : Hp} {Q : VK} (hRX : ∀ g g' x c d H, g'.F = g.F → g'.P = g.P → g'.ρ = g.ρ → RX g x c d H → RX g' x c d H)
    (hdl : ∀ F ρ, RVs X.K F ρ dl dvs) (hnp : as.length + dl.length = np) (hcall : call as t1.hp = call (as ++ dl) t1.hp) (e1 : Ext g g1) (R1 : Rel X.K g1 t1 σ H1) (b1 : RVs X.K g1.F g1.ρ as xs)
    (h : Sim (runF (call as t1.hp) t1) (fun r s' => ∀ g' H' x, Ext g g' → Rel X.K g' s' σ H' → RR X.K g' H' r x → Q x H') (Zx X.K RX W g σ)) :
    spF X.K RX call np (xs ++ dvs) H1 Q (fun cls d H' => W cls d σ H') := by
  refine ⟨{ g1 with B := g1.P, ow := fun _ => none }, t1.hp, as ++ dl, by rw [List.length_append]; exact hnp, ⟨R1.hr.fp, Same.refl _, R1.hr.ph, R1.hr.cin, R1.hr.inj, fun a c hc => ?_, R1.hr.dom⟩, b1.append (hdl _ _), ?_⟩
  · obtain ⟨q, e1, e2⟩ := R1.hr.cel a c hc
    refine ⟨q, e1, ?_⟩
    cases c with
    | lst vs => exact e2
    | dct vs => exact e2
  · rw [← hcall]
    cases ec : call as t1.hp with
    | bad => rw [ec] at h; exact h.elim
    | exc x h' =>
      rw [ec] at h
      intro g' H' cls d c R' q
      obtain ⟨b2, b3⟩ := R1.back c R'
      exact h _ H' cls d (e1.trans b2).toExtS b3 (hRX g' _ _ _ _ _ rfl rfl rfl q)
    | ret r h' =>
      rw [ec] at h
      intro g' H' x c R' q
      obtain ⟨b2, b3⟩ := R1.back c R'
      refine h _ H' x (e1.trans b2) b3 ?_
      cases r with
      | v u => exact q
      | ol vs => exact q
      | od vs => exact q
theorem pe_call_ {call : List Vl → Heap → RF} {ms : M (List Vl)} {n : Nat} (hq : Here X RX call x n) (hg : X.A.guards = some []) (tk : Takes X W) (hRX : ∀ g g' x c d H, g'.F = g.F → g'.P = g.P → g'.ρ = g.ρ → RX g x c d H → RX g' x c d H)
    (pa : PA X (e :: es) (tAF X.K RX W ms)) (hn : ∀ s us s', ms s = .ok us s' → us.length = n) (hs : stars (e :: es) = false)
    (hgl : Gl X x) (hdb : (x == ("__debug__" : Str)) = false) : PE X (.Call (.Name x p) (e :: es) [] pos) (tM X.K RX W (do let vs ← ms; let h ← hp; runF (call vs h))) := by
  have h' : (star1 e || stars es) = false := hs
  rw [Bool.or_eq_false_iff] at h'
  obtain ⟨k, f, fd, ps, np, dvs, ds, dl, F, hr, hm, hk, hb, hd, hdl, hnp, hcall⟩ := hq.ex
  refine ⟨fun pins s σ H Q I ⟨g, t, R, h⟩ => ?_⟩
  refine wpAny_Call_Name_kw (ld_glob I hgl hm ?_ hdb)
  rw [sim_bind] at h
  refine PySem.W.callWith_K (h₀ := X.base) I.ok.mod.kin hk (thn (pa.run pos pins s σ H (fun xs H1 => ∃ g1 as t1, ms t = .ok as t1 ∧ Ext g g1 ∧ Rel X.K g1 t1 σ H1 ∧ RVs X.K g1.F g1.ρ as xs ∧
      Sim (runF (call as t1.hp) t1) (fun r s' => ∀ g' H' x, Ext g g' → Rel X.K g' s' σ H' → RR X.K g' H' r x → Q x H') (Zx X.K RX W g σ)) I ⟨g, t, R, ?_⟩)
      fun us s1 ⟨vs, H1, I1, r, g1, as, t1, em, e1, R1, b1, h1⟩ => ⟨I1.kIn, ?_⟩) (star_of h'.1) (stars_of pos h'.2)
  · cases em : ms t with
    | bad => rw [em] at h; exact h
    | exc y t1 => rw [em] at h; exact h
    | ok as t1 =>
      rw [em] at h
      have h : Sim ((do let h ← hp; runF (call as h) : M Rv) t1) _ _ := h
      rw [sim_bind, sim_hp] at h
      exact fun g' H' xs e1 R1 b1 => ⟨g', as, t1, rfl, e1, R1, b1, h⟩
  · have hlen := hn t as t1 em
    exact run_G (E := fun cls d H' => W cls d σ H') F hr hg hb hd I1 (fun e s' c => tk _ _ (XE.of_call I1 (fun _ _ _ h => h) c)) r
      (spF_of hRX hdl (by rw [hlen]; exact hnp) (hcall as _ hlen) e1 R1 b1 h1)
theorem pe_call0_ {call : List Vl → Heap → RF} (hq : Here X RX call x 0) (hg : X.A.guards = some []) (tk : Takes X W) (hRX : ∀ g g' x c d H, g'.F = g.F → g'.P = g.P → g'.ρ = g.ρ → RX g x c d H → RX g' x c d H)
    (hgl : Gl X x) (hdb : (x == ("__debug__" : Str)) = false) : PE X (.Call (.Name x p) [] [] pos) (tM X.K RX W (do let vs ← (pure [] : M (List Vl)); let h ← hp; runF (call vs h))) := by
  obtain ⟨k, f, fd, ps, np, dvs, ds, dl, F, hr, hm, hk, hb, hd, hdl, hnp, hcall⟩ := hq.ex
  refine ⟨fun pins s σ H Q I ⟨g, t, R, h⟩ => ?_⟩
  refine wpAny_Call_Name_kw (ld_glob I hgl hm ?_ hdb)
  refine PySem.W.callWith_K0 I.kIn hk ?_
  rw [sim_bind] at h
  have h : Sim ((do let h ← hp; runF (call [] h) : M Rv) t) _ _ := h
  rw [sim_bind, sim_hp] at h
  exact run_G (us := []) (vs := []) (E := fun cls d H' => W cls d σ H') F hr hg hb hd I (fun e s' c => tk _ _ (XE.of_call I (fun _ _ _ h => h) c)) .nil
      (spF_of (as := []) (xs := []) hRX hdl hnp (hcall [] _ rfl) (.refl g) R .nil h)
end
end VM

/-! VMLoop: what is walked. -/
namespace VM
open PySem PySem.Spec PyProof.Rows L2 RZ
/-- what a walked thing needs: fr: it is frozen -/
structure EX (fr : Bool) (g g' : Gh) : Prop where
  F : Same g.F g'.F
  ρ : ∀ a p, g.ρ a = some p → g'.ρ a = some p
  P : fr = false → Same g.P g'.P
theorem EX.of {fr : Bool} {g g' : Gh} (h : Ext g g') : EX fr g g' := ⟨h.F, h.ρ, fun _ => h.P⟩
theorem EX.ofS {g g' : Gh} (h : ExtS g g') : EX true g g' := ⟨h.F, h.ρ, fun z => by cases z⟩
theorem EX.trans {fr : Bool} {a b c : Gh} (h : EX fr a b) (k : EX fr b c) : EX fr a c := ⟨h.F.trans k.F, fun a p q => k.ρ a p (h.ρ a p q), fun z => (h.P z).trans (k.P z)⟩
def RQ (K : Fg) (g : Gh) : Bool → Vl → V → Prop
  | true, u, x => RV K g.F g.ρ u x
  | false, u, x => RB K g u x
/-- what J walks: src, whatever the heap grows to -/
def Fed (K : Fg) (E : Gh → Gh → Prop) (g : Gh) (J : L2.It) (src : List Vl) : Prop :=
  ∀ g' s σ H, E g g' → Rel K g' s σ H → ∀ i, (src.length ≤ i → J.stop i H) ∧ ∀ v, src[i]? = some v → J.go i H ∧ ∀ x H', J.yld i H x H' → ∃ g2, Ext g' g2 ∧ Rel K g2 s σ H' ∧ RV K g2.F g2.ρ v x
theorem Fed.ext {K : Fg} {fr : Bool} {g g' : Gh} {J : L2.It} {src : List Vl} (h : Fed K (EX fr) g J src) (e : EX fr g g') : Fed K (EX fr) g' J src := fun g2 s σ H e2 R => h g2 s σ H (e.trans e2) R
def tI (K : Fg) (RX : RXT) (W : WX) (fr : Bool) (m : M (List Vl)) : TI := fun σ H R => ∃ g s, Rel K g s σ H ∧ Sim (m s) (fun src s' => ∀ g' H' J, Ext g g' → Rel K g' s' σ H' → Fed K (EX fr) g' J src → R J H') (Zx K RX W g σ)
def tG (K : Fg) (RX : RXT) (W : WX) (fr : Bool) (m : M Vl) : TE := fun σ H Q => ∃ g s, Rel K g s σ H ∧ Sim (m s) (fun u s' => ∀ g' H' x, Ext g g' → Rel K g' s' σ H' → RQ K g' fr u x → Q x H') (Zx K RX W g σ)
/-- what stands behind a list, a tuple that is walked -/
theorem seq_src {K : Fg} {fr : Bool} {g : Gh} {s : St} {σ : L2.St} {H : Hp} {u : Vl} {x : V} {vs : List Vl} (r : RQ K g fr u x) (e : seqOf u = some vs) :
    ∃ a xs, x = .ref a ∧ ((u = .lst vs ∧ ∀ g' s σ H, EX fr g g' → Rel K g' s σ H → SqL K H a xs ∧ RVs K g'.F g'.ρ vs xs) ∨ (u = .tup vs ∧ ∀ g' s σ H, EX fr g g' → Rel K g' s σ H → SqT K H a xs ∧ RVs K g'.F g'.ρ vs xs)) := by
  have main : ∀ {g1 : Gh}, RV K g1.F g1.ρ u x → (∀ g', EX fr g g' → Same g1.F g'.F ∧ ∀ a p, g1.ρ a = some p → g'.ρ a = some p) →
      ∃ a xs, x = .ref a ∧ ((u = .lst vs ∧ ∀ g' s σ H, EX fr g g' → Rel K g' s σ H → SqL K H a xs ∧ RVs K g'.F g'.ρ vs xs) ∨ (u = .tup vs ∧ ∀ g' s σ H, EX fr g g' → Rel K g' s σ H → SqT K H a xs ∧ RVs K g'.F g'.ρ vs xs)) := fun {g1} r hE => by
    cases r with
    | tup h1 h2 =>
      cases e
      exact ⟨_, _, rfl, .inr ⟨rfl, fun g' s σ H q R => ⟨seqT_mono ((hE g' q).1.trans (R.hr.fp.trans R.hr.ph)) h1, h2.mono (hE g' q).1 (hE g' q).2⟩⟩⟩
    | lst h1 h2 =>
      cases e
      exact ⟨_, _, rfl, .inl ⟨rfl, fun g' s σ H q R => ⟨seqL_mono ((hE g' q).1.trans (R.hr.fp.trans R.hr.ph)) h1, h2.mono (hE g' q).1 (hE g' q).2⟩⟩⟩
    | _ => cases e
  have sub : ∀ g', EX fr g g' → Same g.F g'.F ∧ ∀ a p, g.ρ a = some p → g'.ρ a = some p := fun g' q => ⟨q.F, q.ρ⟩
  cases fr with
  | true => exact main (g1 := g) r sub
  | false =>
    rcases r with r | ⟨us, xs, p, rfl, rfl, h3, h4⟩ | ⟨us, xs, p, rfl, rfl, h3, h4⟩
    · exact main (g1 := g) r sub
    · cases e
      exact ⟨p, xs, rfl, .inl ⟨rfl, fun g' s σ H q R => ⟨.inl (.inl (R.hr.ph _ _ (q.P rfl _ _ h3))), h4.mono q.F q.ρ⟩⟩⟩
    · cases e
theorem sqL_inj {K : Fg} {X : Cx} {pins : List (Addr × Obj)} {σ : L2.St} {H : Hp} {s : Shared} {a : Addr} {xs ys : List V} (hX : X.K = K) (I : Inv X pins σ H s) (h : SqL K H a xs) (h2 : SqL K H a ys) : xs = ys := by
  subst hX; exact (I.list_inj h h2)
theorem fed_list {K : Fg} {fr : Bool} {g : Gh} {a : Addr} {xs : List V} {vs : List Vl} (h : ∀ g' s σ H, EX fr g g' → Rel K g' s σ H → SqL K H a xs ∧ RVs K g'.F g'.ρ vs xs) : Fed K (EX fr) g (Itl K a) vs := fun g' s σ H e R i => by
  obtain ⟨q, rv⟩ := h g' s σ H e R
  refine ⟨fun hi => ⟨xs, q, by rw [← rv.length]; exact hi⟩, fun v hv => ?_⟩
  obtain ⟨x, hx, r⟩ := rv.get hv
  refine ⟨⟨xs, x, q, hx⟩, fun y H' ⟨e1, e2⟩ => ?_⟩
  subst e1
  have e3 := e2 xs q
  rw [hx] at e3
  cases e3
  exact ⟨g', .refl g', R, r⟩
theorem fed_tup {K : Fg} {fr : Bool} {g : Gh} {a : Addr} {xs : List V} {vs : List Vl} (h : ∀ g' s σ H, EX fr g g' → Rel K g' s σ H → SqT K H a xs ∧ RVs K g'.F g'.ρ vs xs) : Fed K (EX fr) g (Itt K a) vs := fun g' s σ H e R i => by
  obtain ⟨q, rv⟩ := h g' s σ H e R
  refine ⟨fun hi => ⟨xs, q, by rw [← rv.length]; exact hi⟩, fun v hv => ?_⟩
  obtain ⟨x, hx, r⟩ := rv.get hv
  refine ⟨⟨xs, x, q, hx⟩, fun y H' ⟨e1, e2⟩ => ?_⟩
  subst e1
  have e3 := e2 xs q
  rw [hx] at e3
  cases e3
  exact ⟨g', .refl g', R, r⟩
theorem rangeV_get : ∀ (n : Nat) (lo : Int) (i : Nat), (rangeV lo n)[i]? = if i < n then some (.int (lo + i)) else none
  | 0, lo, i => by simp [rangeV]
  | n + 1, lo, 0 => by simp [rangeV]
  | n + 1, lo, i + 1 => by
    rw [rangeV, List.getElem?_cons_succ, rangeV_get n (lo + 1) i]
    by_cases h : i < n
    · rw [if_pos h, if_pos (by omega)]; congr 2; omega
    · rw [if_neg h, if_neg (by omega)]
theorem rangeV_len (n : Nat) (lo : Int) : (rangeV lo n).length = n := by
  induction n generalizing lo with
  | zero => rfl
  | succ n ih => rw [rangeV, List.length_cons, ih]
theorem fed_range {K : Fg} {E : Gh → Gh → Prop} {g : Gh} {lo : Int} {n : Nat} : Fed K E g (Itr lo n) (rangeV lo n) := fun g' s σ H e R i => by
  refine ⟨fun hi => by rw [rangeV_len] at hi; exact hi, fun v hv => ?_⟩
  rw [rangeV_get] at hv
  split at hv
  · rename_i hi
    cases hv
    refine ⟨hi, fun y H' ⟨e1, e2⟩ => ?_⟩
    subst e1 e2
    exact ⟨g', .refl g', R, .int _⟩
  · cases hv
theorem enumV_get : ∀ (vs : List Vl) (k : Int) (i : Nat), (enumV vs k)[i]? = (vs[i]?).map fun v => .tup [.int (k + i), v]
  | [], k, i => by simp [enumV]
  | v :: vs, k, 0 => by simp [enumV]
  | v :: vs, k, i + 1 => by
    rw [enumV, List.getElem?_cons_succ, List.getElem?_cons_succ, enumV_get vs (k + 1) i]
    congr 1; funext w; congr 3; omega
theorem enumV_len : ∀ (vs : List Vl) (k : Int), (enumV vs k).length = vs.length
  | [], _ => rfl
  | v :: vs, k => by rw [enumV, List.length_cons, List.length_cons, enumV_len]
theorem zipV_get : ∀ (vs us : List Vl) (i : Nat), (zipV vs us)[i]? = match vs[i]?, us[i]? with
    | some v, some u => some (.tup [v, u])
    | _, _ => none
  | [], us, i => by simp [zipV]
  | v :: vs, [], i => by
    simp only [zipV, List.getElem?_nil]
    cases (v :: vs)[i]? <;> rfl
  | v :: vs, u :: us, 0 => by simp [zipV]
  | v :: vs, u :: us, i + 1 => by rw [zipV, List.getElem?_cons_succ, List.getElem?_cons_succ, List.getElem?_cons_succ, zipV_get vs us i]
theorem zipV_len : ∀ (vs us : List Vl), (zipV vs us).length = min vs.length us.length
  | [], us => by simp [zipV]
  | v :: vs, [] => by simp [zipV]
  | v :: vs, u :: us => by rw [zipV, List.length_cons, zipV_len, List.length_cons, List.length_cons]; omega
/-- a new pair -/
theorem new_pair {K : Fg} {g : Gh} {s : St} {σ : L2.St} {H : Hp} {T : Addr} {u v : Vl} {x y : V} (R : Rel K g s σ H) (hT : H T = none) (r : RV K g.F g.ρ u x) (q : RV K g.F g.ρ v y) :
    ∃ g2, Ext g g2 ∧ Rel K g2 s σ (upd H T (.tup [x, y])) ∧ RV K g2.F g2.ρ (.tup [u, v]) (.ref T) := R.newTup hT (.cons r (.cons q .nil))
theorem fed_enum {K : Fg} {fr : Bool} {g : Gh} {a : Addr} {xs : List V} {vs : List Vl} (h : ∀ g' s σ H, EX fr g g' → Rel K g' s σ H → SqL K H a xs ∧ RVs K g'.F g'.ρ vs xs) : Fed K (EX fr) g (Ite K a) (enumV vs 0) := fun g' s σ H e R i => by
  obtain ⟨q, rv⟩ := h g' s σ H e R
  refine ⟨fun hi => ⟨xs, q, by rw [← rv.length, ← enumV_len vs 0]; exact hi⟩, fun w hw => ?_⟩
  rw [enumV_get] at hw
  obtain ⟨v, hv, rfl⟩ := Option.map_eq_some_iff.mp hw
  obtain ⟨x, hx, r⟩ := rv.get hv
  refine ⟨⟨xs, x, q, hx⟩, fun y H' ⟨T, x', e1, e2, e3, e4⟩ => ?_⟩
  subst e1 e3
  have e3 := e4 xs q
  rw [hx] at e3
  cases e3
  have := new_pair R e2 (.int ((i : Nat) : Int)) r
  rw [show (0 : Int) + (i : Int) = ((i : Nat) : Int) by omega]
  exact this
theorem fed_zip {K : Fg} {fr : Bool} {g : Gh} {a b : Addr} {xs ys : List V} {vs us : List Vl} (h : ∀ g' s σ H, EX fr g g' → Rel K g' s σ H → SqL K H a xs ∧ RVs K g'.F g'.ρ vs xs) (k : ∀ g' s σ H, EX fr g g' → Rel K g' s σ H → SqL K H b ys ∧ RVs K g'.F g'.ρ us ys) :
    Fed K (EX fr) g (Itz K a b) (zipV vs us) := fun g' s σ H e R i => by
  obtain ⟨q, rv⟩ := h g' s σ H e R
  obtain ⟨q', rv'⟩ := k g' s σ H e R
  refine ⟨fun hi => ⟨xs, ys, q, q', by rw [zipV_len] at hi; rw [← rv.length, ← rv'.length]; omega⟩, fun w hw => ?_⟩
  rw [zipV_get] at hw
  cases hv : vs[i]? with
  | none => simp [hv] at hw
  | some v =>
    cases hu : us[i]? with
    | none => simp [hv, hu] at hw
    | some u =>
      simp [hv, hu] at hw
      subst hw
      obtain ⟨x, hx, r⟩ := rv.get hv
      obtain ⟨y, hy, r'⟩ := rv'.get hu
      refine ⟨⟨xs, ys, x, y, q, q', hx, hy⟩, fun z H' ⟨T, x', y', e1, e2, e3, e4, e5⟩ => ?_⟩
      subst e1 e3
      have e6 := e4 xs q
      rw [hx] at e6
      cases e6
      have e7 := e5 ys q'
      rw [hy] at e7
      cases e7
      exact new_pair R e2 r r'
theorem fed_zipT {K : Fg} {fr : Bool} {g : Gh} {a b : Addr} {xs ys : List V} {vs us : List Vl} (h : ∀ g' s σ H, EX fr g g' → Rel K g' s σ H → SqT K H a xs ∧ RVs K g'.F g'.ρ vs xs) (k : ∀ g' s σ H, EX fr g g' → Rel K g' s σ H → SqT K H b ys ∧ RVs K g'.F g'.ρ us ys) :
    Fed K (EX fr) g (ItzT K a b) (zipV vs us) := fun g' s σ H e R i => by
  obtain ⟨q, rv⟩ := h g' s σ H e R
  obtain ⟨q', rv'⟩ := k g' s σ H e R
  refine ⟨fun hi => ⟨xs, ys, q, q', by rw [zipV_len] at hi; rw [← rv.length, ← rv'.length]; omega⟩, fun w hw => ?_⟩
  rw [zipV_get] at hw
  cases hv : vs[i]? with
  | none => simp [hv] at hw
  | some v =>
    cases hu : us[i]? with
    | none => simp [hv, hu] at hw
    | some u =>
      simp [hv, hu] at hw
      subst hw
      obtain ⟨x, hx, r⟩ := rv.get hv
      obtain ⟨y, hy, r'⟩ := rv'.get hu
      refine ⟨⟨xs, ys, x, y, q, q', hx, hy⟩, fun z H' ⟨T, x', y', e1, e2, e3, e4, e5⟩ => ?_⟩
      subst e1 e3
      have e6 := e4 xs q
      rw [hx] at e6
      cases e6
      have e7 := e5 ys q'
      rw [hy] at e7
      cases e7
      exact new_pair R e2 r r'
/-! ### the iterators -/
section
variable {X : Cx} {RX : RXT} {W : WX} {tg e e' : Expr} {fr : Bool} {p pos : Pos}
theorem pg_of {m : M Rv} {b : M Vl} (pv : PE X e (tM X.K RX W m)) (pb : PE X e (tB X.K RX W b)) : PE X e (tG X.K RX W fr (cond fr (do { let r ← m; pure r.fz }) b)) := by
  cases fr with
  | false => exact pb.imp fun σ H Q h => h
  | true =>
    refine pv.imp fun σ H Q hh => ?_
    obtain ⟨g, s, R, h⟩ := hh
    have h : Sim ((do { let r ← m; pure r.fz } : M Vl) s) _ _ := h
    rw [sim_bind] at h
    refine ⟨g, s, R, h.mono (fun r s1 q g1 H1 x e1 R1 b1 => ?_) fun _ _ z => z⟩
    obtain ⟨g2, e2, R2, rv⟩ := RR.fz R1 b1
    exact q g2 H1 x (e1.trans e2) R2 rv
def iSeq (K : PySem.W.Frag) (tl : TE) : TI := fun σ H R => tl σ H fun x H1 => ∃ a, x = .ref a ∧ (((∃ xs, SqL K H1 a xs) ∧ R (Itl K a) H1) ∨ (∃ xs, SqT K H1 a xs) ∧ R (Itt K a) H1)
theorem pi_seq {l : Expr} {tl : TE} (hl : PE X l tl) : PI X tg l (iSeq X.K tl) := by
  refine ⟨fun pins s σ H R I h => ?_⟩
  refine thn (hl.run pins s σ H _ I h) fun v s1 ⟨x, H1, I1, r1, q1⟩ => ?_
  obtain ⟨a, e, q⟩ := q1
  subst e
  cases r1
  have fresh : ∀ b ∈ [s1.heap.objs.size], FpOk X pins H1 b := fun b hb => by
    have e : b = s1.heap.objs.size := by simpa using hb
    subst e
    exact I1.fpOk (Nat.le_refl _) (I1.hok.fresh (Nat.le_refl _))
  rcases q with ⟨⟨xs, hq⟩, q⟩ | ⟨⟨xs, hq⟩, q⟩
  · obtain ⟨its, rv, p, hz⟩ := I1.list hq
    refine wpAny_pyIter_list p.isList ?_
    exact ⟨s1.heap.objs.size, [s1.heap.objs.size], _, _, H1, rfl, I1.kept (t' := s1.toks) fun b o e => Heap.get?_push_of_some _ e, turn_list a _, ⟨_, Heap.get?_push_size _ rfl, rfl, rfl⟩, fresh, q⟩
  · obtain ⟨its, rv, p, hz⟩ := I1.tuple hq
    refine wpAny_pyIter_tuple (show s1.heap.IsTuple a its.toArray from p) ?_
    exact ⟨s1.heap.objs.size, [s1.heap.objs.size], _, _, H1, rfl, I1.kept (t' := s1.toks) fun b o e => Heap.get?_push_of_some _ e, turn_tuple a _, ⟨_, Heap.get?_push_size _ rfl, rfl, rfl⟩, fresh, q⟩
theorem _root_.L2.PI.imp {t t' : TI} (p : PI X tg e t) (h : ∀ σ H Q, t' σ H Q → t σ H Q) : PI X tg e t' := ⟨fun pins s σ H Q I q => p.run pins s σ H Q I (h σ H Q q)⟩
theorem pi_seq_ {m : M Vl} (pa : PE X e (tG X.K RX W fr m)) : PI X tg e (tI X.K RX W fr (do let x ← m; lift (seqOf x))) := (pi_seq pa).imp fun σ H Q ⟨g, s, R, h⟩ => by
  rw [sim_bind] at h
  refine ⟨g, s, R, h.mono (fun u s1 q g1 H1 x e1 R1 b1 => ?_) fun _ _ z => z⟩
  rw [sim_lift] at q
  obtain ⟨vs, hv, q⟩ := q
  obtain ⟨a, xs, rfl, ⟨_, h1⟩ | ⟨_, h1⟩⟩ := seq_src (s := s1) (σ := σ) (H := H1) b1 hv
  · exact ⟨a, rfl, .inl ⟨⟨xs, (h1 g1 s1 σ H1 (.of (.refl g1)) R1).1⟩, q g1 H1 _ e1 R1 (fed_list h1)⟩⟩
  · exact ⟨a, rfl, .inr ⟨⟨xs, (h1 g1 s1 σ H1 (.of (.refl g1)) R1).1⟩, q g1 H1 _ e1 R1 (fed_tup h1)⟩⟩
theorem inLim_iff {i : Int} (h : inLim i = true) : -(2 ^ 62) ≤ i ∧ i < 2 ^ 62 := by
  unfold inLim lim62 at h
  rw [Bool.and_eq_true, decide_eq_true_eq, decide_eq_true_eq] at h
  exact h
theorem star_one {env : Env} (h : star1 e = false) : starEach [e] env = [(false, eval e env)] := by rw [star_of h]; rfl
theorem pi_range1_ {a : M Vl} (hg : Gl X "range") (hm : X.mg "range" = none) (pa : PE X e (tB X.K RX W a)) (hs : star1 e = false) : PI X tg (.Call (.Name "range" p) [e] [] pos) (tI X.K RX W fr (do
    let x ← a
    match x with
    | .int n => if inLim n then pure (rangeV 0 n.toNat) else bad
    | _ => bad)) :=
  (pi_range1 hg hm (pa_cons pa pa_nil (star_of hs)) (star_one hs)).imp fun σ H Q ⟨g, s, R, h⟩ => by
    rw [sim_bind] at h
    refine ⟨g, s, R, h.mono (fun u s1 q g1 H1 x e1 R1 b1 => ?_) fun _ _ z => z⟩
    cases u with
    | int n =>
      have z := b1.flat_ rfl
      cases z
      simp only [] at q
      split at q
      · rename_i hl
        obtain ⟨l1, l2⟩ := inLim_iff hl
        exact ⟨n, rfl, l1, l2, q g1 H1 _ e1 R1 fed_range⟩
      · exact q.elim
    | _ => exact q.elim
theorem pi_range2_ {a b : M Vl} (hg : Gl X "range") (hm : X.mg "range" = none) (pa : PE X e (tB X.K RX W a)) (pb : PE X e' (tB X.K RX W b)) (hs : star1 e = false) (hs' : star1 e' = false) : PI X tg (.Call (.Name "range" p) [e, e'] [] pos) (tI X.K RX W fr (do
    let x ← a
    let y ← b
    match x, y with
    | .int i, .int j => if inLim i && inLim j then pure (rangeV i (j - i).toNat) else bad
    | _, _ => bad)) :=
  (pi_range2 hg hm (pa_cons pa (pa_cons pb pa_nil (star_of hs')) (star_of hs)) (by rw [star_of hs, star_of hs']; rfl) (star_one hs')).imp fun σ H Q ⟨g, s, R, h⟩ => by
    rw [sim_bind] at h
    refine ⟨g, s, R, h.mono (fun u s1 q g1 H1 x e1 R1 b1 => ?_) fun _ _ z => z⟩
    rw [sim_bind] at q
    refine ⟨g1, s1, R1, q.mono (fun w s2 q2 g2 H2 y e2 R2 b2 => ?_) fun _ _ z => z.ext e1.toExtS⟩
    cases u with
    | int n =>
      have z := b1.flat_ rfl
      cases z
      cases w with
      | int k =>
        have z := b2.flat_ rfl
        cases z
        simp only [] at q2
        split at q2
        · rename_i hl
          rw [Bool.and_eq_true] at hl
          obtain ⟨l1, l2⟩ := inLim_iff hl.1
          obtain ⟨l3, l4⟩ := inLim_iff hl.2
          exact ⟨n, k, rfl, ⟨l1, l2, l3, l4⟩, q2 g2 H2 _ (e1.trans e2) R2 fed_range⟩
        · exact q2.elim
      | _ => exact q2.elim
    | _ => exact q2.elim
theorem pi_enum_ {m : M Vl} {elts : List Expr} {kk : Nat} {tp : Pos} (hg : Gl X "enumerate") (hm : X.mg "enumerate" = none) (pa : PE X e (tG X.K RX W fr m)) (hs : star1 e = false) : PI X (.Tuple elts kk tp) (.Call (.Name "enumerate" p) [e] [] pos) (tI X.K RX W fr (do
    let x ← m
    lift (match x with
      | .lst vs => some (enumV vs 0)
      | _ => none))) :=
  (pi_enum hg hm (pa_cons pa pa_nil (star_of hs)) (star_one hs)).imp fun σ H Q ⟨g, s, R, h⟩ => by
    rw [sim_bind] at h
    refine ⟨g, s, R, h.mono (fun u s1 q g1 H1 x e1 R1 b1 => ?_) fun _ _ z => z⟩
    rw [sim_lift] at q
    obtain ⟨src, hv, q⟩ := q
    cases u with
    | lst vs =>
      cases hv
      obtain ⟨a, xs, rfl, ⟨_, h1⟩ | ⟨z, _⟩⟩ := seq_src (s := s1) (σ := σ) (H := H1) (vs := vs) b1 rfl
      · exact ⟨a, xs, rfl, (h1 g1 s1 σ H1 (.of (.refl g1)) R1).1, q g1 H1 _ e1 R1 (fed_enum h1)⟩
      · cases z
    | _ => cases hv
theorem pi_zip_ {m m' : M Vl} {elts : List Expr} {kk : Nat} {tp : Pos} (hg : Gl X "zip") (hm : X.mg "zip" = none) (pa : PE X e (tG X.K RX W fr m)) (pb : PE X e' (tG X.K RX W fr m')) (hs : star1 e = false) (hs' : star1 e' = false) :
    PI X (.Tuple elts kk tp) (.Call (.Name "zip" p) [e, e'] [] pos) (tI X.K RX W fr (do
    let x ← m
    let y ← m'
    lift (zipOf x y))) :=
  (pi_zipA hg hm (pa_cons pa (pa_cons pb pa_nil (star_of hs')) (star_of hs)) (by rw [star_of hs]) (by rw [star_of hs']; rfl)).imp fun σ H Q ⟨g, s, R, h⟩ => by
    rw [sim_bind] at h
    refine ⟨g, s, R, h.mono (fun u s1 q g1 H1 x e1 R1 b1 => ?_) fun _ _ z => z⟩
    rw [sim_bind] at q
    refine ⟨g1, s1, R1, q.mono (fun w s2 q2 g2 H2 y e2 R2 b2 => ?_) fun _ _ z => z.ext e1.toExtS⟩
    rw [sim_lift] at q2
    obtain ⟨src, hv, q2⟩ := q2
    have up : ∀ g', EX fr g2 g' → EX fr g1 g' := fun g' q => EX.trans (.of e2) q
    cases u with
    | lst vs =>
      cases w with
      | lst us =>
        cases hv
        obtain ⟨a, xs, rfl, ⟨_, h1⟩ | ⟨z, _⟩⟩ := seq_src (s := s1) (σ := σ) (H := H1) (vs := vs) b1 rfl
        · obtain ⟨b, ys, rfl, ⟨_, h2⟩ | ⟨z, _⟩⟩ := seq_src (s := s2) (σ := σ) (H := H2) (vs := us) b2 rfl
          · have h1' := fun g' s σ H (q : EX fr g2 g') R => h1 g' s σ H (up g' q) R
            exact ⟨a, b, xs, ys, rfl, .inl ⟨(h1' g2 s2 σ H2 (.of (.refl g2)) R2).1, (h2 g2 s2 σ H2 (.of (.refl g2)) R2).1, q2 g2 H2 _ (e1.trans e2) R2 (fed_zip h1' h2)⟩⟩
          · cases z
        · cases z
      | _ => cases hv
    | tup vs =>
      cases w with
      | tup us =>
        cases hv
        obtain ⟨a, xs, rfl, ⟨z, _⟩ | ⟨_, h1⟩⟩ := seq_src (s := s1) (σ := σ) (H := H1) (vs := vs) b1 rfl
        · cases z
        · obtain ⟨b, ys, rfl, ⟨z, _⟩ | ⟨_, h2⟩⟩ := seq_src (s := s2) (σ := σ) (H := H2) (vs := us) b2 rfl
          · cases z
          · have h1' := fun g' s σ H (q : EX fr g2 g') R => h1 g' s σ H (up g' q) R
            exact ⟨a, b, xs, ys, rfl, .inr ⟨(h1' g2 s2 σ H2 (.of (.refl g2)) R2).1, (h2 g2 s2 σ H2 (.of (.refl g2)) R2).1, q2 g2 H2 _ (e1.trans e2) R2 (fed_zipT h1' h2)⟩⟩
      | _ => cases hv
    | _ => cases hv
end
end VM

/-! VMComp: targets, comprehensions. -/
namespace VM
open PySem PySem.Spec PyProof.Rows L2
/-! ### slots -/
theorem wipeE_len (own : List Nat) (env : List (Option Rv)) : (wipeE own env).length = env.length := by
  unfold wipeE
  induction own generalizing env with
  | nil => rfl
  | cons i own ih => rw [List.foldl_cons, ih, List.length_set]
theorem wipeE_out {j : Nat} : ∀ {own : List Nat} {env : List (Option Rv)}, j ∉ own → (wipeE own env)[j]? = env[j]?
  | [], _, _ => rfl
  | i :: own, env, h => by
    rw [List.mem_cons, not_or] at h
    show (wipeE own (env.set i none))[j]? = _
    rw [wipeE_out h.2, List.getElem?_set_ne (Ne.symm h.1)]
theorem wipeE_in {j : Nat} {r : Option Rv} : ∀ {own : List Nat} {env : List (Option Rv)}, j ∈ own → (wipeE own env)[j]? = some r → r = none
  | i :: own, env, h, e => by
    have e : (wipeE own (env.set i none))[j]? = some r := e
    by_cases hj : j ∈ own
    · exact wipeE_in hj e
    · rw [wipeE_out hj] at e
      have hji : j = i := by
        rcases List.mem_cons.mp h with h | h
        · exact h
        · exact absurd h hj
      subst hji
      by_cases hl : j < env.length
      · rw [List.getElem?_set_self hl] at e; exact (Option.some.inj e).symm
      · rw [List.getElem?_eq_none (by rw [List.length_set]; omega)] at e; cases e
theorem backE_len (own : List Nat) (old env : List (Option Rv)) : (backE own old env).length = env.length := by
  unfold backE
  induction own generalizing env with
  | nil => rfl
  | cons i own ih => rw [List.foldl_cons, ih, List.length_set]
theorem backE_out {j : Nat} {old : List (Option Rv)} : ∀ {own : List Nat} {env : List (Option Rv)}, j ∉ own → (backE own old env)[j]? = env[j]?
  | [], _, _ => rfl
  | i :: own, env, h => by
    rw [List.mem_cons, not_or] at h
    show (backE own old (env.set i _))[j]? = _
    rw [backE_out h.2, List.getElem?_set_ne (Ne.symm h.1)]
theorem backE_in {j : Nat} {r : Option Rv} {old : List (Option Rv)} : ∀ {own : List Nat} {env : List (Option Rv)}, j ∈ own → (backE own old env)[j]? = some r → r = old.getD j none
  | i :: own, env, h, e => by
    have e : (backE own old (env.set i (old.getD i none)))[j]? = some r := e
    by_cases hj : j ∈ own
    · exact backE_in hj e
    · rw [backE_out hj] at e
      have hji : j = i := by
        rcases List.mem_cons.mp h with h | h
        · exact h
        · exact absurd h hj
      subst hji
      by_cases hl : j < env.length
      · rw [List.getElem?_set_self hl] at e; exact (Option.some.inj e).symm
      · rw [List.getElem?_eq_none (by rw [List.length_set]; omega)] at e; cases e
theorem wipe_in {σ : L2.St} {j : Nat} {v : Option V} : ∀ {vs : List Nat}, j ∈ vs → (wipe σ vs)[j]? = some v → v = none
  | i :: vs, h, e => by
    have e : ((wipe σ vs).set i none)[j]? = some v := e
    by_cases hji : i = j
    · subst hji
      by_cases hl : i < (wipe σ vs).length
      · rw [List.getElem?_set_self hl] at e; exact (Option.some.inj e).symm
      · rw [List.getElem?_eq_none (by rw [List.length_set]; omega)] at e; cases e
    · rw [List.getElem?_set_ne hji] at e
      rcases List.mem_cons.mp h with h | h
      · exact absurd h.symm hji
      · exact wipe_in h e
theorem wipe_agree {σ τ : L2.St} {vs : List Nat} (hl : σ.length = τ.length) (h : ∀ j, j ∉ vs → σ[j]? = τ[j]?) : wipe σ vs = wipe τ vs := by
  refine List.ext_getElem? fun j => ?_
  by_cases hj : j ∈ vs
  · by_cases l : j < σ.length
    · have l1 : j < (wipe σ vs).length := by rw [wipe_length]; exact l
      have l2 : j < (wipe τ vs).length := by rw [wipe_length, ← hl]; exact l
      have e1 := List.getElem?_eq_getElem l1
      have e2 := List.getElem?_eq_getElem l2
      rw [e1, e2, wipe_in hj e1, wipe_in hj e2]
    · rw [List.getElem?_eq_none (by rw [wipe_length]; omega), List.getElem?_eq_none (by rw [wipe_length]; omega)]
  · rw [wipe_out hj, wipe_out hj, h j hj]
theorem wipe_wipe (σ : L2.St) (vs : List Nat) : wipe (wipe σ vs) vs = wipe σ vs := wipe_agree (wipe_length σ vs) fun j hj => wipe_out hj
section
variable {K : Fg} {g g' : Gh} {s s' : St} {σ σ' : L2.St} {H H' : Hp}
theorem RSlot.ext (e : Ext g g') {i : Nat} {r : Option Rv} {x : Option V} (ho : g'.ow i = g.ow i) (q : RSlot K g i r x) : RSlot K g' i r x := by
  cases r with
  | none => exact ho.trans q
  | some r =>
    cases r with
    | v u => obtain ⟨q1, w, q2, q3⟩ := q; exact ⟨ho.trans q1, w, q2, q3.ext e.toExtS⟩
    | ol vs => obtain ⟨w, xs, q1, q2, q3, q4⟩ := q; exact ⟨w, xs, q1, ho.trans q2, e.P _ _ q3, q4.ext e.toExtS⟩
    | od vs => obtain ⟨w, xs, q1, q2, q3, q4⟩ := q; exact ⟨w, xs, q1, ho.trans q2, e.P _ _ q3, q4.ext e.toExtS⟩
/-- fewer names own -/
def Gh.dis (g : Gh) (own : List Nat) : Gh := { g with ow := fun j => if j ∈ own then none else g.ow j }
theorem Gh.dis_ext (g : Gh) (own : List Nat) : Ext g (g.dis own) := ⟨⟨Same.refl _, rfl, fun _ _ h => h, fun _ h _ => h⟩, Same.refl _⟩
theorem Gh.dis_own {own : List Nat} {i : Nat} {p : Addr} (h : (g.dis own).ow i = some p) : g.ow i = some p ∧ i ∉ own := by
  have h : (if i ∈ own then none else g.ow i) = some p := h
  by_cases z : i ∈ own
  · rw [if_pos z] at h; cases h
  · rw [if_neg z] at h; exact ⟨h, z⟩
theorem HRel.dis {h : Heap} (r : HRel K g h H) (own : List Nat) : HRel K (g.dis own) h H := ⟨r.fp, r.bp, r.ph, r.cin, r.inj, fun a c e => by
  obtain ⟨q, e1, e2⟩ := r.cel a c e
  refine ⟨q, e1, ?_⟩
  cases c with
  | lst vs => exact e2
  | dct vs => exact e2, r.dom⟩
theorem Rel.wipe (R : Rel K g s σ H) (own : List Nat) : Rel K (g.dis own) { s with env := wipeE own s.env } (L2.wipe σ own) H := by
  refine ⟨R.hr.dis own, by rw [wipeE_len, wipe_length]; exact R.len, fun i r x h1 h2 => ?_, fun i j p h1 h2 => R.apart i j p (Gh.dis_own h1).1 (Gh.dis_own h2).1, fun i p h => ?_⟩
  · by_cases z : i ∈ own
    · rw [wipeE_in z h1]
      exact if_pos z
    · rw [wipeE_out z] at h1
      rw [wipe_out z] at h2
      exact RSlot.ext (g.dis_ext own) (if_neg z) (R.slot i r x h1 h2)
  · obtain ⟨a, b⟩ := R.own i p (Gh.dis_own h).1
    exact ⟨by rw [wipeE_len]; exact a, b⟩
theorem Rel.unwipe (R : Rel K g s σ H) (e : Ext g g') (R' : Rel K g' s' σ' H') {own : List Nat} (hp : own.all (fun i => plainS (s.env.getD i none)) = true) (hw : L2.wipe σ' own = L2.wipe σ own) :
    Rel K (g'.dis own) { s' with env := backE own s.env s'.env } σ H' := by
  have hl : σ'.length = σ.length := by rw [← wipe_length σ' own, hw, wipe_length]
  refine ⟨R'.hr.dis own, by rw [backE_len, R'.len, hl], fun i r x h1 h2 => ?_, fun i j p h1 h2 => R'.apart i j p (Gh.dis_own h1).1 (Gh.dis_own h2).1, fun i p h => ?_⟩
  · by_cases z : i ∈ own
    · have ho : (g'.dis own).ow i = none := if_pos z
      have er := backE_in z h1
      have hpl := List.all_eq_true.mp hp i z
      have hi : i < s.env.length := by rw [R.len]; exact (List.getElem?_eq_some_iff.mp h2).1
      have e0 : s.env[i]? = some s.env[i] := by simp [hi]
      have e1 : s.env.getD i none = s.env[i] := by rw [List.getD_eq_getElem?_getD, e0]; rfl
      rw [e1] at er hpl
      have q := R.slot i _ x e0 h2
      subst er
      cases c : s.env[i] with
      | none => exact ho
      | some r =>
        rw [c] at q hpl
        cases r with
        | v u => obtain ⟨q1, w, q2, q3⟩ := q; exact ⟨ho, w, q2, q3.ext e.toExtS⟩
        | ol vs => cases hpl
        | od vs => cases hpl
    · rw [backE_out z] at h1
      rw [← wipe_out (σ := σ) z, ← hw, wipe_out z] at h2
      exact RSlot.ext (g'.dis_ext own) (if_neg z) (R'.slot i r x h1 h2)
  · obtain ⟨a, b⟩ := R'.own i p (Gh.dis_own h).1
    exact ⟨by rw [backE_len]; exact a, b⟩
/-- a name gets a value -/
theorem Rel.setV (R : Rel K g s σ H) {i : Nat} {u : Vl} {x : V} (r : RV K g.F g.ρ u x) : Rel K (g.dis [i]) { s with env := s.env.set i (some (.v u)) } (σ.set i (some x)) H := by
  refine ⟨R.hr.dis _, by rw [List.length_set, List.length_set]; exact R.len, fun j r' x' h1 h2 => ?_, fun i j p h1 h2 => R.apart i j p (Gh.dis_own h1).1 (Gh.dis_own h2).1, fun j p h => ?_⟩
  · by_cases z : i = j
    · subst z
      have hi : i < s.env.length := by have := (List.getElem?_eq_some_iff.mp h1).1; rw [List.length_set] at this; exact this
      rw [List.getElem?_set_self hi] at h1
      rw [List.getElem?_set_self (by rw [← R.len]; exact hi)] at h2
      cases h1; cases h2
      exact ⟨if_pos (List.mem_singleton.mpr rfl), x, rfl, r⟩
    · rw [List.getElem?_set_ne z] at h1 h2
      exact RSlot.ext (g.dis_ext _) (if_neg fun h => z (List.mem_singleton.mp h).symm) (R.slot j r' x' h1 h2)
  · obtain ⟨a, b⟩ := R.own j p (Gh.dis_own h).1
    exact ⟨by rw [List.length_set]; exact a, b⟩
end
/-! ### targets -/
def Agree (own : List Nat) (σ σ' : L2.St) : Prop := σ'.length = σ.length ∧ ∀ j, j ∉ own → σ'[j]? = σ[j]?
theorem Agree.refl (own : List Nat) (σ : L2.St) : Agree own σ σ := ⟨rfl, fun _ _ => rfl⟩
def gB (K : Fg) (t : T) : TG := fun x σ H Q => ∃ g s u, Rel K g s σ H ∧ RV K g.F g.ρ u x ∧ Sim (bindT t (.v u) s) (fun _ s' => ∀ g' σ', Agree (tnames t) σ σ' → Ext g g' → Rel K g' s' σ' H → Q σ' H) (fun _ _ => False)
def gBs (K : Fg) (ts : List T) : TGs := fun xs σ H Q => ∃ g s us, Rel K g s σ H ∧ RVs K g.F g.ρ us xs ∧ Sim (bindTs ts us s) (fun _ s' => ∀ g' σ', Agree (tnamess ts) σ σ' → Ext g g' → Rel K g' s' σ' H → Q σ' H) (fun _ _ => False)
theorem _root_.L2.PG.imp {X : Cx} {e : Expr} {t t' : TG} (p : PG X e t) (h : ∀ x σ H Q, t' x σ H Q → t x σ H Q) : PG X e t' := ⟨fun pins s σ H v u Q I r q => p.run pins s σ H v u Q I r (h _ σ H Q q)⟩
theorem _root_.L2.PGs.imp {X : Cx} {e : List Expr} {t t' : TGs} (p : PGs X e t) (h : ∀ x σ H Q, t' x σ H Q → t x σ H Q) : PGs X e t' := ⟨fun pins s σ H v u Q I r q => p.run pins s σ H v u Q I r (h _ σ H Q q)⟩
section
variable {X : Cx} {pos : Pos}
theorem pg_name_ {i : Nat} {x : Str} (hN : X.N.Nodup) (hi : X.N[i]? = some x) (hx : Loc X.env.scope x) (hf : X.fn x = true ∨ X.env.scope.names.lookup x = some .local) : PG X (.Name x pos) (gB X.K (.n i)) :=
  (pg_name hN hi hx hf).imp fun v σ H Q ⟨g, s, u, R, r, h⟩ => by
    have h : Sim (setS i (some (.v u)) s) _ _ := h
    unfold setS at h
    split at h
    case isFalse => exact h.elim
    exact h (g.dis [i]) _ ⟨by rw [List.length_set], fun j hj => List.getElem?_set_ne fun z => hj (List.mem_singleton.mpr z.symm)⟩ (g.dis_ext _) (R.setV r)
theorem pgs_nil_ : PGs X [] (gBs X.K []) := pgs_nil.imp fun xs σ H Q ⟨g, s, us, R, r, h⟩ => by
  cases us with
  | nil => cases r; exact ⟨rfl, h g σ (.refl _ _) (.refl g) R⟩
  | cons u us => exact h.elim
def isTgt : Expr → Bool
  | .Name _ _ => true
  | .Tuple _ _ _ => true
  | _ => false
theorem tgt_each {e : Expr} {es : List Expr} {env : Env} (h : isTgt e = true) : (assignEach (e :: es) env).map (·.2) = assign e env :: (assignEach es env).map (·.2) := by
  cases e <;> first | rfl | cases h
theorem tgt_len {env : Env} : ∀ {es : List Expr}, (assignEach es env).length = es.length
  | [] => rfl
  | e :: es => by
    have := tgt_len (env := env) (es := es)
    cases e <;> simp [assignEach, this]
theorem tgt_star {env : Env} : ∀ {es : List Expr}, es.all isTgt = true → (assignEach es env).findIdx? (·.1) = none
  | [], _ => rfl
  | e :: es, h => by
    rw [List.all_cons, Bool.and_eq_true] at h
    have ih := tgt_star (env := env) h.2
    cases e <;> first | (simp [assignEach, List.findIdx?_cons, ih]; done) | (cases h.1)
theorem pgs_cons_ {e : Expr} {es : List Expr} {t : T} {ts : List T} (h1 : PG X e (gB X.K t)) (h2 : PGs X es (gBs X.K ts)) (hs : isTgt e = true) : PGs X (e :: es) (gBs X.K (t :: ts)) :=
  (pgs_cons h1 h2 (tgt_each hs)).imp fun xs σ H Q ⟨g, s, us, R, r, h⟩ => by
    cases us with
    | nil => exact h.elim
    | cons u us =>
      cases r with
      | cons rv r =>
        have h : Sim ((do bindT t (.v u); bindTs ts us : M Unit) s) _ _ := h
        rw [sim_bind] at h
        refine ⟨_, _, rfl, g, s, u, R, rv, h.mono (fun _ s1 q g1 σ1 a1 e1 R1 => ?_) fun _ _ z => z⟩
        refine ⟨g1, s1, us, R1, r.ext e1.toExtS, q.mono (fun _ s2 q2 g2 σ2 a2 e2 R2 => ?_) fun _ _ z => z⟩
        refine q2 g2 σ2 ⟨a2.1.trans a1.1, fun j hj => ?_⟩ (e1.trans e2) R2
        have hj : j ∉ tnames t ++ tnamess ts := hj
        rw [List.mem_append, not_or] at hj
        rw [a2.2 j hj.2, a1.2 j hj.1]
theorem pg_tup_ {es : List Expr} {k : Nat} {ts : List T} (hc : X.calm = true) (h : PGs X es (gBs X.K ts)) (hl : es.length = ts.length) (hst : es.all isTgt = true) : PG X (.Tuple es k pos) (gB X.K (.tup ts)) := by
  have p1 := pg_tup (k := k) (pos := pos) hc h (n := ts.length) (by rw [tgt_len, hl]) (tgt_star hst)
  have p2 := pg_lst (k := k) (pos := pos) hc h (n := ts.length) (by rw [tgt_len, hl]) (tgt_star hst)
  refine ⟨fun pins s σ H v u Q I r ⟨g, t, w, R, rv, h⟩ => ?_⟩
  cases rv with
  | @tup vs xs a h1 h2 =>
    have h : Sim ((if vs.length = ts.length then bindTs ts vs else bad : M Unit) t) _ _ := h
    by_cases z : vs.length = ts.length
    · rw [if_pos z] at h
      exact p1.run pins s σ H _ u Q I r ⟨a, xs, rfl, seqT_mono (R.hr.fp.trans R.hr.ph) h1, by rw [← h2.length]; exact z, g, t, vs, R, h2, h⟩
    · rw [if_neg z] at h; exact h.elim
  | @lst vs xs a h1 h2 =>
    have h : Sim ((if vs.length = ts.length then bindTs ts vs else bad : M Unit) t) _ _ := h
    by_cases z : vs.length = ts.length
    · rw [if_pos z] at h
      exact p2.run pins s σ H _ u Q I r ⟨a, xs, rfl, seqL_mono (R.hr.fp.trans R.hr.ph) h1, by rw [← h2.length]; exact z, g, t, vs, R, h2, h⟩
    · rw [if_neg z] at h; exact h.elim
  | _ => exact h.elim
end
/-! ### [elt for t in it if ..] -/
/-- the new list is nobody's business while an item is reckoned -/
theorem Rel.guard {K : Fg} {g : Gh} {s : St} {σ : L2.St} {H : Hp} {D : Addr} {o : HO} (R : Rel K g s σ H) (hD : H D = some o) (hP : g.P D = none) (hρ : ∀ a, g.ρ a ≠ some D) : Rel K { g with P := upd g.P D o, B := upd g.B D o } s σ H := by
  have hB : g.B D = none := by
    cases q : g.B D with
    | none => rfl
    | some u => rw [R.hr.bp _ _ q] at hP; cases hP
  have hF : g.F D = none := by
    cases q : g.F D with
    | none => rfl
    | some u => rw [R.hr.fp _ _ q] at hP; cases hP
  refine ⟨⟨R.hr.fp.trans (same_upd hP), fun p u h => ?_, fun p u h => ?_, fun a p h => ?_, R.hr.inj, fun a c h => ?_, R.hr.dom⟩, R.len, fun i r x h1 h2 => ?_, R.apart, fun i p h => ?_⟩
  · have h : upd g.B D o p = some u := h
    show upd g.P D o p = some u
    by_cases z : p = D
    · subst z; rw [upd_same] at h ⊢; exact h
    · rw [upd_ne z] at h ⊢; exact R.hr.bp _ _ h
  · have h : upd g.P D o p = some u := h
    by_cases z : p = D
    · subst z; rw [upd_same] at h; rw [← h]; exact hD
    · rw [upd_ne z] at h; exact R.hr.ph _ _ h
  · show upd g.P D o p = none
    have z : p ≠ D := fun z => hρ a (z ▸ h)
    rw [upd_ne z]; exact R.hr.cin a p h
  · obtain ⟨q, e1, e2⟩ := R.hr.cel a c h
    refine ⟨q, e1, ?_⟩
    cases c with
    | lst vs => exact e2
    | dct vs => exact e2
  · have q := R.slot i r x h1 h2
    have up : Same g.P (upd g.P D o) := same_upd hP
    cases r with
    | none => exact q
    | some r =>
      cases r with
      | v u => exact q
      | ol vs => obtain ⟨w, xs, q1, q2, q3, q4⟩ := q; exact ⟨w, xs, q1, q2, up _ _ q3, q4⟩
      | od vs => obtain ⟨w, xs, q1, q2, q3, q4⟩ := q; exact ⟨w, xs, q1, q2, up _ _ q3, q4⟩
  · obtain ⟨a1, a2, a3, a4⟩ := R.own i p h
    have z : p ≠ D := fun z => by rw [z, hP] at a4; cases a4
    exact ⟨a1, a2, by show upd g.B D o p = none; rw [upd_ne z]; exact a3, by show (upd g.P D o p).isSome = true; rw [upd_ne z]; exact a4⟩
theorem Rel.unguard {K : Fg} {g g' : Gh} {s s' : St} {σ σ' : L2.St} {H H' : Hp} {D : Addr} {o : HO} (R : Rel K g s σ H) (hD : H D = some o) (hP : g.P D = none) (hρ : ∀ a, g.ρ a ≠ some D) (e : Ext { g with P := upd g.P D o, B := upd g.B D o } g') (R' : Rel K g' s' σ' H') (o' : HO) :
    ∃ g2, Ext g g2 ∧ Rel K g2 s' σ' (upd H' D o') ∧ g2.P D = none ∧ (∀ a, g2.ρ a ≠ some D) ∧ H' D = some o ∧ g2.F = g'.F ∧ g2.ρ = g'.ρ := by
  have hB : g.B D = none := by
    cases q : g.B D with
    | none => rfl
    | some u => rw [R.hr.bp _ _ q] at hP; cases hP
  have hF : g.F D = none := by
    cases q : g.F D with
    | none => rfl
    | some u => rw [R.hr.fp _ _ q] at hP; cases hP
  have pD : g'.P D = some o := e.P _ _ upd_same
  have bD : g'.B D = some o := by rw [e.B]; exact upd_same
  have fD : g'.F D = none := e.fb D hF (by show upd g.B D o D ≠ none; rw [upd_same]; simp)
  have ρD : ∀ a, g'.ρ a ≠ some D := fun a h => by have := R'.hr.cin a D h; rw [pD] at this; cases this
  let g2 : Gh := { g' with B := g.B, P := fun p => if p = D then none else g'.P p }
  have pne : ∀ {p : Addr}, p ≠ D → g2.P p = g'.P p := fun z => if_neg z
  have x : Ext g g2 := ⟨⟨e.F, rfl, e.ρ, fun p h1 h2 => e.fb p h1 (by
      show upd g.B D o p ≠ none
      by_cases z : p = D
      · rw [z, upd_same]; simp
      · rw [upd_ne z]; exact h2)⟩, fun p u h => by
      have z : p ≠ D := fun z => by rw [z, hP] at h; cases h
      show g2.P p = some u
      rw [pne z]
      exact e.P _ _ (by show upd g.P D o p = some u; rw [upd_ne z]; exact h)⟩
  refine ⟨g2, x, ⟨⟨fun p u h => ?_, fun p u h => ?_, fun p u h => ?_, fun a p h => ?_, R'.hr.inj, fun a c h => ?_, R'.hr.dom⟩, R'.len, fun i r x h1 h2 => ?_, R'.apart, fun i p h => ?_⟩, if_pos rfl, ρD, R'.hr.ph _ _ pD, rfl, rfl⟩
  · have z : p ≠ D := fun z => by rw [z, fD] at h; cases h
    rw [pne z]; exact R'.hr.fp _ _ h
  · have h : g.B p = some u := h
    have z : p ≠ D := fun z => by rw [z, hB] at h; cases h
    rw [pne z]
    exact R'.hr.bp _ _ (by rw [e.B]; show upd g.B D o p = some u; rw [upd_ne z]; exact h)
  · by_cases z : p = D
    · rw [z, show g2.P D = none from if_pos rfl] at h; cases h
    · rw [pne z] at h
      rw [upd_ne z]; exact R'.hr.ph _ _ h
  · have z : p ≠ D := fun z => ρD a (z ▸ h)
    rw [pne z]; exact R'.hr.cin a p h
  · obtain ⟨q, e1, e2⟩ := R'.hr.cel a c h
    have z : q ≠ D := fun z => ρD a (z ▸ e1)
    refine ⟨q, e1, ?_⟩
    rw [upd_ne z]
    cases c with
    | lst vs => exact e2
    | dct vs => exact e2
  · have q := R'.slot i r x h1 h2
    have nD : ∀ p, g'.ow i = some p → p ≠ D := fun p h z => by
      have := (R'.own i p h).2.2.1
      rw [z, bD] at this; cases this
    cases r with
    | none => exact q
    | some r =>
      cases r with
      | v u => exact q
      | ol vs => obtain ⟨w, xs, q1, q2, q3, q4⟩ := q; exact ⟨w, xs, q1, q2, by rw [pne (nD w q2)]; exact q3, q4⟩
      | od vs => obtain ⟨w, xs, q1, q2, q3, q4⟩ := q; exact ⟨w, xs, q1, q2, by rw [pne (nD w q2)]; exact q3, q4⟩
  · obtain ⟨a1, a2, a3, a4⟩ := R'.own i p h
    have z : p ≠ D := fun z => by rw [z, bD] at a3; cases a3
    refine ⟨a1, a2, ?_, by rw [pne z]; exact a4⟩
    cases q : g.B p with
    | none => rfl
    | some u =>
      have : g'.B p = some u := by rw [e.B]; show upd g.B D o p = some u; rw [upd_ne z]; exact q
      rw [a3] at this; cases this
/-- a new list's place is free -/
theorem Rel.atD {K : Fg} {g : Gh} {s : St} {σ : L2.St} {H : Hp} {D : Addr} {o : HO} (R : Rel K g s σ H) (h : H D = none) : Rel K g s σ (upd H D o) := R.heap (same_upd h)
def W0 : WX := fun _ _ _ _ => False
/-- a turn of a list comprehension -/
def lcF (own : List Nat) (t : T) (mt : M Bool) (me : M Rv) (v : Vl) : M (Option Vl) := do
  wipeM own
  bindT t (.v v)
  let ok ← mt
  if ok then do
    let r ← me
    pure (some r.fz)
  else pure none
theorem Sim.run {α : Type} {m : R α} {Q : α → St → Prop} (h : Sim m Q (fun _ _ => False)) : ∃ a s, m = .ok a s ∧ Q a s := by
  unfold Sim at h
  cases m with
  | ok a s => exact ⟨a, s, rfl, h⟩
  | exc x s => exact h.elim
  | bad => exact h.elim
theorem sim_block {α : Type} {own : List Nat} {m : M α} {s : St} {Q : α → St → Prop} {Z : Ex → St → Prop} (h : Sim (block own m s) Q Z) :
    own.all (fun i => plainS (s.env.getD i none)) = true ∧ Sim (m s) (fun a s' => Q a { s' with env := backE own s.env s'.env }) (fun _ _ => False) := by
  unfold block at h
  split at h
  · rename_i hp
    refine ⟨hp, ?_⟩
    cases e : m s with
    | ok a s' => rw [e] at h; exact h
    | exc x s' => rw [e] at h; exact h.elim
    | bad => rw [e] at h; exact h.elim
  · exact h.elim
section
variable {X : Cx} {RX : RXT} {W : WX} {wi : TI} {own : List (Str × Nat)} {mi : M (List Vl)} {t : T} {mt : M Bool} {me : M Rv}
theorem lc_of {σ : L2.St} {H : Hp} {Q : VK} (hT : ∀ j ∈ tnames t, j ∈ own.map (·.2))
    (h : tM X.K RX W (do
      let src ← mi
      let vs ← block (own.map (·.2)) (each (lcF (own.map (·.2)) t mt me) src)
      if vs.length ≤ top then pure (.ol vs) else bad) σ H Q) :
    tLc (tI X.K RX W false mi) (gB X.K t) (tT X.K RX W0 mt) (tM X.K RX W0 me) (own.map (·.2)) σ H Q := by
  obtain ⟨g, s, R, h⟩ := h
  rw [sim_bind] at h
  refine ⟨g, s, R, h.mono (fun src s1 q g1 H1 J e1 R1 fed => ?_) fun _ _ z => z⟩
  rw [sim_bind] at q
  obtain ⟨hp, q⟩ := sim_block q
  intro D hD
  generalize hvs : own.map (·.2) = vs at hT hp q ⊢
  -- behind the turns
  let Post : List Vl → St → Prop := fun l s' => l.length ≤ top ∧ ∀ g' H' x, Ext g g' → Rel X.K g' { s' with env := backE vs s1.env s'.env } σ H' → RR X.K g' H' (.ol l) x → Q x H'
  have q : Sim (each (lcF vs t mt me) src s1) Post (fun _ _ => False) := q.mono (fun l s' z => by
    by_cases hl : l.length ≤ top
    · rw [if_pos hl] at z; exact ⟨hl, z⟩
    · rw [if_neg hl] at z; exact z.elim) fun _ _ z => z
  refine ⟨fun i m H => m = src.length - i ∧ i ≤ src.length ∧ ∃ g' s' σ' acc xs, Ext g1 g' ∧ Rel X.K g' s' σ' H ∧ wipe σ' vs = wipe σ vs ∧ H D = some (.lst xs) ∧ RVs X.K g'.F g'.ρ acc xs ∧ g'.P D = none ∧ (∀ a, g'.ρ a ≠ some D) ∧
      Sim (each (lcF vs t mt me) (src.drop i) s') (fun rest s'' => Post (acc ++ rest) s'') (fun _ _ => False), ⟨src.length, rfl, Nat.zero_le _, g1, s1, σ, [], [], .refl g1, R1.atD hD, rfl, upd_same, .nil, ?_, ?_, q⟩, ?_⟩
  · cases z : g1.P D with
    | none => rfl
    | some o => rw [R1.hr.ph _ _ z] at hD; cases hD
  · exact (R1.hr.free hD).2
  rintro i m H2 ⟨rfl, hi, g', s', σ', acc, xs, e2, R2, hw, hH, rv, hP, hρ, sim⟩
  by_cases hlt : i < src.length
  · have hv : src[i]? = some src[i] := List.getElem?_eq_getElem hlt
    generalize src[i] = v at hv
    have hdrop : src.drop i = v :: src.drop (i + 1) := by
      rw [List.drop_eq_getElem_cons hlt]
      rw [List.getElem?_eq_getElem hlt] at hv
      rw [Option.some.inj hv]
    rw [hdrop] at sim
    have sim : Sim ((do let r ← lcF vs t mt me v; let rs ← each (lcF vs t mt me) (src.drop (i + 1)); pure (consO r rs) : M (List Vl)) s') _ _ := sim
    rw [sim_bind] at sim
    have RG := R2.guard hH hP hρ
    have hfed := fed { g' with P := upd g'.P D (.lst xs), B := upd g'.B D (.lst xs) } s' σ' H2 ⟨e2.F, e2.ρ, fun _ => e2.P.trans (same_upd hP)⟩ RG i
    obtain ⟨go, yld⟩ := hfed.2 v hv
    refine .inr ⟨go, fun H' => ∃ m', m' < src.length - i ∧ (m' = src.length - (i + 1) ∧ i + 1 ≤ src.length ∧ ∃ g' s' σ' acc xs, Ext g1 g' ∧ Rel X.K g' s' σ' H' ∧ wipe σ' vs = wipe σ vs ∧ H' D = some (.lst xs) ∧ RVs X.K g'.F g'.ρ acc xs ∧ g'.P D = none ∧ (∀ a, g'.ρ a ≠ some D) ∧
      Sim (each (lcF vs t mt me) (src.drop (i + 1)) s') (fun rest s'' => Post (acc ++ rest) s'') (fun _ _ => False)), fun H' z => z, fun x H3 hy => ?_⟩
    obtain ⟨g3, e3, R3, r3⟩ := yld x H3 hy
    have R4 := R3.wipe vs
    have e4 := e3.trans (g3.dis_ext vs)
    rw [hw] at R4
    have sim : Sim ((do bindT t (.v v); let ok ← mt; (if ok then do let r ← me; pure (some r.fz) else pure none) : M (Option Vl)) { s' with env := wipeE vs s'.env }) _ _ := sim
    rw [sim_bind] at sim
    refine ⟨_, _, v, R4, r3, sim.mono (fun _ s5 sim g5 σ5 a5 e5 R5 => ?_) fun _ _ z => z⟩
    have hw5 : wipe σ5 vs = wipe σ vs := by
      rw [wipe_agree (τ := wipe σ vs) a5.1 fun j hj => a5.2 j fun z => hj (hT j z)]
      exact wipe_wipe σ vs
    refine ⟨hw5, g5, s5, R5, ?_⟩
    rw [sim_bind] at sim
    refine sim.mono (fun b s6 sim g6 H6 e6 R6 => ?_) fun _ _ z => z.elim
    have e46 := (e4.trans e5).trans e6
    cases b with
    | false =>
      refine iteF ?_
      have sim : Sim ((each (lcF vs t mt me) (src.drop (i + 1)) >>= fun rs => pure rs) s6) _ _ := sim
      rw [sim_bind] at sim
      obtain ⟨g7, e7, R7, p7, ρ7, hH6, f7, q7⟩ := R2.unguard hH hP hρ e46 R6 (.lst xs)
      have hup : upd H6 D (.lst xs) = H6 := by
        funext p
        by_cases z : p = D
        · rw [z, upd_same]; exact hH6.symm
        · rw [upd_ne z]
      rw [hup] at R7
      exact ⟨_, by omega, rfl, by omega, g7, s6, σ5, acc, xs, e2.trans e7, R7, hw5, hH6, rv.ext e7.toExtS, p7, ρ7, sim⟩
    | true =>
      refine iteT ?_
      have sim : Sim ((do let r ← me; pure (some r.fz) : M (Option Vl)) s6) _ _ := sim
      rw [sim_bind] at sim
      refine ⟨g6, s6, R6, sim.mono (fun r s7 sim g8 H8 y e8 R8 rr => ?_) fun _ _ z => z.elim⟩
      have sim : Sim ((each (lcF vs t mt me) (src.drop (i + 1)) >>= fun rs => pure (r.fz :: rs)) s7) _ _ := sim
      rw [sim_bind] at sim
      obtain ⟨g9, e9, R9, rv9⟩ := RR.fz R8 rr
      obtain ⟨g10, e10, R10, p10, ρ10, hH8, f10, q10⟩ := R2.unguard hH hP hρ ((e46.trans e8).trans e9) R9 (.lst (xs ++ [y]))
      have hlen : acc.length < top := by
        obtain ⟨rs, s9, _, z⟩ := sim.run
        have z : Post (acc ++ r.fz :: rs) s9 := z
        have := z.1
        rw [List.length_append, List.length_cons] at this
        omega
      refine ⟨xs, hH8, by rw [← top_line, ← rv.length]; exact hlen, _, by omega, rfl, by omega, g10, s7, σ5, acc ++ [r.fz], xs ++ [y], e2.trans e10, R10, hw5, upd_same, (rv.ext e10.toExtS).append (.cons (by rw [f10, q10]; exact rv9) .nil), p10, ρ10, ?_⟩
      refine sim.mono (fun rs s9 z => ?_) fun _ _ z => z
      rw [List.append_assoc]
      exact z
  · have hi' : i = src.length := by omega
    subst hi'
    rw [List.drop_length] at sim
    have sim : Post (acc ++ []) s' := sim
    rw [List.append_nil] at sim
    refine .inl ⟨?_, ?_⟩
    · have RG := R2.guard hH hP hρ
      exact (fed { g' with P := upd g'.P D (.lst xs), B := upd g'.B D (.lst xs) } s' σ' H2 ⟨e2.F, e2.ρ, fun _ => e2.P.trans (same_upd hP)⟩ RG src.length).1 (Nat.le_refl _)
    · have R3 := R1.unwipe e2 R2 hp hw
      exact sim.2 _ H2 (.ref D) ((e1.trans e2).trans (g'.dis_ext vs)) R3 ⟨D, xs, rfl, hH, rv, hP, hρ⟩
end
end VM

/-! VMStmt: statements. -/
namespace VM
open PySem PySem.Spec PyProof.Rows L2
def ZxS (K : Fg) (RX : RXT) (W : WX) (g : Gh) : Ex → St → Prop := fun x s' => ∀ g' σ' H' cls d, ExtS g g' → Rel K g' s' σ' H' → RX g' x cls d H' → W cls d σ' H'
theorem ZxS.at {K : Fg} {RX : RXT} {W : WX} {g : Gh} {x : Ex} {s : St} (h : ZxS K RX W g x s) (σ : L2.St) : Zx K RX W g σ x s := fun g' H' cls d e r q => h g' σ H' cls d e r q
theorem ZxS.ext {K : Fg} {RX : RXT} {W : WX} {g g' : Gh} {x : Ex} {s : St} (e : ExtS g g') (h : ZxS K RX W g x s) : ZxS K RX W g' x s := fun g2 σ' H' cls d e2 r q => h g2 σ' H' cls d (e.trans e2) r q
/-- what a flow wants of the ends -/
def Fin_ (K : Fg) (g : Gh) (D : Ends) (σ : L2.St) (H : Hp) : Fl → Prop
  | .nx => D.nx σ H
  | .bk => D.bk σ H
  | .ct => D.ct σ H
  | .rt r => ∀ x, RR K g H r x → D.rt x H
def tS (K : Fg) (RX : RXT) (W : WX) (m : M Fl) : TS := fun D σ H => ∃ g s, Rel K g s σ H ∧ Sim (m s) (fun f s' => ∀ g' σ' H', ExtS g g' → Rel K g' s' σ' H' → Fin_ K g' D σ' H' f) (ZxS K RX W g)
theorem _root_.L2.PS.imp {X : Cx} {e : Stmt} {t t' : TS} (p : PS X e t) (h : ∀ D σ H, t' D σ H → t D σ H) : PS X e t' := ⟨fun pins s σ H D I q => p.run pins s σ H D I (h D σ H q)⟩
theorem _root_.L2.PSs.imp {X : Cx} {e : List Stmt} {t t' : TS} (p : PSs X e t) (h : ∀ D σ H, t' D σ H → t D σ H) : PSs X e t' := ⟨fun pins s σ H D I q => p.run pins s σ H D I (h D σ H q)⟩
/-! ### slots written -/
section
variable {K : Fg} {g g' : Gh} {s s' : St} {σ σ' : L2.St} {H H' : Hp}
/-- a name gets a new list, dict -/
theorem Rel.setO (R : Rel K g s σ H) {i : Nat} {r : Rv} {p : Addr} {o : HO} (hi : i < s.env.length) (hp : H p = some o) (hP : g.P p = none) (hρ : ∀ a, g.ρ a ≠ some p)
    (hr : ∀ g' : Gh, ExtS g g' → g'.ow i = some p → g'.P p = some o → RSlot K g' i (some r) (some (.ref p))) :
    ∃ g', ExtS g g' ∧ Rel K g' { s with env := s.env.set i (some r) } (σ.set i (some (.ref p))) H := by
  let g' : Gh := { g with P := upd g.P p o, ow := fun j => if j = i then some p else g.ow j }
  have e : ExtS g g' := ⟨Same.refl _, rfl, fun _ _ h => h, fun _ h _ => h⟩
  have up : Same g.P g'.P := same_upd hP
  have hF : g.F p = none := by
    cases q : g.F p with
    | none => rfl
    | some u => rw [R.hr.fp _ _ q] at hP; cases hP
  have hB : g.B p = none := by
    cases q : g.B p with
    | none => rfl
    | some u => rw [R.hr.bp _ _ q] at hP; cases hP
  have nop : ∀ j, g.ow j ≠ some p := fun j h => by
    have := (R.own j p h).2.2.2
    rw [hP] at this; cases this
  have ow_ne : ∀ {j}, j ≠ i → g'.ow j = g.ow j := fun z => if_neg z
  have ow_eq : g'.ow i = some p := if_pos rfl
  refine ⟨g', e, ⟨R.hr.fp.trans up, R.hr.bp.trans up, fun q u h => ?_, fun a q h => ?_, R.hr.inj, fun a c h => ?_, R.hr.dom⟩, by rw [List.length_set, List.length_set]; exact R.len, fun j r' x' h1 h2 => ?_, fun j l q h1 h2 => ?_, fun j q h => ?_⟩
  · have h : upd g.P p o q = some u := h
    by_cases z : q = p
    · subst z; rw [upd_same] at h; rw [← h]; exact hp
    · rw [upd_ne z] at h; exact R.hr.ph _ _ h
  · show upd g.P p o q = none
    have z : q ≠ p := fun z => hρ a (z ▸ h)
    rw [upd_ne z]; exact R.hr.cin a q h
  · obtain ⟨q, e1, e2⟩ := R.hr.cel a c h
    refine ⟨q, e1, ?_⟩
    cases c with
    | lst vs => exact e2
    | dct vs => exact e2
  · by_cases z : i = j
    · subst z
      rw [List.getElem?_set_self hi] at h1
      rw [List.getElem?_set_self (by rw [← R.len]; exact hi)] at h2
      cases h1; cases h2
      exact hr g' e ow_eq upd_same
    · rw [List.getElem?_set_ne z] at h1 h2
      have q := R.slot j r' x' h1 h2
      have eo : g'.ow j = g.ow j := ow_ne fun h => z h.symm
      cases r' with
      | none => exact eo.trans q
      | some r =>
        cases r with
        | v u => obtain ⟨q1, w, q2, q3⟩ := q; exact ⟨eo.trans q1, w, q2, q3⟩
        | ol vs => obtain ⟨w, xs, q1, q2, q3, q4⟩ := q; exact ⟨w, xs, q1, eo.trans q2, up _ _ q3, q4⟩
        | od vs => obtain ⟨w, xs, q1, q2, q3, q4⟩ := q; exact ⟨w, xs, q1, eo.trans q2, up _ _ q3, q4⟩
  · by_cases z : j = i
    · by_cases z2 : l = i
      · rw [z, z2]
      · rw [z, ow_eq] at h1; cases h1
        rw [ow_ne z2] at h2
        exact absurd h2 (nop l)
    · rw [ow_ne z] at h1
      by_cases z2 : l = i
      · rw [z2, ow_eq] at h2; cases h2
        exact absurd h1 (nop j)
      · rw [ow_ne z2] at h2
        exact R.apart j l q h1 h2
  · by_cases z : j = i
    · rw [z, ow_eq] at h; cases h
      exact ⟨by rw [List.length_set, z]; exact hi, hF, hB, by show (upd g.P p o p).isSome = true; rw [upd_same]; rfl⟩
    · rw [ow_ne z] at h
      obtain ⟨a1, a2, a3, a4⟩ := R.own j q h
      refine ⟨by rw [List.length_set]; exact a1, a2, a3, ?_⟩
      obtain ⟨u, hu⟩ := Option.isSome_iff_exists.mp a4
      show (g'.P q).isSome = true
      rw [up _ _ hu]; rfl
/-- a name gets a result -/
theorem Rel.setR (R : Rel K g s σ H) {i : Nat} {r : Rv} {x : V} (hi : i < s.env.length) (rr : RR K g H r x) : ∃ g', ExtS g g' ∧ Rel K g' { s with env := s.env.set i (some r) } (σ.set i (some x)) H := by
  cases r with
  | v u => exact ⟨_, (g.dis_ext [i]).toExtS, R.setV rr⟩
  | ol vs =>
    obtain ⟨p, xs, rfl, h1, h2, h3, h4⟩ := rr
    exact R.setO hi h1 h3 h4 fun g' e ho hP => ⟨p, xs, rfl, ho, hP, h2.ext e⟩
  | od vs =>
    obtain ⟨p, xs, rfl, h1, h2, h3, h4⟩ := rr
    exact R.setO hi h1 h3 h4 fun g' e ho hP => ⟨p, xs, rfl, ho, hP, h2.ext e⟩
/-- a name's own list, dict changes -/
theorem Rel.updOwn (R : Rel K g s σ H) {i : Nat} {p : Addr} {o' : HO} {r : Rv} {x : V} (hi : s.env[i]?.isSome) (hσ : σ[i]? = some (some x)) (ho : g.ow i = some p) (hnew : ∀ g' : Gh, ExtS g g' → g'.ow i = some p → g'.P p = some o' → RSlot K g' i (some r) (some x)) :
    ∃ g', ExtS g g' ∧ Rel K g' { s with env := s.env.set i (some r) } σ (upd H p o') := by
  obtain ⟨_, hF, hB, hPs⟩ := R.own i p ho
  let g' : Gh := { g with P := upd g.P p o' }
  have e : ExtS g g' := ⟨Same.refl _, rfl, fun _ _ h => h, fun _ h _ => h⟩
  have pne : ∀ {q}, q ≠ p → g'.P q = g.P q := fun z => upd_ne z
  have ρne : ∀ a, g.ρ a ≠ some p := fun a h => by have := R.hr.cin a p h; rw [this] at hPs; cases hPs
  have hlt : i < s.env.length := by
    obtain ⟨w, hw⟩ := Option.isSome_iff_exists.mp hi
    exact (List.getElem?_eq_some_iff.mp hw).1
  refine ⟨g', e, ⟨fun q u h => ?_, fun q u h => ?_, fun q u h => ?_, fun a q h => ?_, R.hr.inj, fun a c h => ?_, R.hr.dom⟩, by rw [List.length_set]; exact R.len, fun j r' x' h1 h2 => ?_, R.apart, fun j q h => ?_⟩
  · have z : q ≠ p := fun z => by have h : g.F q = some u := h; rw [z, hF] at h; cases h
    rw [pne z]; exact R.hr.fp _ _ h
  · have z : q ≠ p := fun z => by have h : g.B q = some u := h; rw [z, hB] at h; cases h
    rw [pne z]; exact R.hr.bp _ _ h
  · by_cases z : q = p
    · rw [z] at h ⊢
      have h : upd g.P p o' p = some u := h
      rw [upd_same] at h ⊢; exact h
    · rw [pne z] at h; rw [upd_ne z]; exact R.hr.ph _ _ h
  · have z : q ≠ p := fun z => ρne a (z ▸ h)
    rw [pne z]; exact R.hr.cin a q h
  · obtain ⟨q, e1, e2⟩ := R.hr.cel a c h
    have z : q ≠ p := fun z => ρne a (z ▸ e1)
    refine ⟨q, e1, ?_⟩
    rw [upd_ne z]
    cases c with
    | lst vs => exact e2
    | dct vs => exact e2
  · by_cases z : i = j
    · subst z
      rw [List.getElem?_set_self hlt] at h1
      rw [hσ] at h2
      cases h1; cases h2
      exact hnew g' e ho upd_same
    · rw [List.getElem?_set_ne z] at h1
      have q := R.slot j r' x' h1 h2
      have nz : ∀ w, g.ow j = some w → w ≠ p := fun w h k => z (R.apart i j p ho (k ▸ h))
      cases r' with
      | none => exact q
      | some r =>
        cases r with
        | v u => exact q
        | ol vs => obtain ⟨w, xs, q1, q2, q3, q4⟩ := q; exact ⟨w, xs, q1, q2, by rw [pne (nz w q2)]; exact q3, q4⟩
        | od vs => obtain ⟨w, xs, q1, q2, q3, q4⟩ := q; exact ⟨w, xs, q1, q2, by rw [pne (nz w q2)]; exact q3, q4⟩
  · obtain ⟨a1, a2, a3, a4⟩ := R.own j q h
    refine ⟨by rw [List.length_set]; exact a1, a2, a3, ?_⟩
    by_cases z : q = p
    · show (upd g.P p o' q).isSome = true; rw [z, upd_same]; rfl
    · rw [pne z]; exact a4
/-- a cell changes -/
theorem Rel.updCell (R : Rel K g s σ H) {a : Nat} {p : Addr} {o' : HO} {c' : Cell} (hρ : g.ρ a = some p) (hc : RC K g c' (some o')) : Rel K g { s with hp := s.hp.set a c' } σ (upd H p o') := by
  have hP := R.hr.cin a p hρ
  have ha := R.hr.dom a p hρ
  refine ⟨⟨R.hr.fp, R.hr.bp, fun q u h => ?_, R.hr.cin, R.hr.inj, fun b c h => ?_, fun b q h => by rw [List.length_set]; exact R.hr.dom b q h⟩, R.len, R.slot, R.apart, R.own⟩
  · have z : q ≠ p := fun z => by rw [z, hP] at h; cases h
    rw [upd_ne z]; exact R.hr.ph _ _ h
  · by_cases z : a = b
    · subst z
      rw [List.getElem?_set_self ha] at h
      cases h
      exact ⟨p, hρ, by rw [upd_same]; exact hc⟩
    · rw [List.getElem?_set_ne z] at h
      obtain ⟨q, e1, e2⟩ := R.hr.cel b c h
      have zz : q ≠ p := fun k => z (R.hr.inj a b p hρ (k ▸ e1))
      exact ⟨q, e1, by rw [upd_ne zz]; exact e2⟩
/-- a name's own list goes with a return -/
theorem Rel.giveR (R : Rel K g s σ H) {i : Nat} {r : Rv} {x : V} (h1 : s.env[i]? = some (some r)) (h2 : σ[i]? = some (some x)) : ∃ g', ExtS g g' ∧ Rel K g' { s with env := s.env.set i none } σ H ∧ RR K g' H r x := by
  have hlt : i < s.env.length := (List.getElem?_eq_some_iff.mp h1).1
  have q := R.slot i _ _ h1 h2
  have gen : ∀ (p : Addr), g.ow i = some p → ∃ g' : Gh, ExtS g g' ∧ Rel K g' { s with env := s.env.set i none } σ H ∧ g'.P p = none ∧ (∀ a, g'.ρ a ≠ some p) := fun p ho => by
    obtain ⟨_, hF, hB, hPs⟩ := R.own i p ho
    let g' : Gh := { g with P := fun q => if q = p then none else g.P q, ow := fun j => if j = i then none else g.ow j }
    have e : ExtS g g' := ⟨Same.refl _, rfl, fun _ _ h => h, fun _ h _ => h⟩
    have pne : ∀ {q}, q ≠ p → g'.P q = g.P q := fun z => if_neg z
    have pp : g'.P p = none := if_pos rfl
    have ρne : ∀ a, g.ρ a ≠ some p := fun a h => by have := R.hr.cin a p h; rw [this] at hPs; cases hPs
    have ow_ne : ∀ {j}, j ≠ i → g'.ow j = g.ow j := fun z => if_neg z
    have ow_eq : g'.ow i = none := if_pos rfl
    refine ⟨g', e, ⟨⟨fun q u h => ?_, fun q u h => ?_, fun q u h => ?_, fun a q h => ?_, R.hr.inj, fun a c h => ?_, R.hr.dom⟩, by rw [List.length_set]; exact R.len, fun j r' x' h1 h2 => ?_, fun j l q h1 h2 => ?_, fun j q h => ?_⟩, pp, ρne⟩
    · have z : q ≠ p := fun z => by have h : g.F q = some u := h; rw [z, hF] at h; cases h
      rw [pne z]; exact R.hr.fp _ _ h
    · have z : q ≠ p := fun z => by have h : g.B q = some u := h; rw [z, hB] at h; cases h
      rw [pne z]; exact R.hr.bp _ _ h
    · have z : q ≠ p := fun z => by rw [z, pp] at h; cases h
      rw [pne z] at h; exact R.hr.ph _ _ h
    · have z : q ≠ p := fun z => ρne a (z ▸ h)
      rw [pne z]; exact R.hr.cin a q h
    · obtain ⟨q, e1, e2⟩ := R.hr.cel a c h
      refine ⟨q, e1, ?_⟩
      cases c with
      | lst vs => exact e2
      | dct vs => exact e2
    · by_cases z : i = j
      · subst z
        rw [List.getElem?_set_self hlt] at h1
        cases h1
        exact ow_eq
      · rw [List.getElem?_set_ne z] at h1
        have q := R.slot j r' x' h1 h2
        have eo : g'.ow j = g.ow j := ow_ne fun h => z h.symm
        have nz : ∀ w, g.ow j = some w → w ≠ p := fun w h k => z (R.apart i j p ho (k ▸ h))
        cases r' with
        | none => exact eo.trans q
        | some r =>
          cases r with
          | v u => obtain ⟨q1, w, q2, q3⟩ := q; exact ⟨eo.trans q1, w, q2, q3⟩
          | ol vs => obtain ⟨w, xs, q1, q2, q3, q4⟩ := q; exact ⟨w, xs, q1, eo.trans q2, by rw [pne (nz w q2)]; exact q3, q4⟩
          | od vs => obtain ⟨w, xs, q1, q2, q3, q4⟩ := q; exact ⟨w, xs, q1, eo.trans q2, by rw [pne (nz w q2)]; exact q3, q4⟩
    · have n1 : j ≠ i := fun z => by rw [z, ow_eq] at h1; cases h1
      have n2 : l ≠ i := fun z => by rw [z, ow_eq] at h2; cases h2
      rw [ow_ne n1] at h1; rw [ow_ne n2] at h2
      exact R.apart j l q h1 h2
    · have n1 : j ≠ i := fun z => by rw [z, ow_eq] at h; cases h
      rw [ow_ne n1] at h
      obtain ⟨a1, a2, a3, a4⟩ := R.own j q h
      have z : q ≠ p := fun z => n1 (R.apart j i p (z ▸ h) ho)
      exact ⟨by rw [List.length_set]; exact a1, a2, a3, by rw [pne z]; exact a4⟩
  cases r with
  | v u =>
    obtain ⟨q1, w, q2, q3⟩ := q
    cases q2
    refine ⟨g, .refl g, ⟨R.hr, by rw [List.length_set]; exact R.len, fun j r' x' a1 a2 => ?_, R.apart, fun j p h => ?_⟩, q3⟩
    · by_cases z : i = j
      · subst z
        rw [List.getElem?_set_self hlt] at a1
        cases a1
        exact q1
      · rw [List.getElem?_set_ne z] at a1; exact R.slot j r' x' a1 a2
    · obtain ⟨a, b⟩ := R.own j p h
      exact ⟨by rw [List.length_set]; exact a, b⟩
  | ol vs =>
    obtain ⟨p, xs, q1, q2, q3, q4⟩ := q
    cases q1
    obtain ⟨g', e, R', hP, hρ⟩ := gen p q2
    exact ⟨g', e, R', p, xs, rfl, R.hr.ph _ _ q3, q4.ext e, hP, hρ⟩
  | od vs =>
    obtain ⟨p, xs, q1, q2, q3, q4⟩ := q
    cases q1
    obtain ⟨g', e, R', hP, hρ⟩ := gen p q2
    exact ⟨g', e, R', p, xs, rfl, R.hr.ph _ _ q3, q4.ext e, hP, hρ⟩
end
end VM

/-! VMStmt2: statements. -/
namespace VM
open PySem PySem.Spec PyProof.Rows L2
section
variable {X : Cx} {RX : RXT} {W : WX} {e e' e₃ : Expr} {pos pos' : Pos} {st : Stmt} {sts : List Stmt}
/-- a statement that reckons one result -/
theorem of_res {K : Fg} {m : M Rv} {k : Rv → M Fl} {D : Ends} {σ : L2.St} {H : Hp} {Q : VK} (h : tS K RX W (do let r ← m; k r) D σ H)
    (hk : ∀ g s r x H1, Rel K g s σ H1 → RR K g H1 r x → Sim (k r s) (fun f s' => ∀ g' σ' H', ExtS g g' → Rel K g' s' σ' H' → Fin_ K g' D σ' H' f) (ZxS K RX W g) → Q x H1) : tM K RX W m σ H Q := by
  obtain ⟨g, s, R, h⟩ := h
  rw [sim_bind] at h
  refine ⟨g, s, R, h.mono (fun r s1 q g1 H1 x e1 R1 rr => ?_) fun x s z => z.at σ⟩
  exact hk g1 s1 r x H1 R1 rr (q.mono (fun f s2 z g2 σ2 H2 e2 R2 => z g2 σ2 H2 (e1.toExtS.trans e2) R2) fun _ _ z => z.ext e1.toExtS)
theorem sim_ok {α : Type} {a : α} {s : St} {Q : α → St → Prop} {Z : Ex → St → Prop} : Sim (.ok a s) Q Z = Q a s := rfl
theorem sim_setS {i : Nat} {r : Option Rv} {s : St} {Q : Unit → St → Prop} {Z : Ex → St → Prop} (h : Sim (setS i r s) Q Z) : i < s.env.length ∧ Q () { s with env := s.env.set i r } := by
  unfold setS at h
  split at h
  · rename_i hi; exact ⟨hi, h⟩
  · exact h.elim
/-- name = e: the reading of the store -/
theorem set_tail {K : Fg} {i : Nat} {D : Ends} {σ : L2.St} {H : Hp} {m : M Rv} (h : tS K RX W (do let r ← m; bindT (.n i) r; pure .nx) D σ H) : tM K RX W m σ H (fun x H1 => gName i x σ H1 D.nx) :=
  of_res h fun g s r x H1 R rr q => by
    have q : Sim ((do setS i (some r); pure .nx : M Fl) s) _ _ := q
    rw [sim_bind] at q
    obtain ⟨hi, q⟩ := sim_setS q
    obtain ⟨g', e1, R'⟩ := R.setR hi rr
    exact q g' _ H1 e1 R'
theorem ps_set_ {i : Nat} {x : Str} {m : M Rv} (hN : X.N.Nodup) (hi : X.N[i]? = some x) (hx : X.env.scope.names.lookup x = some .local) (he : PE X e (tM X.K RX W m)) (hs : swapsWith e (some (.Name x pos')) pos.line X.env = pure false) :
    PS X (.Assign [.Name x pos'] e pos) (tS X.K RX W (do let r ← m; bindT (.n i) r; pure .nx)) :=
  (ps_set hN hi (.inl hx) he hs (.inr hx)).imp fun D σ H h => set_tail h
/-- name = [..] -/
theorem ps_setLc_ {i : Nat} {y : Str} {py : Pos} {elt tg iter : Expr} {ifs : List Expr} {scope : Scope} {own : List (Str × Nat)} {spos : Pos} {mi : M (List Vl)} {t : T} {mt : M Bool} {me : M Rv} (hc : X.calm = true) (hN : X.N.Nodup) (hy : X.N[i]? = some y) (hyl : X.env.scope.names.lookup y = some .local)
    (hsw : swapsWith (.ListComp elt [⟨tg, iter, ifs, 0⟩] scope pos) (some (.Name y py)) spos.line X.env = pure true) (hi : PI X tg iter (tI X.K RX W false mi)) (ok : BlkOk X.N X.env.scope scope own) (hT : ∀ j ∈ tnames t, j ∈ own.map (·.2))
    (hg : ∀ (s : Shared) (H : Hp) (C : Addr) (cl : List (Str × Addr)) (fp : List Addr), PG (X.blk s H scope (compEnvC scope cl C X.env) fp) tg (gB X.K t)) (ht : ∀ (s : Shared) (H : Hp) (C : Addr) (cl : List (Str × Addr)) (fp : List Addr), PTs (X.blk s H scope (compEnvC scope cl C X.env) fp) ifs (tT X.K RX W0 mt))
    (he : ∀ (s : Shared) (H : Hp) (C : Addr) (cl : List (Str × Addr)) (fp : List Addr), PE (X.blk s H scope (compEnvC scope cl C X.env) fp) elt (tM X.K RX W0 me)) (hs : ∀ x, foldedSetIterable iter X.env x = pure x) :
    PS X (.Assign [.Name y py] (.ListComp elt [⟨tg, iter, ifs, 0⟩] scope pos) spos) (tS X.K RX W (do
      let r ← (do
        let src ← mi
        let vs ← block (own.map (·.2)) (each (lcF (own.map (·.2)) t mt me) src)
        if vs.length ≤ top then pure (.ol vs) else bad)
      bindT (.n i) r
      pure .nx)) :=
  (ps_setLc hc hN hy hyl hsw hi ok hg ht he hs).imp fun D σ H h => lc_of hT (set_tail h)
theorem pe_lc_ {elt tg iter : Expr} {ifs : List Expr} {scope : Scope} {own : List (Str × Nat)} {mi : M (List Vl)} {t : T} {mt : M Bool} {me : M Rv} (hc : X.calm = true) (hN : X.N.Nodup) (hi : PI X tg iter (tI X.K RX W false mi)) (ok : BlkOk X.N X.env.scope scope own) (hT : ∀ j ∈ tnames t, j ∈ own.map (·.2))
    (hg : ∀ (s : Shared) (H : Hp) (C : Addr) (cl : List (Str × Addr)) (fp : List Addr), PG (X.blk s H scope (compEnvC scope cl C X.env) fp) tg (gB X.K t)) (ht : ∀ (s : Shared) (H : Hp) (C : Addr) (cl : List (Str × Addr)) (fp : List Addr), PTs (X.blk s H scope (compEnvC scope cl C X.env) fp) ifs (tT X.K RX W0 mt))
    (he : ∀ (s : Shared) (H : Hp) (C : Addr) (cl : List (Str × Addr)) (fp : List Addr), PE (X.blk s H scope (compEnvC scope cl C X.env) fp) elt (tM X.K RX W0 me)) (hs : ∀ x, foldedSetIterable iter X.env x = pure x) :
    PE X (.ListComp elt [⟨tg, iter, ifs, 0⟩] scope pos) (tM X.K RX W (do
        let src ← mi
        let vs ← block (own.map (·.2)) (each (lcF (own.map (·.2)) t mt me) src)
        if vs.length ≤ top then pure (.ol vs) else bad)) :=
  (pe_lc hc hN hi ok hg ht he hs).imp fun σ H Q h => lc_of hT h
theorem pts_nil_ : PTs X [] (tT X.K RX W (pure true)) := ⟨fun pins s σ H Q I ⟨g, t, R, h⟩ => pts_nil.run pins s σ H Q I (h g H (.refl g) R)⟩
/-- targets.. = e -/
theorem ps_tup_ {es : List Expr} {k : Nat} {ts : List T} {m : M Rv} {tp : Pos} (he : PE X e (tM X.K RX W m)) (hg : PG X (.Tuple es k tp) (gB X.K (.tup ts))) (hs : swapsWithSole [.Tuple es k tp] e pos.line X.env = pure false) (hw : swappedStores [.Tuple es k tp] e X.env = pure none) :
    PS X (.Assign [.Tuple es k tp] e pos) (tS X.K RX W (do let r ← m; bindT (.tup ts) r; pure .nx)) :=
  (ps_asg he hg hs hw).imp fun D σ H h => of_res h fun g s r x H1 R rr q => by
    rw [sim_bind] at q
    obtain ⟨g1, e1, R1, rv⟩ := RR.fz R rr
    have q : Sim (bindT (.tup ts) (.v r.fz) s) _ _ := q
    refine ⟨g1, s, r.fz, R1, rv, ?_⟩
    have noexc : ∀ x s', ¬ (bindT (.tup ts) (.v r.fz) s = .exc x s') := fun x s' => bindT_noexc _ _ _ x s'
    cases z : bindT (.tup ts) (.v r.fz) s with
    | ok a s' =>
      rw [z] at q
      exact fun g' σ' _ e2 R2 => q g' σ' H1 (e1.toExtS.trans e2.toExtS) R2
    | exc x s' => exact absurd z (noexc x s')
    | bad => rw [z] at q; exact q.elim
where
  bindT_noexc : ∀ (t : T) (r : Rv) (s : St) (x : Ex) (s' : St), bindT t r s ≠ .exc x s'
    | .n i, r, s, x, s', h => by
      have h : setS i (some r) s = .exc x s' := h
      unfold setS at h
      split at h <;> cases h
    | .tup ts, r, s, x, s', h => by
      have key : ∀ vs : List Vl, (if vs.length = ts.length then bindTs ts vs else bad : M Unit) s ≠ .exc x s' := fun vs h => by
        split at h
        · exact bindTs_noexc ts vs s x s' h
        · cases h
      cases z : r.fz with
      | tup vs => simp only [bindT, z] at h; exact key _ h
      | lst vs => simp only [bindT, z] at h; exact key _ h
      | _ => simp only [bindT, z] at h; cases h
  bindTs_noexc : ∀ (ts : List T) (vs : List Vl) (s : St) (x : Ex) (s' : St), bindTs ts vs s ≠ .exc x s'
    | [], [], s, x, s', h => by cases h
    | [], _ :: _, s, x, s', h => by cases h
    | _ :: _, [], s, x, s', h => by cases h
    | t :: ts, v :: vs, s, x, s', h => by
      have h : M.bind (bindT t (.v v)) (fun _ => bindTs ts vs) s = .exc x s' := h
      unfold M.bind at h
      cases z : bindT t (.v v) s with
      | ok a s1 => rw [z] at h; exact bindTs_noexc ts vs s1 x s' h
      | exc y s1 => exact bindT_noexc t (.v v) s y s1 z
      | bad => rw [z] at h; cases h
/-- a, b = x, y -/
theorem ps_par_ {i j : Nat} {x y : Str} {px py pt p2 : Pos} {kt k2 : Nat} {ms : M (List Vl)} (hc : X.calm = true) (hN : X.N.Nodup) (hi : X.N[i]? = some x) (hj : X.N[j]? = some y) (hij : i ≠ j)
    (hx : X.env.scope.names.lookup x = some .local) (hy : X.env.scope.names.lookup y = some .local) (hl : ∀ s vs s', ms s = .ok vs s' → vs.length = 2) (ha : PA X [e, e'] (tAF X.K RX W ms)) (hw : swappedStores [.Tuple [.Name x px, .Name y py] kt pt] (.Tuple [e, e'] k2 p2) X.env = pure (some [x, y])) :
    PS X (.Assign [.Tuple [.Name x px, .Name y py] kt pt] (.Tuple [e, e'] k2 p2) pos) (tS X.K RX W (do
      let r ← (do let vs ← ms; if vs.length ≤ top then pure (.v (.tup vs)) else bad)
      bindT (.tup [.n i, .n j]) r
      pure .nx)) := by
  refine (ps_par hc hN hi hj hij hx hy ha hw).imp fun D σ H ⟨g, s, R, h⟩ => ?_
  rw [sim_bind, sim_bind] at h
  refine ⟨g, s, R, ?_⟩
  cases em : ms s with
  | bad => rw [em] at h; exact h.elim
  | exc x s1 => rw [em] at h; exact h.at σ
  | ok vs s1 =>
    rw [em] at h
    have hlen := hl s vs s1 em
    obtain ⟨u, w, rfl⟩ : ∃ u w, vs = [u, w] := by
      match vs, hlen with
      | [u, w], _ => exact ⟨u, w, rfl⟩
    intro g1 H1 xs e1 R1 b1
    cases b1 with
    | cons r1 b1 =>
      cases b1 with
      | cons r2 b1 =>
        cases b1
        rw [sim_ok, if_pos (show [u, w].length ≤ top from (by decide : 2 ≤ top)), sim_pure, sim_bind] at h
        have h : Sim ((do setS i (some (.v u)); (do setS j (some (.v w)); pure ()) : M Unit) s1) _ _ := h
        rw [sim_bind] at h
        obtain ⟨h1, h⟩ := sim_setS h
        rw [sim_bind] at h
        obtain ⟨h2, h⟩ := sim_setS h
        have R2 := R1.setV (i := i) r1
        have R3 := R2.setV (i := j) (r2.ext (g1.dis_ext [i]).toExtS)
        exact ⟨_, _, rfl, h _ _ H1 ((e1.trans (g1.dis_ext [i])).trans ((g1.dis [i]).dis_ext [j])).toExtS R3⟩
/-! ### o[i] = e -/
def rSetA : TSet := fun o i v H Q => rSetL o i v H Q ∨ rSetD o i v H Q
theorem set_any (hu : X.A.units + 1 < cLine) : PSet X rSetA := by
  intro pins s σ H o i v ov iv u Q I ro ri rv h
  rcases h with h | h
  · exact set_list pins s σ H o i v ov iv u Q I ro ri rv h
  · exact set_dict hu pins s σ H o i v ov iv u Q I ro ri rv h
theorem RKs.len {K : Fg} {F : Hp} {ρ : Nat → Option Addr} {us : List (Sum Int Str × Vl)} {xs : List (Key × V)} (r : RKs K F ρ us xs) : us.length = xs.length := r.length
/-- a cell is written -/
theorem put_ref {K : Fg} {g : Gh} {s : St} {σ : L2.St} {H : Hp} {a : Nat} {k u : Vl} {x y z : V} {D : Ends} (R : Rel K g s σ H) (rx : RB K g (.ref a) x) (ry : RB K g k y) (rz : RV K g.F g.ρ u z)
    (h : Sim (putRef a k u s) (fun f s' => ∀ g' σ' H', ExtS g g' → Rel K g' s' σ' H' → Fin_ K g' D σ' H' f) (ZxS K RX W g)) : rSetA x y z H fun H3 => D.nx σ H3 := by
  rcases rx with rx | ⟨_, _, _, q, _⟩ | ⟨_, _, _, q, _⟩
  · cases rx with
    | @ref _ p hρ =>
      unfold putRef at h
      cases hc : s.hp[a]? with
      | none => rw [hc] at h; exact h.elim
      | some c =>
        obtain ⟨q, e1, rc⟩ := R.hr.cel a c hc
        rw [hρ] at e1; cases e1
        cases c with
        | lst vs =>
          rw [hc] at h
          obtain ⟨xs, hH, rv⟩ := rc
          cases k with
          | int k =>
            have zz := ry.flat_ rfl
            cases zz
            simp only [] at h
            cases hj : place vs.length k with
            | none => rw [hj] at h; exact h.elim
            | some j =>
              rw [hj] at h
              refine .inl ⟨p, xs, k, j, rfl, rfl, hH, ?_, h g σ _ (.refl g) (R.updCell hρ ⟨_, rfl, rv.set rz j⟩)⟩
              rw [← rv.length, ← place_ix]; exact hj
          | _ => exact h.elim
        | dct kvs =>
          rw [hc] at h
          obtain ⟨xs, hH, rv⟩ := rc
          have h : Sim ((match keyOf k with
            | some k => if kvs.length < top then .ok .nx { s with hp := s.hp.set a (.dct (dput k u kvs)) } else .bad
            | none => .bad : VM.R Fl)) _ _ := h
          cases hk : keyOf k with
          | none => rw [hk] at h; exact h.elim
          | some kk =>
            rw [hk] at h
            simp only [] at h
            split at h
            · rename_i hl
              have ey := ry.key hk
              subst ey
              refine .inr ⟨p, _, rfl, DPut.k hH (by rw [← rv.length, ← top_line]; exact hl), h g σ _ (.refl g) (R.updCell hρ ⟨_, rfl, rv.put rz⟩)⟩
            · exact h.elim
  · cases q
  · cases q
/-- a name's own list, dict is written -/
theorem put_own {K : Fg} {g : Gh} {s : St} {σ : L2.St} {H : Hp} {i : Nat} {k u : Vl} {x y z : V} {D : Ends} (R : Rel K g s σ H) (hx : σ[i]? = some (some x)) (ry : RB K g k y) (rz : RV K g.F g.ρ u z)
    (h : Sim (putOwn i k u s) (fun f s' => ∀ g' σ' H', ExtS g g' → Rel K g' s' σ' H' → Fin_ K g' D σ' H' f) (ZxS K RX W g)) : rSetA x y z H fun H3 => D.nx σ H3 := by
  unfold putOwn at h
  cases hs : s.env[i]? with
  | none => rw [hs] at h; exact h.elim
  | some r =>
    rw [hs] at h
    cases r with
    | none => exact h.elim
    | some r =>
      have q := R.slot i _ _ hs hx
      cases r with
      | v v =>
        cases v with
        | ref a =>
          obtain ⟨_, w, e1, rv⟩ := q
          cases e1
          exact put_ref R (.inl rv) ry rz h
        | _ => exact h.elim
      | ol vs =>
        obtain ⟨p, xs, e1, ho, hP, rv⟩ := q
        cases e1
        cases k with
        | int k =>
          have zz := ry.flat_ rfl
          cases zz
          simp only [] at h
          cases hj : place vs.length k with
          | none => rw [hj] at h; exact h.elim
          | some j =>
            rw [hj] at h
            obtain ⟨g', e1, R'⟩ := R.updOwn (r := .ol (vs.set j u)) (o' := .lst (xs.set j z)) (by rw [hs]; rfl) hx ho fun g' e ho hP => ⟨p, _, rfl, ho, hP, (rv.set rz j).ext e⟩
            refine .inl ⟨p, xs, k, j, rfl, rfl, R.hr.ph _ _ hP, ?_, h g' σ _ e1 R'⟩
            rw [← rv.length, ← place_ix]; exact hj
        | _ => exact h.elim
      | od kvs =>
        obtain ⟨p, xs, e1, ho, hP, rv⟩ := q
        cases e1
        have h : Sim ((match keyOf k with
          | some k => if kvs.length < top then .ok .nx { s with env := s.env.set i (some (.od (dput k u kvs))) } else .bad
          | none => .bad : VM.R Fl)) _ _ := h
        cases hk : keyOf k with
        | none => rw [hk] at h; exact h.elim
        | some kk =>
          rw [hk] at h
          simp only [] at h
          split at h
          · rename_i hl
            have ey := ry.key hk
            subst ey
            obtain ⟨g', e1, R'⟩ := R.updOwn (r := .od (dput kk u kvs)) (o' := .dK (putK xs kk z)) (by rw [hs]; rfl) hx ho fun g' e ho hP => ⟨p, _, rfl, ho, hP, (rv.put rz).ext e⟩
            exact .inr ⟨p, _, rfl, DPut.k (R.hr.ph _ _ hP) (by rw [← rv.length, ← top_line]; exact hl), h g' σ _ e1 R'⟩
          · exact h.elim
theorem ps_put_ {ei : Expr} {eo : Expr} {m : M Rv} {mo mi : M Vl} {tp : Pos} (hu : X.A.units + 1 < cLine) (he : PE X e (tM X.K RX W m)) (ho : PE X eo (tB X.K RX W mo)) (hi : PE X ei (tB X.K RX W mi)) (hp : PlainIx ei) (hs : swapsWithSole [.Subscript eo ei tp] e pos.line X.env = pure false)
    (ha : ∀ v, assign (.Subscript eo ei tp) X.env v = (do
      let ov ← holding [v] (eval eo X.env)
      let iv ← holding [v, ov] (eval ei X.env)
      standAt tp
      holding [v, ov, iv] (setItem ov iv v)
      release [v, ov, iv] [])) :
    PS X (.Assign [.Subscript eo ei tp] e pos) (tS X.K RX W (do
      let r ← m
      let x ← mo
      let k ← mi
      match x with
      | .ref a => putRef a k r.fz
      | _ => bad)) :=
  (ps_asg he (pg_sub ho hi (set_any hu) ha) hs (by cases e <;> rfl) rfl).imp fun D σ H h => of_res h fun g s r z H1 R rr q => by
    obtain ⟨g1, e1, R1, rz⟩ := RR.fz R rr
    rw [sim_bind] at q
    refine ⟨g1, s, R1, q.mono (fun u s2 q g2 H2 x e2 R2 b2 => ?_) fun _ _ z => (z.ext e1.toExtS).at σ⟩
    rw [sim_bind] at q
    refine ⟨g2, s2, R2, q.mono (fun k s3 q g3 H3 y e3 R3 b3 => ?_) fun _ _ z => (z.ext (e1.trans e2).toExtS).at σ⟩
    cases u with
    | ref a => exact put_ref R3 (b2.ext e3) b3 ((rz.ext e2.toExtS).ext e3.toExtS) (q.mono (fun f s' z g' σ' H' e4 R4 => z g' σ' H' (((e1.trans e2).trans e3).toExtS.trans e4) R4) fun _ _ z => z.ext ((e1.trans e2).trans e3).toExtS)
    | _ => exact q.elim
theorem ps_putV_ {ei : Expr} {i : Nat} {x : Str} {xp : Pos} {m : M Rv} {mi : M Vl} {tp : Pos} (hu : X.A.units + 1 < cLine) (he : PE X e (tM X.K RX W m)) (ho : PE X (.Name x xp) (tVar i)) (hi : PE X ei (tB X.K RX W mi)) (hs : swapsWithSole [.Subscript (.Name x xp) ei tp] e pos.line X.env = pure false)
    (ha : ∀ v, assign (.Subscript (.Name x xp) ei tp) X.env v = (do
      let ov ← holding [v] (eval (.Name x xp) X.env)
      let iv ← holding [v, ov] (eval ei X.env)
      standAt tp
      holding [v, ov, iv] (setItem ov iv v)
      release [v, ov, iv] [])) :
    PS X (.Assign [.Subscript (.Name x xp) ei tp] e pos) (tS X.K RX W (do
      let r ← m
      let _ ← peek i
      let k ← mi
      putOwn i k r.fz)) :=
  (ps_asg he (pg_sub ho hi (set_any hu) ha) hs (by cases e <;> rfl) rfl).imp fun D σ H h => of_res h fun g s r z H1 R rr q => by
    obtain ⟨g1, e1, R1, rz⟩ := RR.fz R rr
    rw [sim_bind] at q
    unfold peek at q
    cases c : s.env[i]? with
    | none => rw [c] at q; exact q.elim
    | some r' =>
      cases r' with
      | none => rw [c] at q; exact q.elim
      | some r' =>
        rw [c] at q
        obtain ⟨y, hy, _⟩ := load_rel R1 c
        refine ⟨y, hy, ?_⟩
        have q : Sim ((do let k ← mi; putOwn i k r.fz : M Fl) s) _ _ := q
        rw [sim_bind] at q
        refine ⟨g1, s, R1, q.mono (fun k s3 q g3 H3 w e3 R3 b3 => ?_) fun _ _ z => (z.ext e1.toExtS).at σ⟩
        exact put_own R3 hy b3 (rz.ext e3.toExtS) (q.mono (fun f s' z g' σ' H' e4 R4 => z g' σ' H' ((e1.trans e3).toExtS.trans e4) R4) fun _ _ z => z.ext (e1.trans e3).toExtS)
/-! ### the others -/
theorem app_own {K : Fg} {g : Gh} {s : St} {σ : L2.St} {H : Hp} {i : Nat} {u : Vl} {x z : V} {D : Ends} (R : Rel K g s σ H) (hx : σ[i]? = some (some x)) (rz : RV K g.F g.ρ u z)
    (h : Sim (appAt i u s) (fun f s' => ∀ g' σ' H', ExtS g g' → Rel K g' s' σ' H' → Fin_ K g' D σ' H' f) (ZxS K RX W g)) : rAppend x [z] H fun _ H3 => D.nx σ H3 := by
  unfold appAt at h
  cases hs : s.env[i]? with
  | none => rw [hs] at h; exact h.elim
  | some r =>
    rw [hs] at h
    cases r with
    | none => exact h.elim
    | some r =>
      have q := R.slot i _ _ hs hx
      cases r with
      | v v =>
        cases v with
        | ref a =>
          obtain ⟨_, w, e1, rv⟩ := q
          cases e1
          cases rv with
          | @ref _ p hρ =>
            simp only [] at h
            cases hc : s.hp[a]? with
            | none => rw [hc] at h; exact h.elim
            | some c =>
              obtain ⟨q, e1, rc⟩ := R.hr.cel a c hc
              rw [hρ] at e1; cases e1
              rw [hc] at h
              cases c with
              | dct _ => exact h.elim
              | lst vs =>
                obtain ⟨xs, hH, rv⟩ := rc
                simp only [] at h
                split at h
                · rename_i hl
                  exact ⟨p, xs, z, rfl, rfl, hH, by rw [← rv.length, ← top_line]; exact hl, h g σ _ (.refl g) (R.updCell hρ ⟨_, rfl, rv.append (.cons rz .nil)⟩)⟩
                · exact h.elim
        | _ => exact h.elim
      | od kvs => exact h.elim
      | ol vs =>
        obtain ⟨p, xs, e1, ho, hP, rv⟩ := q
        cases e1
        simp only [] at h
        split at h
        · rename_i hl
          obtain ⟨g', e1, R'⟩ := R.updOwn (r := .ol (vs ++ [u])) (o' := .lst (xs ++ [z])) (by rw [hs]; rfl) hx ho fun g' e ho hP => ⟨p, _, rfl, ho, hP, (rv.append (.cons rz .nil)).ext e⟩
          exact ⟨p, xs, z, rfl, rfl, R.hr.ph _ _ hP, by rw [← rv.length, ← top_line]; exact hl, h g' σ _ e1 R'⟩
        · exact h.elim
theorem ps_app_ {i : Nat} {x : Str} {xp ap cp : Pos} {m : M Rv} (ho : PE X (.Name x xp) (tVar i)) (he : PE X e (tM X.K RX W m)) (hst : star1 e = false) (hline : (ap.endLine == cp.line) = true) :
    PS X (.Expr (.Call (.Attribute (.Name x xp) ("append" : Str) ap) [e] [] cp) pos) (tS X.K RX W (do
      peekL i
      let r ← m
      appAt i r.fz)) := by
  refine (ps_expr (pe_bm PySem.F.plainAttrs_list PySem.F.slot_list_append PySem.F.type_list_append mt_append ho (pa_cons he pa_nil (star_of hst)) rfl (by rw [star_of hst]; rfl) hline (star_of hst) rfl) rfl).imp fun D σ H ⟨g, s, R, q⟩ => ?_
  rw [sim_bind] at q
  have key : ∃ r y, s.env[i]? = some (some r) ∧ σ[i]? = some (some y) ∧ tyV X.K "list" y H ∧ peekL i s = .ok () s := by
    unfold peekL at q ⊢
    cases c : s.env[i]? with
    | none => rw [c] at q; exact q.elim
    | some r =>
      rw [c] at q
      cases r with
      | none => exact q.elim
      | some r =>
        obtain ⟨y, hy, rb, _⟩ := load_rel R c
        cases r with
        | ol vs =>
          obtain ⟨p, xs, rfl, h1, h2⟩ := R.hr.lits_ (vs := vs) rb rfl
          exact ⟨_, _, rfl, hy, .inl ⟨rfl, xs, h1⟩, rfl⟩
        | od vs => exact q.elim
        | v v =>
          cases v with
          | ref a =>
            simp only [] at q ⊢
            cases d : s.hp[a]? with
            | none => rw [d] at q; exact q.elim
            | some cc =>
              cases cc with
              | dct _ => rw [d] at q; exact q.elim
              | lst vs =>
                obtain ⟨p, xs, rfl, h1, h2⟩ := R.hr.lits_ (vs := vs) rb (by simp [VM.lits, Rv.fz, d])
                exact ⟨_, _, rfl, hy, .inl ⟨rfl, xs, h1⟩, rfl⟩
          | _ => exact q.elim
  obtain ⟨_, y, _, hy, ty, ok⟩ := key
  rw [ok, sim_ok, sim_bind] at q
  refine ⟨y, hy, ty, g, s, R, q.mono (fun r s1 q g1 H1 z e1 R1 rr => ?_) fun _ _ z => z.at σ⟩
  obtain ⟨g2, e2, R2, rz⟩ := RR.fz R1 rr
  have q := q.mono (fun f s' z g' σ' H' (e4 : ExtS g2 g') R4 => z g' σ' H' ((e1.trans e2).toExtS.trans e4) R4) fun _ _ z => z.ext (e1.trans e2).toExtS
  exact app_own R2 hy rz q
theorem ps_expr_ {m : M Rv} (he : PE X e (tM X.K RX W m)) (hs : swapsWith e none pos.line X.env = pure false) : PS X (.Expr e pos) (tS X.K RX W (do let _ ← m; pure .nx)) :=
  (ps_expr he hs).imp fun D σ H h => of_res h fun g s r x H1 R rr q => q g σ H1 (.refl g) R
theorem ps_if_ {m : M Bool} {a b : M Fl} {sa sb : List Stmt} (hc : PT X e (tT X.K RX W m)) (ha : PSs X sa (tS X.K RX W a)) (hb : PSs X sb (tS X.K RX W b)) : PS X (.If e sa sb pos) (tS X.K RX W (do let r ← m; if r then a else b)) :=
  (ps_if hc ha hb).imp fun D σ H ⟨g, s, R, h⟩ => by
    rw [sim_bind] at h
    refine ⟨g, s, R, h.mono (fun c s1 q g1 H1 e1 R1 => ?_) fun _ _ z => z.at σ⟩
    have q := q.mono (fun f s' z g' σ' H' (e2 : ExtS g1 g') R2 => z g' σ' H' (e1.toExtS.trans e2) R2) fun _ _ z => z.ext e1.toExtS
    cases c with
    | true => exact iteT ⟨g1, s1, R1, q⟩
    | false => exact iteF ⟨g1, s1, R1, q⟩
theorem ps_ret_ {m : M Rv} (he : PE X e (tM X.K RX W m)) : PS X (.Return (some e) pos) (tS X.K RX W (do let r ← m; pure (.rt r))) :=
  (ps_ret he).imp fun D σ H h => of_res h fun g s r x H1 R rr q => q g σ H1 (.refl g) R x rr
theorem ps_retV_ {i : Nat} {x : Str} {xp : Pos} (ho : PE X (.Name x xp) (tVar i)) : PS X (.Return (some (.Name x xp)) pos) (tS X.K RX W (do let r ← getS i; setS i none; pure (.rt r))) :=
  (ps_ret ho).imp fun D σ H ⟨g, s, R, h⟩ => by
    rw [sim_bind] at h
    unfold getS at h
    cases c : s.env[i]? with
    | none => rw [c] at h; exact h.elim
    | some r' =>
      cases r' with
      | none => rw [c] at h; exact h.elim
      | some r =>
        rw [c] at h
        obtain ⟨y, hy, _⟩ := load_rel R c
        obtain ⟨g', e1, R1, rr⟩ := R.giveR c hy
        have h : Sim ((do setS i none; pure (.rt r) : M Fl) s) _ _ := h
        rw [sim_bind] at h
        obtain ⟨_, h⟩ := sim_setS h
        exact ⟨y, hy, h g' σ H e1 R1 y rr⟩
theorem ps_retN_ : PS X (.Return none pos) (tS X.K RX W (pure (.rt (.v .non)))) := ps_retN.imp fun D σ H ⟨g, s, R, h⟩ => h g σ H (.refl g) R .non .non
theorem ps_pass_ : PS X (.Pass pos) (tS X.K RX W (pure .nx)) := ps_pass.imp fun D σ H ⟨g, s, R, h⟩ => h g σ H (.refl g) R
theorem ps_doc_ {x : Str} {j : Nat} : PS X (.Expr (.Constant (.str x) j pos) pos') (tS X.K RX W (pure .nx)) := ps_doc.imp fun D σ H ⟨g, s, R, h⟩ => h g σ H (.refl g) R
theorem ps_brk_ : PS X (.Break pos) (tS X.K RX W (pure .bk)) := ps_break.imp fun D σ H ⟨g, s, R, h⟩ => h g σ H (.refl g) R
theorem ps_cont_ : PS X (.Continue pos) (tS X.K RX W (pure .ct)) := ps_continue.imp fun D σ H ⟨g, s, R, h⟩ => h g σ H (.refl g) R
theorem pss_nil_ : PSs X [] (tS X.K RX W (pure .nx)) := pss_nil.imp fun D σ H ⟨g, s, R, h⟩ => h g σ H (.refl g) R
theorem pss_cons_ {a b : M Fl} (h1 : PS X st (tS X.K RX W a)) (h2 : PSs X sts (tS X.K RX W b)) : PSs X (st :: sts) (tS X.K RX W (do
    let f ← a
    match f with
    | .nx => b
    | f => pure f)) :=
  (pss_cons h1 h2).imp fun D σ H ⟨g, s, R, h⟩ => by
    rw [sim_bind] at h
    refine ⟨g, s, R, h.mono (fun f s1 q g1 σ1 H1 e1 R1 => ?_) fun _ _ z => z⟩
    cases f with
    | nx => exact ⟨g1, s1, R1, q.mono (fun f s' z g' σ' H' (e2 : ExtS g1 g') R2 => z g' σ' H' (e1.trans e2) R2) fun _ _ z => z.ext e1⟩
    | rt r => exact q g1 σ1 H1 e1 R1
    | bk => exact q g1 σ1 H1 e1 R1
    | ct => exact q g1 σ1 H1 e1 R1
end
end VM

/-! VMStmt3: loops. -/
namespace VM
open PySem PySem.Spec PyProof.Rows L2
section
variable {X : Cx} {RX : RXT} {W : WX} {e tg iter : Expr} {pos pos' : Pos} {st : Stmt} {sts : List Stmt}
theorem sim_noexc {α : Type} {m : M α} {s : St} {Q : α → St → Prop} {Z : Ex → St → Prop} (hn : ∀ x s', m s ≠ .exc x s') (h : Sim (m s) Q Z) : Sim (m s) Q (fun _ _ => False) := by
  cases z : m s with
  | ok a s' => rw [z] at h; exact h
  | exc x s' => exact absurd z (hn x s')
  | bad => rw [z] at h; exact h
theorem ps_for_ {mi : M (List Vl)} {t : T} {mb : M Fl} (hp : PassesOwn (model X.prog X.w) X.A X.env X.xe) (hc : X.calm = true) (hi : PI X tg iter (tI X.K RX W true mi)) (hg : PG X tg (gB X.K t)) (hb : PSs X sts (tS X.K RX W mb)) (hs : ∀ x, foldedSetIterable iter X.env x = pure x) :
    PS X (.For tg iter sts [] pos) (tS X.K RX W (do
      let src ← mi
      walk (fun v => do bindT t (.v v); mb) src)) :=
  (ps_for hp hc hi hg hb hs).imp fun D σ H ⟨g, s, R, h⟩ => by
    rw [sim_bind] at h
    refine ⟨g, s, R, h.mono (fun src s1 q g1 H1 J e1 R1 fed => ?_) fun _ _ z => z.at σ⟩
    have q : Sim (walk (fun v => do bindT t (.v v); mb) src s1) (fun f s' => ∀ g' σ' H', ExtS g1 g' → Rel X.K g' s' σ' H' → Fin_ X.K g' D σ' H' f) (ZxS X.K RX W g1) :=
      q.mono (fun f s' z g' σ' H' e2 R2 => z g' σ' H' (e1.toExtS.trans e2) R2) fun _ _ z => z.ext e1.toExtS
    refine ⟨fun i m σ H => m = src.length - i ∧ i ≤ src.length ∧ ∃ g' s', ExtS g1 g' ∧ Rel X.K g' s' σ H ∧ Sim (walk (fun v => do bindT t (.v v); mb) (src.drop i) s') (fun f s' => ∀ g' σ' H', ExtS g1 g' → Rel X.K g' s' σ' H' → Fin_ X.K g' D σ' H' f) (ZxS X.K RX W g1),
      ⟨src.length, rfl, Nat.zero_le _, g1, s1, .refl g1, R1, q⟩, ?_⟩
    rintro i m σ2 H2 ⟨rfl, hi, g2, s2, e2, R2, sim⟩
    have hf := fed g2 s2 σ2 H2 (EX.ofS e2) R2 i
    by_cases hlt : i < src.length
    · have hv : src[i]? = some src[i] := List.getElem?_eq_getElem hlt
      have hdrop : src.drop i = src[i] :: src.drop (i + 1) := List.drop_eq_getElem_cons hlt
      generalize src[i] = v at hv hdrop
      obtain ⟨go, yld⟩ := hf.2 v hv
      rw [hdrop] at sim
      refine .inr ⟨go, fun σ' H' => ∃ m', m' < src.length - i ∧ (m' = src.length - (i + 1) ∧ i + 1 ≤ src.length ∧ ∃ g' s', ExtS g1 g' ∧ Rel X.K g' s' σ' H' ∧ Sim (walk (fun v => do bindT t (.v v); mb) (src.drop (i + 1)) s') (fun f s' => ∀ g' σ' H', ExtS g1 g' → Rel X.K g' s' σ' H' → Fin_ X.K g' D σ' H' f) (ZxS X.K RX W g1)),
        fun σ' H' z => z, fun x H3 hy => ?_⟩
      obtain ⟨g3, e3, R3, r3⟩ := yld x H3 hy
      have sim : Sim ((do
        let r ← (do bindT t (.v v); mb : M Fl)
        (match r with
        | .nx => walk (fun v => do bindT t (.v v); mb) (src.drop (i + 1))
        | .ct => walk (fun v => do bindT t (.v v); mb) (src.drop (i + 1))
        | .bk => pure .nx
        | .rt r => pure (.rt r) : M Fl) : M Fl) s2) _ _ := sim
      rw [sim_bind, sim_bind] at sim
      have sim := sim_noexc (fun x s' => ps_tup_.bindT_noexc t _ _ x s') sim
      refine ⟨g3, s2, v, R3, r3, sim.mono (fun _ s4 q4 g4 σ4 a4 e4 R4 => ?_) fun _ _ z => z⟩
      have e24 := (e2.trans e3.toExtS).trans e4.toExtS
      refine ⟨g4, s4, R4, q4.mono (fun f s5 q5 g5 σ5 H5 e5 R5 => ?_) fun _ _ z => z.ext e24⟩
      have e25 := e24.trans e5
      cases f with
      | nx => exact ⟨_, by omega, rfl, hlt, g5, s5, e25, R5, q5⟩
      | ct => exact ⟨_, by omega, rfl, hlt, g5, s5, e25, R5, q5⟩
      | bk => exact q5 g5 σ5 H5 e25 R5
      | rt r => exact q5 g5 σ5 H5 e25 R5
    · have hi' : i = src.length := by omega
      subst hi'
      rw [List.drop_length] at sim
      exact .inl ⟨hf.1 (Nat.le_refl _), sim g2 σ2 H2 e2 R2⟩
theorem ps_while_ {t : M Bool} {mb : M Fl} {n : Nat} (hp : PassesOwn (model X.prog X.w) X.A X.env X.xe) (hc : PT X e (tT X.K RX W t)) (hb : PSs X sts (tS X.K RX W mb)) : PS X (.While e sts [] pos) (tS X.K RX W (whl t mb n)) :=
  (ps_while hp hc hb).imp fun D σ H ⟨g, s, R, h⟩ => by
    refine ⟨fun m σ H => ∃ g' s', ExtS g g' ∧ Rel X.K g' s' σ H ∧ Sim (whl t mb m s') (fun f s' => ∀ g' σ' H', ExtS g g' → Rel X.K g' s' σ' H' → Fin_ X.K g' D σ' H' f) (ZxS X.K RX W g), ⟨n, g, s, .refl g, R, h⟩, ?_⟩
    rintro m σ2 H2 ⟨g2, s2, e2, R2, sim⟩
    cases m with
    | zero => exact sim.elim
    | succ m =>
      have sim : Sim ((do
        let r ← t
        if r then do
          let f ← mb
          (match f with
          | .nx => whl t mb m
          | .ct => whl t mb m
          | .bk => pure .nx
          | .rt r => pure (.rt r) : M Fl)
        else pure .nx : M Fl) s2) _ _ := sim
      rw [sim_bind] at sim
      refine ⟨g2, s2, R2, sim.mono (fun b s3 q g3 H3 e3 R3 => ?_) fun _ _ z => (z.ext e2).at σ2⟩
      have e23 := e2.trans e3.toExtS
      cases b with
      | false => exact iteF (q g3 σ2 H3 e23 R3)
      | true =>
        refine iteT ⟨fun σ' H' => ∃ g' s', ExtS g g' ∧ Rel X.K g' s' σ' H' ∧ Sim (whl t mb m s') (fun f s' => ∀ g' σ' H', ExtS g g' → Rel X.K g' s' σ' H' → Fin_ X.K g' D σ' H' f) (ZxS X.K RX W g), fun σ' H' z => ⟨m, Nat.lt_succ_self _, z⟩, ?_⟩
        have q : Sim ((do
          let f ← mb
          (match f with
          | .nx => whl t mb m
          | .ct => whl t mb m
          | .bk => pure .nx
          | .rt r => pure (.rt r) : M Fl) : M Fl) s3) _ _ := q
        rw [sim_bind] at q
        refine ⟨g3, s3, R3, q.mono (fun f s4 q4 g4 σ4 H4 e4 R4 => ?_) fun _ _ z => z.ext e23⟩
        have e24 := e23.trans e4
        cases f with
        | nx => exact ⟨g4, s4, e24, R4, q4⟩
        | ct => exact ⟨g4, s4, e24, R4, q4⟩
        | bk => exact q4 g4 σ4 H4 e24 R4
        | rt r => exact q4 g4 σ4 H4 e24 R4
end
end VM

/-! VMDict: {k: v for t in it}. -/
namespace VM
open PySem PySem.Spec PyProof.Rows L2
abbrev Kvs := List (Sum Int Str × Vl)
def dfold (ps : Kvs) (d : Kvs) : Kvs := ps.foldl (fun d p => dput p.1 p.2 d) d
/-- a turn of a dict comprehension -/
def dcF (own : List Nat) (t : T) (mk : M Vl) (mv : M Rv) (x : Vl) : M (Option (Sum Int Str × Vl)) := do
  wipeM own
  bindT t (.v x)
  let kv ← mk
  let r ← mv
  match keyOf kv with
  | some j => pure (some (j, r.fz))
  | none => bad
theorem dput_len (k : Sum Int Str) (v : Vl) (d : Kvs) : (dput k v d).length ≤ d.length + 1 := by
  unfold dput
  split
  · rw [List.length_map]; omega
  · rw [List.length_append]; exact Nat.le_refl _
theorem dfold_len : ∀ (ps d : Kvs), (dfold ps d).length ≤ d.length + ps.length
  | [], d => Nat.le_refl _
  | p :: ps, d => by
    have h1 := dfold_len ps (dput p.1 p.2 d)
    have h2 := dput_len p.1 p.2 d
    show (dfold ps (dput p.1 p.2 d)).length ≤ _
    rw [List.length_cons]
    omega
theorem dfold_app (ps qs d : Kvs) : dfold (ps ++ qs) d = dfold qs (dfold ps d) := by
  unfold dfold
  rw [List.foldl_append]
section
variable {X : Cx} {RX : RXT} {W : WX} {own : List (Str × Nat)} {mi : M (List Vl)} {t : T} {mk : M Vl} {mv : M Rv}
theorem dc_of {σ : L2.St} {H : Hp} {Q : VK} (hT : ∀ j ∈ tnames t, j ∈ own.map (·.2))
    (h : tM X.K RX W (do
      let src ← mi
      let ps ← block (own.map (·.2)) (each (dcF (own.map (·.2)) t mk mv) src)
      if ps.length ≤ top then pure (.od (dfold ps [])) else bad) σ H Q) :
    tDc (tI X.K RX W false mi) (gB X.K t) (tT X.K RX W0 (pure true)) (tB X.K RX W0 mk) (tM X.K RX W0 mv) (own.map (·.2)) σ H Q := by
  obtain ⟨g, s, R, h⟩ := h
  rw [sim_bind] at h
  refine ⟨g, s, R, h.mono (fun src s1 q g1 H1 J e1 R1 fed => ?_) fun _ _ z => z⟩
  rw [sim_bind] at q
  obtain ⟨hp, q⟩ := sim_block q
  intro D hD
  generalize hvs : own.map (·.2) = vs at hT hp q ⊢
  -- behind the turns
  let Post : Kvs → St → Prop := fun l s' => l.length ≤ top ∧ ∀ g' H' x, Ext g g' → Rel X.K g' { s' with env := backE vs s1.env s'.env } σ H' → RR X.K g' H' (.od (dfold l [])) x → Q x H'
  have q : Sim (each (dcF vs t mk mv) src s1) Post (fun _ _ => False) := q.mono (fun l s' z => by
    by_cases hl : l.length ≤ top
    · rw [if_pos hl] at z; exact ⟨hl, z⟩
    · rw [if_neg hl] at z; exact z.elim) fun _ _ z => z
  refine ⟨fun i m H => m = src.length - i ∧ i ≤ src.length ∧ ∃ g' s' σ' acc xs, Ext g1 g' ∧ Rel X.K g' s' σ' H ∧ wipe σ' vs = wipe σ vs ∧ H D = some (.dK xs) ∧ RKs X.K g'.F g'.ρ (dfold acc []) xs ∧ g'.P D = none ∧ (∀ a, g'.ρ a ≠ some D) ∧
      Sim (each (dcF vs t mk mv) (src.drop i) s') (fun rest s'' => Post (acc ++ rest) s'') (fun _ _ => False), ⟨src.length, rfl, Nat.zero_le _, g1, s1, σ, [], [], .refl g1, R1.atD hD, rfl, upd_same, .nil, ?_, ?_, q⟩, ?_⟩
  · cases z : g1.P D with
    | none => rfl
    | some o => rw [R1.hr.ph _ _ z] at hD; cases hD
  · exact (R1.hr.free hD).2
  rintro i m H2 ⟨rfl, hi, g', s', σ', acc, xs, e2, R2, hw, hH, rv, hP, hρ, sim⟩
  by_cases hlt : i < src.length
  · have hv : src[i]? = some src[i] := List.getElem?_eq_getElem hlt
    generalize src[i] = v at hv
    have hdrop : src.drop i = v :: src.drop (i + 1) := by
      rw [List.drop_eq_getElem_cons hlt]
      rw [List.getElem?_eq_getElem hlt] at hv
      rw [Option.some.inj hv]
    rw [hdrop] at sim
    have sim : Sim ((do let r ← dcF vs t mk mv v; let rs ← each (dcF vs t mk mv) (src.drop (i + 1)); pure (consO r rs) : M Kvs) s') _ _ := sim
    rw [sim_bind] at sim
    have RG := R2.guard hH hP hρ
    have hfed := fed { g' with P := upd g'.P D (.dK xs), B := upd g'.B D (.dK xs) } s' σ' H2 ⟨e2.F, e2.ρ, fun _ => e2.P.trans (same_upd hP)⟩ RG i
    obtain ⟨go, yld⟩ := hfed.2 v hv
    refine .inr ⟨go, fun H' => ∃ m', m' < src.length - i ∧ (m' = src.length - (i + 1) ∧ i + 1 ≤ src.length ∧ ∃ g' s' σ' acc xs, Ext g1 g' ∧ Rel X.K g' s' σ' H' ∧ wipe σ' vs = wipe σ vs ∧ H' D = some (.dK xs) ∧ RKs X.K g'.F g'.ρ (dfold acc []) xs ∧ g'.P D = none ∧ (∀ a, g'.ρ a ≠ some D) ∧
      Sim (each (dcF vs t mk mv) (src.drop (i + 1)) s') (fun rest s'' => Post (acc ++ rest) s'') (fun _ _ => False)), fun H' z => z, fun x H3 hy => ?_⟩
    obtain ⟨g3, e3, R3, r3⟩ := yld x H3 hy
    have R4 := R3.wipe vs
    have e4 := e3.trans (g3.dis_ext vs)
    rw [hw] at R4
    have sim : Sim ((do
      bindT t (.v v)
      let kv ← mk
      let r ← mv
      (match keyOf kv with
      | some j => pure (some (j, r.fz))
      | none => bad : M (Option (Sum Int Str × Vl))) : M (Option (Sum Int Str × Vl))) { s' with env := wipeE vs s'.env }) _ _ := sim
    rw [sim_bind] at sim
    refine ⟨_, _, v, R4, r3, sim.mono (fun _ s5 sim g5 σ5 a5 e5 R5 => ?_) fun _ _ z => z⟩
    have hw5 : wipe σ5 vs = wipe σ vs := by
      rw [wipe_agree (τ := wipe σ vs) a5.1 fun j hj => a5.2 j fun z => hj (hT j z)]
      exact wipe_wipe σ vs
    refine ⟨hw5, g5, s5, R5, ?_⟩
    rw [sim_pure]
    intro g6 H6 e6 R6
    refine iteT ?_
    rw [sim_bind] at sim
    refine ⟨g6, s5, R6, sim.mono (fun kv s7 sim g7 H7 y e7 R7 rb => ?_) fun _ _ z => z.elim⟩
    rw [sim_bind] at sim
    refine ⟨g7, s7, R7, sim.mono (fun r s8 sim g8 H8 z e8 R8 rr => ?_) fun _ _ z => z.elim⟩
    have e48 := (((e4.trans e5).trans e6).trans e7).trans e8
    cases hk : keyOf kv with
    | none => rw [hk] at sim; exact sim.elim
    | some j =>
      rw [hk] at sim
      have ey := rb.key hk
      have sim : Sim ((each (dcF vs t mk mv) (src.drop (i + 1)) >>= fun rs => pure ((j, r.fz) :: rs)) s8) _ _ := sim
      rw [sim_bind] at sim
      obtain ⟨g9, e9, R9, rv9⟩ := RR.fz R8 rr
      obtain ⟨g10, e10, R10, p10, ρ10, hH8, f10, q10⟩ := R2.unguard hH hP hρ (e48.trans e9) R9 (.dK (putK xs j z))
      have hlen : xs.length < sizeLine := by
        obtain ⟨rs, s9, _, w⟩ := sim.run
        have w : Post (acc ++ (j, r.fz) :: rs) s9 := w
        have := w.1
        rw [List.length_append, List.length_cons] at this
        have l1 := dfold_len acc []
        have l2 := rv.length
        rw [List.length_nil] at l1
        rw [← top_line]
        omega
      refine ⟨xs, j, ey, hH8, hlen, _, by omega, rfl, by omega, g10, s8, σ5, acc ++ [(j, r.fz)], putK xs j z, e2.trans e10, R10, hw5, upd_same, ?_, p10, ρ10, ?_⟩
      · rw [dfold_app]
        exact RKs.put (by rw [f10, q10]; exact rv9) (rv.ext e10.toExtS)
      · refine sim.mono (fun rs s9 w => ?_) fun _ _ z => z
        rw [List.append_assoc]
        exact w
  · have hi' : i = src.length := by omega
    subst hi'
    rw [List.drop_length] at sim
    have sim : Post (acc ++ []) s' := sim
    rw [List.append_nil] at sim
    refine .inl ⟨?_, ?_⟩
    · have RG := R2.guard hH hP hρ
      exact (fed { g' with P := upd g'.P D (.dK xs), B := upd g'.B D (.dK xs) } s' σ' H2 ⟨e2.F, e2.ρ, fun _ => e2.P.trans (same_upd hP)⟩ RG src.length).1 (Nat.le_refl _)
    · have R3 := R1.unwipe e2 R2 hp hw
      exact sim.2 _ H2 (.ref D) ((e1.trans e2).trans (g'.dis_ext vs)) R3 ⟨D, xs, rfl, hH, rv, hP, hρ⟩
theorem pe_dc_ {kx vx tg iter : Expr} {scope : Scope} {pos : Pos} (hc : X.calm = true) (hN : X.N.Nodup) (hi : PI X tg iter (tI X.K RX W false mi)) (ok : BlkOk X.N X.env.scope scope own) (hT : ∀ j ∈ tnames t, j ∈ own.map (·.2))
    (hg : ∀ (s : Shared) (H : Hp) (C : Addr) (cl : List (Str × Addr)) (fp : List Addr), PG (X.blk s H scope (compEnvC scope cl C X.env) fp) tg (gB X.K t)) (ht : ∀ (s : Shared) (H : Hp) (C : Addr) (cl : List (Str × Addr)) (fp : List Addr), PTs (X.blk s H scope (compEnvC scope cl C X.env) fp) [] (tT X.K RX W0 (pure true)))
    (hk : ∀ (s : Shared) (H : Hp) (C : Addr) (cl : List (Str × Addr)) (fp : List Addr), PE (X.blk s H scope (compEnvC scope cl C X.env) fp) kx (tB X.K RX W0 mk))
    (he : ∀ (s : Shared) (H : Hp) (C : Addr) (cl : List (Str × Addr)) (fp : List Addr), PE (X.blk s H scope (compEnvC scope cl C X.env) fp) vx (tM X.K RX W0 mv)) (hs : ∀ x, foldedSetIterable iter X.env x = pure x) :
    PE X (.DictComp kx vx [⟨tg, iter, [], 0⟩] scope pos) (tM X.K RX W (do
        let src ← mi
        let ps ← block (own.map (·.2)) (each (dcF (own.map (·.2)) t mk mv) src)
        if ps.length ≤ top then pure (.od (dfold ps [])) else bad)) :=
  (pe_dc hc hN hi ok hg ht hk he hs).imp fun σ H Q h => dc_of hT h
/-- name = {k: v ..} -/
theorem ps_setDc {i : Nat} {y : Str} {py : Pos} {kx vx tg iter : Expr} {ifs : List Expr} {scope : Scope} {own : List (Str × Nat)} {pos spos : Pos} {wi : TI} {g : TG} {tt : TT} {tk tv : TE} (calm : X.calm = true) (nd : X.N.Nodup) (hy : X.N[i]? = some y) (loc : X.env.scope.names.lookup y = some .local)
    (sw : swapsWith (.DictComp kx vx [⟨tg, iter, ifs, 0⟩] scope pos) (some (.Name y py)) spos.line X.env = pure true) (hi : PI X tg iter wi) (ok : BlkOk X.N X.env.scope scope own)
    (hg : ∀ (s : Shared) (H : Hp) (C : Addr) (cl : List (Str × Addr)) (fp : List Addr), PG (X.blk s H scope (compEnvC scope cl C X.env) fp) tg g) (ht : ∀ (s : Shared) (H : Hp) (C : Addr) (cl : List (Str × Addr)) (fp : List Addr), PTs (X.blk s H scope (compEnvC scope cl C X.env) fp) ifs tt)
    (hk : ∀ (s : Shared) (H : Hp) (C : Addr) (cl : List (Str × Addr)) (fp : List Addr), PE (X.blk s H scope (compEnvC scope cl C X.env) fp) kx tk)
    (he : ∀ (s : Shared) (H : Hp) (C : Addr) (cl : List (Str × Addr)) (fp : List Addr), PE (X.blk s H scope (compEnvC scope cl C X.env) fp) vx tv) (hs : ∀ x, foldedSetIterable iter X.env x = pure x) :
    PS X (.Assign [.Name y py] (.DictComp kx vx [⟨tg, iter, ifs, 0⟩] scope pos) spos) (tAsg (tDc wi g tt tk tv (own.map (·.2))) (gName i)) := by
  refine ⟨fun pins s σ H D I want => ?_⟩
  rw [exec_Assign_Name_used _ _ _ _ sw]
  refine wpAny_bind (wpAny_standAt (wpAny_bind ?_))
  show wpAny _ X.A (do let _ ← comprehension (.DictComp kx vx [⟨tg, iter, ifs, 0⟩] scope pos) scope X.env (firstIterPos [⟨tg, iter, ifs, 0⟩] pos) newDict false (eval iter X.env) (some (assign (.Name y py) X.env))) _ _ s
  have want : tDc wi g tt tk tv (own.map (·.2)) σ H (fun x H1 => gName i x σ H1 D.nx) := want
  refine wpAny_bind (thn (dc_core (Qf := fun _ s' => SP X pins D .next s') calm nd I hi ok hg ht hk he hs want fun L C s' m H' J z ns ff => ?_) fun _ s' z => wpAny_pure (wpAny_pure z))
  show wpAny _ _ (assign (.Name y py) X.env (.ref L)) _ _ _
  refine wpAny_assign_Name (store_ok2 (v := V.ref L) J nd hy (.inl loc) rfl (fun s2 I2 ⟨a, same, at_⟩ => ?_) (.inr loc))
  obtain ⟨w0, w1, w2, w3, w4, w5⟩ := ff
  have ne : C ≠ a := by
    rcases at_ with z | z
    · rw [z]; exact w1
    · exact fun e => w4 y a z e.symm
  refine ⟨m, ns.sameBut same ne, fun h3 sb => ?_⟩
  exact ⟨_, H', I2.turned (t' := s2.toks) (fun b o hb e => (sb.2 b hb).trans e) w0 w1 w3 w4 w5, z⟩
end
end VM

/-! VMRev: e[::-1] of a list, a tuple; tests of a conditional. -/
namespace VM
open PySem PySem.Spec PyProof.Rows L2 HT PySem.W
section
variable {prog : Program} {w : World} {A : Around} {E : Value → Shared → Prop} {s : Shared}
theorem adjust_rev (n : Nat) : Builtin.Slice.sliceAdjust none none (-1) (n : Int) = ((n : Int) - 1, -1) := by
  unfold Builtin.Slice.sliceAdjust
  simp
theorem places_rev (n : Nat) : Builtin.Slice.slicePlaces ((n : Int) - 1) (-1) (-1) = n := by
  unfold Builtin.Slice.slicePlaces
  have h1 : ¬ ((-1 : Int) > 0) := by decide
  simp only [h1, if_false]
  rw [show (- -1 : Int) = 1 by decide, Int.ediv_one]
  split <;> omega
theorem pick_rev (xs : Array Value) : ((List.range xs.size).filterMap fun (m : Nat) => xs[((xs.size : Int) - 1 + (m : Int) * (-1)).toNat]?).toArray = xs.toList.reverse.toArray := by
  rw [← krv_pick]
  unfold slicePick
  rw [krv_bounds]
  show _ = ((sliceRange ((xs.size : Int) - 1) (-1) (-1)).filterMap (xs[·]?)).toArray
  rw [krv_sliceRange, List.filterMap_map]
  have key : ∀ l : List Nat, (∀ m ∈ l, m < xs.size) → (l.filterMap fun (m : Nat) => xs[((xs.size : Int) - 1 + (m : Int) * (-1)).toNat]?) = l.filterMap ((xs[·]?) ∘ fun k => xs.size - 1 - k) := fun l => by
    induction l with
    | nil => intro _; rfl
    | cons m l ih =>
      intro hl
      have hm := hl m List.mem_cons_self
      have e : ((xs.size : Int) - 1 + (m : Int) * (-1)).toNat = xs.size - 1 - m := by omega
      rw [List.filterMap_cons, List.filterMap_cons, ih fun k hk => hl k (List.mem_cons_of_mem _ hk), e]
      rfl
  rw [key _ fun m hm => List.mem_range.mp hm]
theorem sliceApplied_rev {sl : Addr} {vs : Value} {n : Nat} {Q : Int × Int × Nat → Shared → Prop} (hs : s.heap.IsSliceOf sl .none .none vs) (ps : IsPart vs (some (-1)))
    (h : Q ((n : Int) - 1, -1, n) s) : wpAny (model prog w) A (Builtin.Slice.sliceApplied (.ref sl) (pure (n : Int))) Q E s := by
  obtain ⟨os, hos, hcs, hds⟩ := id hs
  unfold Builtin.Slice.sliceApplied Builtin.Slice.sliceFields
  refine wpAny_bind (wpAny_bind (wpAny_field hos hds (x := .none) rfl (wpAny_bind (wpAny_field hos hds (x := .none) rfl (wpAny_bind (wpAny_field hos hds (x := vs) rfl (wpAny_pure ?_)))))))
  refine wpAny_bind (slicePart_ ps ?_)
  show wpAny _ _ (if ((-1 : Int) == 0) = true then _ else _) _ _ s
  rw [if_neg (by decide)]
  refine wpAny_bind (slicePart_none (wpAny_bind (slicePart_none (wpAny_bind (wpAny_pure ?_)))))
  show wpAny _ _ (match Builtin.Slice.sliceAdjust none none (-1) (n : Int) with | (lo, hi) => pure (lo, (-1 : Int), Builtin.Slice.slicePlaces lo hi (-1))) _ _ s
  rw [adjust_rev n]
  show wpAny _ _ (pure ((n : Int) - 1, (-1 : Int), Builtin.Slice.slicePlaces ((n : Int) - 1) (-1) (-1))) _ _ s
  rw [places_rev]
  exact wpAny_pure h
theorem getItem_tuple_rev {t sl : Addr} {items : Array Value} {vs : Value} {Q : Value → Shared → Prop} (ht : IsTup s.heap t items) (hs : s.heap.IsSliceOf sl .none .none vs) (ps : IsPart vs (some (-1)))
    (h : Q (.ref s.heap.objs.size) { s with heap := s.heap.push { cls := .type "tuple", data := .seq items.toList.reverse.toArray } })
    (hsz : items.size ≤ sizeLine) : wpAny (model prog w) A (getItem (.ref t) (.ref sl)) Q E s := by
  have htake : sizeOk (.seq items.toList.reverse.toArray) := by
    show items.toList.reverse.toArray.size ≤ sizeLine
    rw [List.size_toArray, List.length_reverse, Array.length_toList]
    exact hsz
  obtain ⟨os, hos, hcs, hds⟩ := id hs
  have hTs : s.TypeIs (.ref sl) "slice" := ⟨os, hos, hcs⟩
  unfold getItem
  try with_reducible refine wpAny_holding ?_
  first | refine wpAny_bind (wpAny_pure ?_) | skip
  refine wpAny_bind (wpAny_sequenceKey ht.typeIs (by decide) ?_)
  refine wpAny_bind (wpAny_callSpecial?_slot (name := Str.ofString "__getitem__") ht.typeIs PyProof.Rows.slot_tuple_getitem
    (wpAny_call_entry PyProof.Rows.slot_tuple_getitem ht.typeIs entry_tuple_getitem ?_ (args_tuple_getitem _ _)))
  show wpAny _ _ (Builtin.Tuple.tupleItemsOf (.ref t) >>= _) _ _ s
  refine wpAny_bind (tupleItemsOf_ ht ?_)
  refine wpAny_bind (wpAny_typeOf hTs ?_)
  rw [if_pos (by decide)]
  refine wpAny_bind (sliceApplied_rev hs ps ?_)
  have hno : ¬ ((((items.size : Int) - 1) == 0 && (-1 : Int) == 1 && items.size == items.size) = true) := by
    intro q
    rw [Bool.and_eq_true, Bool.and_eq_true] at q
    exact absurd q.1.2 (by decide)
  show wpAny _ _ (if (((items.size : Int) - 1) == 0 && (-1 : Int) == 1 && items.size == items.size) = true then _ else _) _ _ s
  rw [if_neg hno, pick_rev]
  first
    | exact wpAny_bind (m := Builtin.Tuple.tupleExact _) (wpAny_newObj_type (wpAny_pure ⟨_, rfl, wpAny_pure h⟩) htake)
    | exact wpAny_bind (m := Builtin.Tuple.tupleExact _) (wpAny_newObj_type (wpAny_bind (wpAny_pure (wpAny_pure ⟨_, rfl, wpAny_pure h⟩))) htake)
    | exact wpAny_bind (wpAny_bind (m := Builtin.Tuple.tupleExact _) (wpAny_newObj_type (wpAny_pure (wpAny_pure ⟨_, rfl, wpAny_pure h⟩)) htake))
    | exact wpAny_bind (wpAny_bind (m := Builtin.Tuple.tupleExact _) (wpAny_newObj_type (wpAny_pure ⟨_, rfl, wpAny_pure h⟩) htake))
end
section
variable {X : Cx} {RX : RXT} {W : WX} {e e' e₃ : Expr} {pos : Pos}
def tRevA (K : PySem.W.Frag) (te : TE) : TE := fun σ H Q => te σ H fun x H1 => ∃ a xs, x = .ref a ∧ ((SqL K H1 a xs ∧ ∀ p, H1 p = none → Q (.ref p) (upd H1 p (.lst xs.reverse))) ∨ (SqT K H1 a xs ∧ ∀ p, H1 p = none → Q (.ref p) (upd H1 p (.tup xs.reverse))))
theorem pe_revA {te : TE} {k : Nat} {p1 p2 p3 : Pos} (he : PE X e te) : PE X (.Subscript e (.Slice none none (some (.UnaryOp .USub (.Constant (.int 1) k p1) p2)) p3) pos) (tRevA X.K te) := by
  refine ⟨fun pins s σ H Q I h => ?_⟩
  refine Subscript_ (thn (he.run pins s σ H _ I h) fun v s1 ⟨x, H1, I1, r1, q1⟩ => ?_)
  obtain ⟨a, xs, ex, q⟩ := q1
  subst ex
  cases r1
  have hst : PO X (some (.UnaryOp .USub (.Constant (.int 1) k p1) p2)) (tPart (tUn (rU fun i => .int (-i)) (tC (.int 1)))) := po_some (pe_un un_neg pe_int)
  refine wpAny_Slice (thn (po_none.run pins s1 σ H1 (fun o H2 => o = none ∧ H2 = H1) I1 ⟨rfl, rfl⟩) fun vl s2 ⟨l, H2, I2, pl, el, e2⟩ => ?_)
  subst el e2
  refine thn (po_none.run pins s2 σ H2 (fun o H3 => o = none ∧ H3 = H2) I2 ⟨rfl, rfl⟩) fun vu s3 ⟨u, H3, I3, pu, eu, e3⟩ => ?_
  subst eu e3
  refine thn (hst.run pins s3 σ H3 (fun o H4 => o = some (-1) ∧ H4 = H3) I3 ⟨1, rfl, -1, rfl, rfl, rfl⟩) fun vs s4 ⟨o, H4, I4, ps, eo, e4⟩ => ?_
  subst eo e4
  have I5 : Inv X pins σ H4 { s4 with heap := s4.heap.push { cls := .type "slice", data := .fields #[vl, vu, vs] } } := I4.kept (t' := s4.toks) fun b ob q => Heap.get?_push_of_some _ q
  show wpAny (model X.prog X.w) X.A (subscriptTail e (.Slice none none (some (.UnaryOp .USub (.Constant (.int 1) k p1) p2)) p3) (.ref a) (.ref s4.heap.objs.size)) (EP X pins σ Q) X.xe { s4 with heap := s4.heap.push { cls := .type "slice", data := .fields #[vl, vu, vs] } }
  rcases q with ⟨hx, q⟩ | ⟨hx, q⟩
  · obtain ⟨its, r, ht, hz⟩ := I5.list hx
    have hlen := r.length
    refine tail_any (ops := [.ref a, .ref s4.heap.objs.size]) ht.isList.typeIs (PySem.slot_list_getitem.lookup) ?_ (by with_unfolding_all rfl)
    refine wpAny_getItem_list_slice ht.isList (Heap.IsSliceOf.new _ vl vu vs) pl pu ps (by decide) ?_ (by rw [List.size_toArray]; omega)
    rw [PySem.W.krv_pick]
    refine ⟨.ref _, _, I5.laid (t' := s4.toks) (o := .lst xs.reverse) (fun b ob q => Heap.get?_push_of_some _ q) (Nat.le_refl _) ?_, rfl, q _ (I5.hok.fresh (Nat.le_refl _))⟩
    exact ⟨by rw [List.length_reverse]; exact hz, _, 0, r.reverse, Heap.get?_push_size _ rfl⟩
  · obtain ⟨its, r, ht, hz⟩ := I5.tuple hx
    have hlen := r.length
    refine tail_any (ops := [.ref a, .ref s4.heap.objs.size]) ht.typeIs (PyProof.Rows.slot_tuple_getitem.lookup) ?_ (by with_unfolding_all rfl)
    cases pl
    cases pu
    refine getItem_tuple_rev ht (Heap.IsSliceOf.new _ .none .none vs) ps ?_ (by rw [List.size_toArray, ← hlen]; exact hz)
    refine ⟨.ref _, _, I5.laid (t' := s4.toks) (o := .tup xs.reverse) (fun b ob q => Heap.get?_push_of_some _ q) (Nat.le_refl _) ?_, rfl, q _ (I5.hok.fresh (Nat.le_refl _))⟩
    exact ⟨by rw [List.length_reverse]; exact hz, _, r.reverse, IsTup.new _ _⟩
theorem pe_rev_ {a : M Vl} {k : Nat} {p1 p2 p3 : Pos} (pa : PE X e (tB X.K RX W a)) : PE X (.Subscript e (.Slice none none (some (.UnaryOp .USub (.Constant (.int 1) k p1) p2)) p3) pos) (tM X.K RX W (do let x ← a; onHp fun h => rev h x)) :=
  (pe_revA pa).imp fun σ H Q h => seq1 (Rr := fun x H1 Q => ∃ a xs, x = .ref a ∧ ((SqL X.K H1 a xs ∧ ∀ p, H1 p = none → Q (.ref p) (upd H1 p (.lst xs.reverse))) ∨ (SqT X.K H1 a xs ∧ ∀ p, H1 p = none → Q (.ref p) (upd H1 p (.tup xs.reverse))))) h fun g s u x H1 R b q => by
    rw [sim_onHp] at q
    obtain ⟨r, e1, q⟩ := q
    have lists : ∀ {vs : List Vl}, lits s.hp u = some vs → r = .ol vs.reverse → ∃ a xs, x = .ref a ∧ ((SqL X.K H1 a xs ∧ ∀ p, H1 p = none → Q (.ref p) (upd H1 p (.lst xs.reverse))) ∨ (SqT X.K H1 a xs ∧ ∀ p, H1 p = none → Q (.ref p) (upd H1 p (.tup xs.reverse)))) := fun {vs} hv hr => by
      subst hr
      obtain ⟨p, xs, rfl, h1, h2⟩ := R.hr.lits_ b hv
      refine ⟨p, xs, rfl, .inl ⟨h1, fun p hp => ?_⟩⟩
      obtain ⟨R2, rr⟩ := R.newLst hp h2.reverse
      exact q g _ _ (.refl g) R2 rr
    cases u with
    | tup vs =>
      simp only [rev] at e1
      cases e1
      obtain ⟨p, xs, rfl, h2, h1⟩ := R.hr.items_ b (vs := vs) rfl
      rcases h1 with ⟨_, z⟩ | ⟨h1, _⟩
      · simp [VM.lits] at z
      · refine ⟨p, xs, rfl, .inr ⟨h1, fun p hp => ?_⟩⟩
        obtain ⟨g2, e2, R2, rv⟩ := R.newTup hp h2.reverse
        exact q g2 _ _ e2 R2 rv
    | _ =>
      simp only [rev] at e1
      obtain ⟨vs, hv, hr⟩ := Option.map_eq_some_iff.mp e1
      exact lists hv hr.symm
theorem pt_ife_ {t a b : M Bool} (pt : PT X e (tT X.K RX W t)) (pa : PT X e' (tT X.K RX W a)) (pb : PT X e₃ (tT X.K RX W b)) : PT X (.IfExp e e' e₃ pos) (tT X.K RX W (do let r ← t; if r then a else b)) := by
  refine ⟨fun pins s σ H Q I ⟨g, st, R, h⟩ => ?_⟩
  rw [sim_bind] at h
  show wpAny _ _ (do if ← isTrue e X.env (eval e X.env) then isTrue e' X.env (eval e' X.env) else isTrue e₃ X.env (eval e₃ X.env)) _ _ _
  refine wpAny_bind (thn (pt.run pins s σ H (fun c H1 => ∃ g1 s1, Ext g g1 ∧ Rel X.K g1 s1 σ H1 ∧ Sim ((if c then a else b : M Bool) s1) (fun b s' => ∀ g' H', Ext g g' → Rel X.K g' s' σ H' → Q b H') (Zx X.K RX W g σ)) I ⟨g, st, R, h.mono (fun c s1 q g1 H1 e1 R1 => ⟨g1, s1, e1, R1, q⟩) fun _ _ z => z⟩) fun c s1 ⟨H1, I1, g1, t1, e1, R1, q⟩ => ?_)
  have q := q.mono (fun b s' z g' H' (e2 : Ext g1 g') R2 => z g' H' (e1.trans e2) R2) fun _ _ z => z.ext e1.toExtS
  cases c with
  | true => exact pa.run pins s1 σ H1 Q I1 ⟨g1, t1, R1, q⟩
  | false => exact pb.run pins s1 σ H1 Q I1 ⟨g1, t1, R1, q⟩
/-- is True, is False -/
def tIsB (ta : TE) (b n : Bool) : TE := fun σ H Q => ta σ H fun x H1 => ∃ c, x = .bl c ∧ Q (.bl (xor n (c == b))) H1
theorem pc_isB {ta : TE} {j : Nat} {b : Bool} {p' : Pos} (ha : PE X e ta) : PC X .Is e (.Constant (.bool b) j p') (tIsB ta b false) := by
  refine ⟨fun pins s σ H Q I h => ?_⟩
  refine thn (ha.run pins s σ H _ I h) fun v s1 ⟨x, H1, J, r, c, ex, q⟩ => ?_
  subst ex
  cases r
  exact Constant_bool (wpAny_pure ⟨.bl _, H1, J, by cases c <;> cases b <;> rfl, q⟩)
theorem pc_notB {ta : TE} {j : Nat} {b : Bool} {p' : Pos} (ha : PE X e ta) : PC X .IsNot e (.Constant (.bool b) j p') (tIsB ta b true) := by
  refine ⟨fun pins s σ H Q I h => ?_⟩
  refine thn (ha.run pins s σ H _ I h) fun v s1 ⟨x, H1, J, r, c, ex, q⟩ => ?_
  subst ex
  cases r
  exact Constant_bool (wpAny_pure ⟨.bl _, H1, J, by cases c <;> cases b <;> rfl, q⟩)
section
variable {m : M Vl} {j : Nat} {b : Bool} {p' : Pos}
def isBM (m : M Vl) (b : Bool) : M Rv := do
  let x ← m
  match x with
  | .bl r => pure (.v (.bl (r == b)))
  | _ => bad
def notBM (m : M Vl) (b : Bool) : M Rv := do
  let x ← m
  match x with
  | .bl r => pure (.v (.bl (!(r == b))))
  | _ => bad
theorem isB_tM {σ : L2.St} {H : Hp} {Q : VK} (h : tM X.K RX W (do
      let x ← m
      match x with
      | .bl r => pure (.v (.bl (r == b)))
      | _ => bad) σ H Q) : tIsB (tB X.K RX W m) b false σ H Q := seq1 (Rr := fun x H1 Q => ∃ c, x = .bl c ∧ Q (.bl (xor false (c == b))) H1) h fun g s u x H1 R bb q => by
    cases u with
    | bl c =>
      cases tB_bool (σ := σ) (H := H) bb
      exact ⟨c, rfl, by rw [Bool.false_xor]; exact q g H1 _ (.refl g) R (.bl _)⟩
    | _ => exact q.elim
theorem notB_tM {σ : L2.St} {H : Hp} {Q : VK} (h : tM X.K RX W (do
      let x ← m
      match x with
      | .bl r => pure (.v (.bl (!(r == b))))
      | _ => bad) σ H Q) : tIsB (tB X.K RX W m) b true σ H Q := seq1 (Rr := fun x H1 Q => ∃ c, x = .bl c ∧ Q (.bl (xor true (c == b))) H1) h fun g s u x H1 R bb q => by
    cases u with
    | bl c =>
      cases tB_bool (σ := σ) (H := H) bb
      exact ⟨c, rfl, by rw [Bool.true_xor]; exact q g H1 _ (.refl g) R (.bl _)⟩
    | _ => exact q.elim
theorem pe_isB_ (pa : PE X e (tB X.K RX W m)) : PE X (.Compare e [.Is] [.Constant (.bool b) j p'] pos) (tM X.K RX W (do
      let x ← m
      match x with
      | .bl r => pure (.v (.bl (r == b)))
      | _ => bad)) := (pe_cmp (pc_isB pa)).imp fun σ H Q h => isB_tM h
theorem pe_notB_ (pa : PE X e (tB X.K RX W m)) : PE X (.Compare e [.IsNot] [.Constant (.bool b) j p'] pos) (tM X.K RX W (do
      let x ← m
      match x with
      | .bl r => pure (.v (.bl (!(r == b))))
      | _ => bad)) := (pe_cmp (pc_notB pa)).imp fun σ H Q h => notB_tM h
theorem pt_isB_ (pa : PE X e (tB X.K RX W m)) : PT X (.Compare e [.Is] [.Constant (.bool b) j p'] pos) (tT X.K RX W (tstB (do let r ← isBM m b; pure r.fz))) := pt_of_bl ((pc_isB pa).imp fun σ H Q h => isB_tM h) rfl
theorem pt_notB_ (pa : PE X e (tB X.K RX W m)) : PT X (.Compare e [.IsNot] [.Constant (.bool b) j p'] pos) (tT X.K RX W (tstB (do let r ← notBM m b; pure r.fz))) := pt_of_bl ((pc_notB pa).imp fun σ H Q h => notB_tM h) rfl
end
end
end VM

/-! VMSlc: e[i::k] of a list, k a number; list(range(i, j)). -/
namespace VM
open PySem PySem.Spec PyProof.Rows L2 HT PySem.W
theorem RVs.pick {K : Fg} {F : Hp} {ρ : Nat → Option Addr} {us : List Vl} {xs : List V} (r : RVs K F ρ us xs) : ∀ ix : List Nat, RVs K F ρ (ix.filterMap (us[·]?)) (ix.filterMap (xs[·]?))
  | [] => .nil
  | i :: ix => by
    rw [List.filterMap_cons, List.filterMap_cons]
    cases e : us[i]? with
    | some u =>
      obtain ⟨x, h1, h2⟩ := r.get e
      rw [h1]
      exact .cons h2 (r.pick ix)
    | none =>
      have : xs[i]? = none := by
        rw [List.getElem?_eq_none_iff] at e ⊢
        rw [← r.length]; exact e
      rw [this]
      exact r.pick ix
theorem vals_pick {us : List V} {xs : List Value} (r : Vals us xs) : ∀ ix : List Nat, Vals (ix.filterMap (us[·]?)) (ix.filterMap (xs[·]?))
  | [] => .nil
  | i :: ix => by
    rw [List.filterMap_cons, List.filterMap_cons]
    cases e : us[i]? with
    | some u =>
      obtain ⟨x, h1, h2⟩ := r.get e
      rw [h1]
      exact .cons h2 (vals_pick r ix)
    | none =>
      rw [r.none_of e]
      exact vals_pick r ix
theorem stpIx_len (n : Nat) (lo : Int) (k : Nat) (hk : k ≠ 0) : (stpIx n lo k).length ≤ n := by
  unfold stpIx
  show (sliceRange (sliceBounds (some lo) none (some (k : Int)) n).1 (sliceBounds (some lo) none (some (k : Int)) n).2.1 (sliceBounds (some lo) none (some (k : Int)) n).2.2).length ≤ n
  have hc : (sliceBounds (some lo) none (some (k : Int)) n).2.2 = k := rfl
  have hb : (sliceBounds (some lo) none (some (k : Int)) n).2.1 = n := by
    show (if (k : Int) > 0 then (n : Int) else -1) = n
    rw [if_pos (by omega)]
  refine sliceRange_length_le _ _ _ n (fun _ => ⟨?_, by rw [hb]; exact Int.le_refl _⟩) fun z => absurd (show (k : Int) > 0 by omega) (by rw [hc] at z; exact z)
  show 0 ≤ (if (k : Int) > 0 then max 0 (min (if lo < 0 then lo + n else lo) (n : Int)) else _)
  rw [if_pos (by omega)]
  omega
theorem filterMap_len {α β : Type} (f : α → Option β) : ∀ l : List α, (l.filterMap f).length ≤ l.length
  | [] => Nat.le_refl _
  | a :: l => by
    rw [List.filterMap_cons]
    have := filterMap_len f l
    cases f a <;> simp <;> omega
section
variable {X : Cx} {RX : RXT} {W : WX} {e e' : Expr} {pos p : Pos}
def tStp (K : PySem.W.Frag) (k : Nat) (te ti : TE) : TE := fun σ H Q => te σ H fun x H1 => ti σ H1 fun y H2 => ∃ a xs i, x = .ref a ∧ y = .int i ∧ SqL K H2 a xs ∧ ∀ p, H2 p = none → Q (.ref p) (upd H2 p (.lst (stpV xs i k)))
theorem pe_clo {e : Expr} {t : TE} (h : PE X e t) : PE X e (fun σ H Q => ∃ Q0, t σ H Q0 ∧ ∀ v H1, Q0 v H1 → Q v H1) :=
  ⟨fun pins s σ H Q I ⟨Q0, h1, h2⟩ => thn (h.run pins s σ H Q0 I h1) fun us s' ⟨vs, H1, I1, r, q⟩ => ⟨vs, H1, I1, r, h2 vs H1 q⟩⟩
theorem pe_stp {te ti : TE} {k : Nat} {j : Nat} {p1 p3 : Pos} (hk : k ≠ 0) (he : PE X e te) (hi : PE X e' ti) : PE X (.Subscript e (.Slice (some e') none (some (.Constant (.int (k : Int)) j p1)) p3) pos) (tStp X.K k te ti) := by
  refine ⟨fun pins s σ H Q I h => ?_⟩
  refine Subscript_ (thn (he.run pins s σ H _ I h) fun v s1 ⟨x, H1, I1, r1, q1⟩ => ?_)
  have hst : PO X (some (.Constant (.int (k : Int)) j p1)) (tPart (tC (.int (k : Int)))) := po_some pe_int
  refine wpAny_Slice (thn ((po_some (pe_clo hi)).run pins s1 σ H1 (fun o H2 => ∃ a xs i, x = .ref a ∧ o = some i ∧ SqL X.K H2 a xs ∧ ∀ p, H2 p = none → Q (.ref p) (upd H2 p (.lst (stpV xs i k)))) I1 ⟨_, q1, fun v H ⟨a, xs, i, h1, h2, h3, h4⟩ => ⟨i, h2, a, xs, i, h1, rfl, h3, h4⟩⟩) fun vl s2 ⟨l, H2, I2, pl, a, xs, i, ex, el, hx, q⟩ => ?_)
  subst ex el
  cases r1
  refine thn (po_none.run pins s2 σ H2 (fun o H3 => o = none ∧ H3 = H2) I2 ⟨rfl, rfl⟩) fun vu s3 ⟨u, H3, I3, pu, eu, e3⟩ => ?_
  subst eu e3
  refine thn (hst.run pins s3 σ H3 (fun o H4 => o = some (k : Int) ∧ H4 = H3) I3 ⟨(k : Int), rfl, rfl, rfl⟩) fun vs s4 ⟨o, H4, I4, ps, eo, e4⟩ => ?_
  subst eo e4
  have I5 : Inv X pins σ H4 { s4 with heap := s4.heap.push { cls := .type "slice", data := .fields #[vl, vu, vs] } } := I4.kept (t' := s4.toks) fun b ob q => Heap.get?_push_of_some _ q
  show wpAny (model X.prog X.w) X.A (subscriptTail e (.Slice (some e') none (some (.Constant (.int (k : Int)) j p1)) p3) (.ref a) (.ref s4.heap.objs.size)) (EP X pins σ Q) X.xe { s4 with heap := s4.heap.push { cls := .type "slice", data := .fields #[vl, vu, vs] } }
  obtain ⟨its, r, ht, hz⟩ := I5.list hx
  have hlen := r.length
  refine tail_any (ops := [.ref a, .ref s4.heap.objs.size]) ht.isList.typeIs (PySem.slot_list_getitem.lookup) ?_ (by with_unfolding_all rfl)
  refine wpAny_getItem_list_slice ht.isList (Heap.IsSliceOf.new _ vl vu vs) pl pu ps (fun z => hk (by have := Option.some.inj z; omega)) ?_ (by rw [List.size_toArray]; omega)
  have epick : slicePick its.toArray (some i) none (some (k : Int)) = (stpV its i k).toArray := by
    simp [slicePick, stpV, stpIx]
  rw [epick]
  refine ⟨.ref _, _, I5.laid (t' := s4.toks) (o := .lst (stpV xs i k)) (fun b ob q => Heap.get?_push_of_some _ q) (Nat.le_refl _) ?_, rfl, q _ (I5.hok.fresh (Nat.le_refl _))⟩
  refine ⟨Nat.le_trans (filterMap_len _ _) (Nat.le_trans (stpIx_len _ _ _ hk) hz), _, 0, ?_, Heap.get?_push_size _ rfl⟩
  have e2 : stpV its i k = (stpIx xs.length i k).filterMap (its[·]?) := by unfold stpV; rw [← hlen]
  rw [e2]
  exact vals_pick r _
theorem pe_stp_ {a b : M Vl} {k : Nat} {j : Nat} {p1 p3 : Pos} (hk : k ≠ 0) (pa : PE X e (tB X.K RX W a)) (pb : PE X e' (tB X.K RX W b)) : PE X (.Subscript e (.Slice (some e') none (some (.Constant (.int (k : Int)) j p1)) p3) pos) (tM X.K RX W (do
      let x ← a
      let y ← b
      match y with
      | .int i => if k = 0 then bad else onHp fun h => (lits h x).map fun vs => .ol (stpV vs i k)
      | _ => bad)) :=
  (pe_stp hk pa pb).imp fun σ H Q h => seq2 (f := fun x y => match y with
      | .int i => if k = 0 then bad else onHp fun h => (lits h x).map fun vs => Rv.ol (stpV vs i k)
      | _ => bad) (Rr := fun x y H2 Q => ∃ a xs i, x = .ref a ∧ y = .int i ∧ SqL X.K H2 a xs ∧ ∀ p, H2 p = none → Q (.ref p) (upd H2 p (.lst (stpV xs i k)))) h fun g s u w x y H R b1 b2 q => by
    cases w with
    | int i =>
      have q : Sim ((if k = 0 then bad else onHp fun h => (lits h u).map fun vs => Rv.ol (stpV vs i k) : M Rv) s) _ _ := q
      rw [if_neg hk, sim_onHp] at q
      obtain ⟨r, e1, q⟩ := q
      obtain ⟨vs, hv, rfl⟩ := Option.map_eq_some_iff.mp e1
      obtain ⟨p, xs, rfl, h1, h2⟩ := R.hr.lits_ b1 hv
      have z := b2.flat_ rfl
      cases z
      refine ⟨p, xs, i, rfl, rfl, h1, fun p hp => ?_⟩
      have rr : RVs X.K g.F g.ρ (stpV vs i k) (stpV xs i k) := by
        unfold stpV
        rw [h2.length]
        exact h2.pick _
      obtain ⟨R2, rr⟩ := R.newLst hp rr
      exact q g _ _ (.refl g) R2 rr
    | _ => exact q.elim
def rangeZ (lo : Int) : Nat → List V
  | 0 => []
  | n + 1 => V.int lo :: rangeZ (lo + 1) n
theorem rangeZ_len : ∀ (n : Nat) (lo : Int), (rangeZ lo n).length = n
  | 0, _ => rfl
  | n + 1, lo => congrArg Nat.succ (rangeZ_len n (lo + 1))
theorem rangeV_rel {K : Fg} {F : Hp} {ρ : Nat → Option Addr} : ∀ (n : Nat) (lo : Int), RVs K F ρ (rangeV lo n) (rangeZ lo n)
  | 0, lo => .nil
  | n + 1, lo => .cons (.int lo) (rangeV_rel n (lo + 1))
theorem rangeZ_vals {acc : Array Value} {lo : Int} {n : Nat} (h : ItemsOf (fun i v => ∃ t, v = Value.int (lo + (i : Int) * 1) t) acc n) : Vals (rangeZ lo n) acc.toList := by
  obtain ⟨h1, h2⟩ := h
  have key : ∀ (l : List Value) (lo : Int), (∀ (j : Nat) v, l[j]? = some v → ∃ t, v = Value.int (lo + (j : Int)) t) → Vals (rangeZ lo l.length) l := by
    intro l
    induction l with
    | nil => intro lo _; exact .nil
    | cons v l ih =>
      intro lo hk
      refine .cons (by obtain ⟨t, e⟩ := hk 0 v rfl; exact ⟨t, by rw [e]; simp⟩) (ih (lo + 1) fun j v e => ?_)
      obtain ⟨t, z⟩ := hk (j + 1) v (by simpa using e)
      exact ⟨t, by rw [z]; congr 1; omega⟩
  have z := key acc.toList lo fun j v e => by
    obtain ⟨t, q⟩ := h2 j v (by simpa using e)
    exact ⟨t, by rw [q]; congr 1; omega⟩
  have e : acc.toList.length = n := by simpa using h1
  rw [e] at z
  exact z
theorem call_listRng (hc : X.calm = true) : CallR X (.type "list") (fun xs H Q => ∃ r i j, xs = [.ref r] ∧ H r = some (.rng i j) ∧ inLim i = true ∧ inLim j = true ∧ (j - i).toNat ≤ 16777216 ∧ ∀ p, H p = none → Q (.ref p) (upd H p (.lst (rangeZ i (j - i).toNat)))) := by
  intro pins s σ H xs us Q I r h
  obtain ⟨a, i, j, rfl, ha, l1, l2, hn, q⟩ := h
  obtain ⟨u, rfl, ru⟩ := vals1 r
  obtain rfl : u = Value.ref a := ru
  obtain ⟨t1, t2, t3, ho⟩ := (show ObjOk X.prog X.w H s.heap a (.rng i j) from I.hok a _ ha)
  obtain ⟨b1, b2⟩ := inLim_iff l1
  obtain ⟨b3, b4⟩ := inLim_iff l2
  refine call_list_range (a := i) (b := j) (c := 1) (n := (j - i).toNat) (I.ok.hd hc) ho ?_ ?_ (by omega) fun h' tk acc c hk hS hi => ?_
  · exact small_one (by omega) (by omega) (by omega) (by omega)
  · exact rangeSize_nat _ _
  · refine ⟨.ref _, upd H s.heap.objs.size (.lst (rangeZ i (j - i).toNat)), I.laid (t' := tk) hk (Nat.le_refl _) ?_, rfl, q _ (I.hok.fresh (Nat.le_refl _))⟩
    refine ⟨by rw [rangeZ_len, sizeLine_eq]; exact hn, acc.toList, c, rangeZ_vals hi, ?_⟩
    rw [hS]
theorem pe_lrg_ {a b : M Vl} {q q2 : Pos} (hc : X.calm = true) (hl : Gl X ("list" : Str)) (hlm : X.mg ("list" : Str) = none) (hr : Gl X ("range" : Str)) (hrm : X.mg ("range" : Str) = none) (hs : star1 e = false) (hs2 : star1 e' = false)
    (pa : PE X e (tB X.K RX W a)) (pb : PE X e' (tB X.K RX W b)) : PE X (.Call (.Name ("list" : Str) p) [.Call (.Name ("range" : Str) q) [e, e'] [] q2] [] pos) (tM X.K RX W (do
      let x ← a
      let y ← b
      match x, y with
      | .int i, .int j => if inLim i && inLim j && decide ((j - i).toNat ≤ top) then pure (.ol (rangeV i (j - i).toNat)) else bad
      | _, _ => bad)) := by
  have h1 : PE X (.Call (.Name ("range" : Str) q) [e, e'] [] q2) _ := pe_callTy (T := "range") cr_range2 hr hrm (by decide +kernel) (pa_cons pa (pa_cons pb pa_nil (star_of hs2)) (star_of hs)) (by decide +kernel) (by decide +kernel) (star_of hs) (stars_of q2 (show (star1 e' || stars []) = false by rw [hs2]; rfl))
  refine (pe_callTy (T := "list") (call_listRng hc) hl hlm (by decide +kernel) (pa_cons h1 pa_nil rfl) (by decide +kernel) (by decide +kernel) rfl rfl).imp fun σ H Q h => ?_
  exact seq2 (f := fun x y => match x, y with
      | .int i, .int j => if inLim i && inLim j && decide ((j - i).toNat ≤ top) then pure (.ol (rangeV i (j - i).toNat)) else bad
      | _, _ => bad) (Rr := fun x y H2 Q => ∃ i j, [x, y] = [V.int i, V.int j] ∧ ∀ p, H2 p = none → ∃ r i' j', [V.ref p] = [V.ref r] ∧ upd H2 p (.rng i j) r = some (.rng i' j') ∧ inLim i' = true ∧ inLim j' = true ∧ (j' - i').toNat ≤ 16777216 ∧ ∀ p', upd H2 p (.rng i j) p' = none → Q (.ref p') (upd (upd H2 p (.rng i j)) p' (.lst (rangeZ i' (j' - i').toNat)))) h fun g s u w x y H R b1 b2 q => by
    cases u with
    | int i =>
      cases w with
      | int j =>
        have q : Sim ((if inLim i && inLim j && decide ((j - i).toNat ≤ top) then pure (.ol (rangeV i (j - i).toNat)) else bad : M Rv) s) _ _ := q
        split at q
        · rename_i hc
          simp only [Bool.and_eq_true, decide_eq_true_eq] at hc
          have z1 := b1.flat_ rfl
          have z2 := b2.flat_ rfl
          cases z1
          cases z2
          refine ⟨i, j, rfl, fun p hp => ⟨p, i, j, rfl, upd_same, hc.1.1, hc.1.2, hc.2, fun p' hp' => ?_⟩⟩
          have R2 := R.heap (same_upd (o := .rng i j) hp)
          obtain ⟨R3, rr⟩ := R2.newLst hp' (rangeV_rel (K := X.K) (F := g.F) (ρ := g.ρ) (j - i).toNat i)
          exact q g _ _ (.refl g) R3 rr
        · exact q.elim
      | _ => exact q.elim
    | _ => exact q.elim
end
end VM

/-! VMExc: raise; try .. except of a class; an exception that a name keeps. -/
namespace VM
open PySem PySem.Spec PyProof.Rows L2
/-- an exception in the air: its class, its fields -/
def RXc (K : Fg) (kn : List Str) : RXT := fun g x cls d H => kn.contains x.c = true ∧ cls = .ref (He.ga K x.c) ∧
  ((x.fs = [] ∧ d = none) ∨ ∃ dd xs, d = some dd ∧ H dd = some (.xd xs) ∧ g.P dd = none ∧ (∀ a, g.ρ a ≠ some dd) ∧ RFs K g.F g.ρ xs x.fs)
/-- a class of exceptions stands where a body runs: called with n arguments, of which it keeps those in ns -/
structure Raised (X : Cx) (x : Str) (n : Nat) (ns : List Str) : Prop where
  make : ∀ {e : Expr} {es : List Expr} {ta : TA} {p pos : Pos}, PA X (e :: es) ta → (e :: es).length = n → stars (e :: es) = false → Gl X x →
    PMk X (.Call (.Name x p) (e :: es) [] pos) (fun σ H Q => ta σ H fun vs H1 => vs.length = n ∧ ((ns = [] → Q (.ref (He.ga X.K x)) none H1) ∧
      (ns ≠ [] → ∀ d xs, H1 d = none → (∀ (i : Nat) (f : Str), ns[i]? = some f → xs.lookup f = vs[i]?) → Q (.ref (He.ga X.K x)) (some d) (upd H1 d (.xd xs)))))
def raiseM (k : Str) (ns : List Str) (ms : M (List Vl)) : M Fl := do let vs ← ms; fun s => .exc ⟨k, ns.zip vs⟩ s
def tryM (cs : Str → Bool) (mb mh : M Fl) : M Fl := fun s => match mb s with
  | .exc x s' => if cs x.c then mh s' else .exc x s'
  | r => r
def tryA (cs : Str → Bool) (mb : M Fl) (i j : Nat) : M Fl := fun s => match mb s with
  | .exc x s' => if cs x.c then (do setS j (some (.v (.exn x.c x.fs))); setS i none; pure Fl.nx) s' else .exc x s'
  | r => r
theorem rfs_zip {K : Fg} {F : Hp} {ρ : Nat → Option Addr} {xs : List (Str × V)} : ∀ {ns : List Str} {us : List Vl} {vs : List V}, RVs K F ρ us vs → (∀ (i : Nat) (f : Str), ns[i]? = some f → xs.lookup f = vs[i]?) → RFs K F ρ xs (ns.zip us)
  | [], _, _, _, _ => .nil
  | _ :: _, _, _, .nil, _ => .nil
  | f :: ns, _, _, .cons h r, q => .cons (by have := q 0 f rfl; simpa using this) h (rfs_zip r fun i g e => by have := q (i + 1) g (by simpa using e); simpa using this)
section
variable {X : Cx} {RX : RXT} {W : WX} {e : Expr} {es : List Expr} {pos p q : Pos} {x k : Str} {n : Nat} {ns kn : List Str}
theorem ps_raise_ {ms : M (List Vl)} (hc : X.calm = true) (tk : Takes X W) (hq : Raised X x n ns) (pa : PA X (e :: es) (tAF X.K (RXc X.K kn) W ms)) (hn : (e :: es).length = n) (hs : stars (e :: es) = false) (hg : Gl X x) (hk : kn.contains x = true)
    (hl : ∀ s vs s', ms s = .ok vs s' → vs.length = n) : PS X (.Raise (some (.Call (.Name x p) (e :: es) [] q)) none pos) (tS X.K (RXc X.K kn) W (raiseM x ns ms)) :=
  (ps_raise hc tk (hq.make pa hn hs hg)).imp fun D σ H ⟨g, s, R, h⟩ => by
    unfold raiseM at h
    rw [sim_bind] at h
    refine ⟨g, s, R, ?_⟩
    have key : ∀ us s1, ms s = .ok us s1 → ZxS X.K (RXc X.K kn) W g ⟨x, ns.zip us⟩ s1 → ∀ g1 H1 vs, Ext g g1 → Rel X.K g1 s1 σ H1 → RVs X.K g1.F g1.ρ us vs → vs.length = n ∧ ((ns = [] → W (.ref (He.ga X.K x)) none σ H1) ∧
      (ns ≠ [] → ∀ d xs, H1 d = none → (∀ (i : Nat) (f : Str), ns[i]? = some f → xs.lookup f = vs[i]?) → W (.ref (He.ga X.K x)) (some d) σ (upd H1 d (.xd xs)))) := by
      intro us s1 em z g1 H1 vs e1 R1 b1
      refine ⟨by rw [← b1.length]; exact hl _ _ _ em, fun e0 => ?_, fun _ d xs hd hx => ?_⟩
      · exact z g1 σ H1 _ none e1.toExtS R1 ⟨hk, rfl, .inl ⟨by rw [e0]; rfl, rfl⟩⟩
      · have fr := R1.hr.free hd
        exact z g1 σ (upd H1 d (.xd xs)) _ (some d) e1.toExtS (R1.heap (same_upd hd)) ⟨hk, rfl, .inr ⟨d, xs, rfl, upd_same, fr.1, fr.2, rfs_zip b1 hx⟩⟩
    cases em : ms s with
    | bad => rw [em] at h; exact h.elim
    | exc y s1 => rw [em] at h; exact (show ZxS X.K (RXc X.K kn) W g y s1 from h).at σ
    | ok us s1 =>
      rw [em] at h
      exact fun g1 H1 vs e1 R1 b1 => key us s1 em h g1 H1 vs e1 R1 b1
/-- try: body, except x: suite -/
theorem ps_try_ {body suite : List Stmt} {b₀ : Stmt} {np pos' : Pos} {c : Value} {cs : Str → Bool} {mb mh : M Fl} (hs : X.stack = X.env :: X.outer) (hf : X.env.frame = some X.env.locals) (hc : Names X x c) (tk : Takes X W)
    (hb : ∀ (W : WX) (pn : List (Addr × Obj)) (xe : Value → Shared → Prop), Takes (X.tr pn xe) W → PassesOwn (model X.prog X.w) X.A X.env xe → PSs (X.tr pn xe) body (tS X.K RX W mb))
    (hh : ∀ (a : Addr) (pn : List (Addr × Obj)), PSs (X.suite a pn) (b₀ :: suite) (tS X.K RX W mh)) (hcs : ∀ g y cls d H, RX g y cls d H → PySem.W.exmOne X.K cls c = some (cs y.c)) :
    PS X (.Try body [.ExceptHandler (some (.Name x np)) none (b₀ :: suite) pos'] [] [] pos) (tS X.K RX W (tryM cs mb mh)) :=
  (ps_try_only (tb := fun W => tS X.K RX W mb) (ts := fun _ _ _ => tS X.K RX W mh) hs hf hc tk hb (fun a oe cls d pn _ _ => hh a ((a, oe) :: pn))).imp fun D σ H ⟨g, s, R, h⟩ => by
    refine ⟨g, s, R, ?_⟩
    unfold tryM at h
    cases z : mb s with
    | bad => rw [z] at h; exact h
    | ok f s' => rw [z] at h; exact h
    | exc y s' =>
      rw [z] at h
      intro g' σ' H' cls d e1 R1 rx
      refine ⟨cs y.c, hcs g' y cls d H' rx, fun hb a _ => ?_, fun hb => ?_⟩
      · have h : Sim (if cs y.c = true then mh s' else .exc y s') _ _ := h
        rw [if_pos hb] at h
        exact ⟨g', s', R1, h.mono (fun f s2 w g2 σ2 H2 e2 R2 => w g2 σ2 H2 (e1.trans e2) R2) fun _ _ w => w.ext e1⟩
      · have h : Sim (if cs y.c = true then mh s' else .exc y s') _ _ := h
        rw [if_neg (by rw [hb]; simp)] at h
        exact h g' σ' H' cls d e1 R1 rx
end
end VM

/-! VMExa: try .. except x as e: y = e. -/
namespace VM
open PySem PySem.Spec PyProof.Rows L2
section
variable {X : Cx} {pins : List (Addr × Obj)} {σ : L2.St} {H : Hp} {s : Shared}
/-- a new object that nobody tracked is tracked -/
theorem inv_track {a : Addr} {o : HO} (I : Inv X pins σ H s) (n0 : X.s_0.heap.get? a = none) (na : H a = none) (nL : a ≠ X.env.locals) (nC : ∀ x c, X.env.cells.lookup x = some c → c ≠ a) (nP : ∀ p ∈ X.pn ++ pins, p.1 ≠ a)
    (new : ObjOk X.prog X.w (upd H a o) s.heap a o) : Inv X pins σ (upd H a o) s := by
  have old : ∀ {b : Addr} {u : Obj}, X.s_0.heap.get? b = some u → b ≠ a := fun {b u} e z => by rw [z, n0] at e; cases e
  have tr : ∀ {b : Addr} {u : HO}, H b = some u → b ≠ a := fun {b u} e z => by rw [z, na] at e; cases e
  refine ⟨I.ok, I.os, I.bare, ⟨I.base.keep, I.base.slot, fun b u e n hx => ?_, I.base.there, fun b xs e => ?_, fun b u xs e => ?_, fun b ps e => ?_⟩, I.loc, I.cell, ?_, fun x c e => ?_, fun p hp => ?_, fun b u e => ?_, I.len⟩
  · rw [upd_ne (old e)]; exact I.base.free b u e n hx
  · have z := I.base.tups b xs e; rw [upd_ne (tr z)]; exact z
  · have z := I.base.frzs b u xs e; rw [upd_ne (tr z)]; exact z
  · obtain ⟨m, z⟩ := I.base.tbls b ps e; exact ⟨m, by rw [upd_ne (tr z)]; exact z⟩
  · rw [upd_ne (Ne.symm nL)]; exact I.free
  · rw [upd_ne (nC x c e)]; exact I.freeC x c e
  · obtain ⟨q1, q2, q3⟩ := I.pin p hp
    exact ⟨q1, by rw [upd_ne (nP p hp)]; exact q2, q3⟩
  · by_cases hb : b = a
    · subst hb; rw [upd_same] at e; cases e; exact new
    · rw [upd_ne hb] at e
      exact (I.hok b u e).stay (fun _ _ _ z => z) (fun c z => by rw [upd_ne (tr z)]; exact z) fun c xs z => by rw [upd_ne (tr z)]; exact z
theorem exnH_ok {P : Program} {w : World} {h : PySem.Heap} {C a : Addr} {d : Option Addr} {oe : Obj} {vs : Array Value} (e : h.get? a = some oe) (z : Zc (.ref C) d oe) (hd : oe.data = .fields vs) : ObjOk P w H h a (exnH C a d) :=
  ⟨⟨oe, vs, e, z, hd⟩, ⟨oe, e⟩, fun _ _ ⟨o, v, q, r⟩ k => ⟨o, v, k o q, r⟩⟩
end
/-- what the clause 'except x as e: y = e' wishes of an exception of the body -/
def wKeep (K : Fg) (c : Value) (i j : Nat) (Wout : WX) (D : Ends) : WX := fun cls d σ H =>
  ∃ b C, PySem.W.exmOne K cls c = some b ∧ cls = .ref C ∧ (b = true → ∀ a, H a = none → D.nx ((σ.set j (some (.ref a))).set i none) (upd H a (exnH C a d))) ∧ (b = false → Wout cls d σ H)
section
variable {X : Cx} {x n y : Str} {c : Value} {i j : Nat} {body : List Stmt} {np p1 p2 p3 pos pos' : Pos} {tb : WX → TS} {Wout : WX}
theorem ps_try_keep (hs : X.stack = X.env :: X.outer) (hf : X.env.frame = some X.env.locals) (hex : X.ex = []) (hN : X.N.Nodup) (hi : X.N[i]? = some n) (hj : X.N[j]? = some y) (hij : i ≠ j) (hln : X.env.kindOf n = some .local) (hly : X.env.kindOf y = some .local)
    (hdn : (n == ("__debug__" : Str)) = false) (hcn : (n == ("__classdict__" : Str)) = false) (hc : Names X x c) (tk : Takes X Wout)
    (hb : ∀ (W : WX) (pn : List (Addr × Obj)) (xe : Value → Shared → Prop), Takes (X.tr pn xe) W → PassesOwn (model X.prog X.w) X.A X.env xe → PSs (X.tr pn xe) body (tb W)) :
    PS X (.Try body [.ExceptHandler (some (.Name x np)) (some n) [.Assign [.Name y p1] (.Name n p2) p3] pos'] [] [] pos) (fun D σ H => tb (wKeep X.K c i j Wout D) D σ H) := by
  refine ⟨fun pins s σ H D I h => ?_⟩
  have ok := I.ok
  have hfr : X.A.frames = some (X.env :: X.outer) := by rw [ok.frames, hs]
  refine wpAny_Try_except ?_
  refine wpAny_mono ((hb (wKeep X.K c i j Wout D) (X.pn ++ pins) (fun e s₁ => wpAny (model X.prog X.w) X.A (noteFrame e X.env) (fun _ s₂ => wpAny (model X.prog X.w) X.A (setFlight e none) (fun _ s₃ =>
    wpAny (model X.prog X.w) X.A (handleBy e X.env [.ExceptHandler (some (.Name x np)) (some n) [.Assign [.Name y p1] (.Name n p2) p3] pos']) (SP X pins D) X.xe s₃) X.xe s₂) X.xe s₁) (fun u s' xx => ?_) PassesOwn.looking).run [] s σ H D (I.toTry _) h) (fun f s1 hsp => ?_) (fun e s1 he => he)
  · obtain ⟨a, B, sI, pins', σ', H', cls, d, rfl, J', nb, up, sky, na, os, ag, b, C, hb1, rfl, hyes, hno⟩ := xx
    have J : Inv X pins σ' H' sI := J'.ofTry ok
    have nB : B.get? a = none := by
      rcases sky with ⟨_, z, _⟩ | z | z
      · exact z
      · exact z.2.1
      · exact z.2.1
    have sky' : Sky B (X.env :: X.outer) a (Zc (.ref C) d) X.env.locals s'.heap := by rw [← hs]; exact sky
    show wpAny (model X.prog X.w) X.A (noteFrame (.ref a) X.env) _ _ _
    refine Sky.land Zc.steady hfr hf sky' fun h3 fl3 up3 => ?_
    have J3 : Inv X pins σ' H' { s' with heap := h3 } := J.landed nb fl3.1 (up.trans up3) os ag
    obtain ⟨oe3, vs3, he3, hz3, hd3⟩ := fl3.there
    have nfr : a ∉ frs (X.env :: X.outer) := fun hm => by
      obtain ⟨_, o', e', hnf⟩ := fl3.2.2.1.mem hm
      rw [he3] at e'; cases e'
      exact hnf _ hd3
    have nL : a ≠ X.env.locals := fun z => nfr (List.mem_filterMap.mpr ⟨X.env, List.mem_cons_self, by rw [hf, z]⟩)
    have nF : a ∉ X.fs := fun hm => by
      obtain ⟨e, he, q⟩ := List.mem_filterMap.mp hm
      exact nfr (List.mem_filterMap.mpr ⟨e, List.mem_cons_of_mem _ he, q⟩)
    have nI : sI.heap.get? a = none := by
      cases e : sI.heap.get? a with
      | none => rfl
      | some o =>
        have z := nb a o e (by rw [hs]; exact nfr)
        rw [nB] at z; cases z
    have n0 : X.s_0.heap.get? a = none := by
      cases e : X.s_0.heap.get? a with
      | none => rfl
      | some o =>
        obtain ⟨o', z⟩ := J.base.there a o e (by rw [hex]; exact fun z => nomatch z)
        rw [nI] at z; cases z
    have nP : ∀ p ∈ X.pn ++ pins, p.1 ≠ a := fun p hp z => by
      have q := (J.pin p hp).1
      rw [z, nI] at q; cases q
    have nC : ∀ x c, X.env.cells.lookup x = some c → c ≠ a := fun x c e z => by
      obtain ⟨v, o, ho, _⟩ := J.cell x c e
      rw [z, nI] at ho; cases ho
    have S3 := J3.suite he3 hd3 na nL nF
    refine wpAny_handleBy_cons (codeAny_handlers_test ?_) (by intro q; cases q)
    have LT : PySem.W.Looks (model X.prog X.w) h3 (typeOf (.ref a)) (.ref C) := fun A Q E s k q => wpAny_typeOf_ref (k _ _ he3) (by rw [hz3.1]; exact q)
    have LM := PySem.W.exm_one (M := model X.prog X.w) (J3.kIn) LT hb1
    have test : ∀ {Q : Value → Shared → Prop} {E : Value → Shared → Prop}, Q c { s' with heap := h3 } → wpAny (model X.prog X.w) (X.A.mark (some (.ref a))) (eval (.Name x np) X.env) Q E { s' with heap := h3 } := fun {Q E} q => by
      obtain ⟨hg, hdbg, hm | ⟨hm, hv, hnn⟩⟩ := hc
      · exact ld_glob (X := X.suite a ((a, oe3) :: (X.pn ++ pins))) S3 hg hm q hdbg
      · exact ld_blt (X := X.suite a ((a, oe3) :: (X.pn ++ pins))) S3 hg hm hv q hnn hdbg
    refine test (LM.here ?_)
    cases b with
    | true =>
      refine codeAny_handlers_suite_as ?_
      refine HandSPX.lands_againZ fl3 fun h4 fl4 up4 => ?_
      have J4 : Inv X pins σ' H' { s' with heap := h4 } := J.landed nb fl4.1 ((up.trans up3).trans up4) os ag
      obtain ⟨oe4, vs4, he4, hz4, hd4⟩ := fl4.there
      have S4 := J4.suite he4 hd4 na nL nF
      refine store_ok (X := X.suite a ((a, oe4) :: (X.pn ++ pins))) (v := .ref a) S4 hN hi (.inl hln) rfl (fun s5 S5 => ?_) (.inr hln)
      have hset : PSs (X.suite a ((a, oe4) :: (X.pn ++ pins))) [.Assign [.Name y p1] (.Name n p2) p3] (tSeq (tAsg (tVar i) (gName j)) tNext) :=
        pss_cons (ps_set (X := X.suite a ((a, oe4) :: (X.pn ++ pins))) hN hj (.inl hly) (pe_var hi (.inl hln) hdn hcn) rfl (.inr hly)) pss_nil
      have hiσ : i < σ'.length := by rw [J.len]; exact (List.getElem?_eq_some_iff.mp hi).1
      let D6 : Ends := { nx := fun σ6 H6 => σ6 = (σ'.set i (some (.ref a))).set j (some (.ref a)) ∧ H6 = H', rt := fun _ _ => False }
      refine wpAny_mono (hset.run [] s5 _ H' D6 S5 ⟨.ref a, by rw [List.getElem?_set_self hiσ], rfl, rfl⟩) (fun f s6 hsp => ?_) (fun _ _ z => False.elim z)
      cases f with
      | brk => obtain ⟨_, _, _, z⟩ := hsp; exact z.elim
      | cont => obtain ⟨_, _, _, z⟩ := hsp; exact z.elim
      | ret u => obtain ⟨_, _, _, _, _, z⟩ := hsp; exact z.elim
      | next =>
        obtain ⟨σ6, H6, S6, rfl, rfl⟩ := hsp
        have p6 := S6.pin (a, oe4) (List.mem_append_left _ List.mem_cons_self)
        have U6 : Inv X pins _ _ s6 := S6.unsuite ok
        have V6 : Inv X ((a, oe4) :: pins) _ _ s6 := U6.pins_of fun p hp => by
          rcases List.mem_cons.mp hp with z | z
          · rw [z]; exact p6
          · exact U6.pin p (List.mem_append_right _ z)
        refine gone_ok V6 hN hi hln fun s7 J7 => ?_
        have p7 := (J7.pin (a, oe4) (List.mem_append_right _ List.mem_cons_self))
        have J8 : Inv X pins _ _ s7 := J7.pins_of fun p hp => J7.pin p (List.mem_append_right _ (List.mem_cons_of_mem _ hp))
        refine ⟨_, _, inv_track (o := exnH C a d) J8 n0 na nL nC nP (exnH_ok p7.1 hz4 hd4), ?_⟩
        have es : (((σ'.set i (some (.ref a))).set j (some (.ref a))).set i none : L2.St) = (σ'.set j (some (.ref a))).set i none := by
          rw [List.set_comm _ _ hij, List.set_set]
        rw [es]
        exact hyes rfl a na
    | false =>
      show wpAny _ X.A (handleBy (.ref a) X.env []) _ _ _
      refine wpAny_handleBy_nil ?_
      obtain ⟨k1, k2, k3, oe, vs, T, oT, ts', he, hz, hd, h1, hr⟩ := id fl3
      unfold PySem.passOn
      refine wpAny_bind (wpAny_field he hd h1 ?_)
      rw [if_neg (show ¬ ((Value.ref T == Value.none) = true) from by simp)]
      have fin : wpAny (model X.prog X.w) X.A (setFlight (.ref a) X.env.frame) (fun _ s4 => wpAny (model X.prog X.w) X.A (throw (.ref a) : Sem Flow) (SP X pins D) X.xe s4) X.xe { s' with heap := h3 } := by
        rw [hf]
        refine HandSPX.setFlight_upZ fl3 fun h4 hh4 up4 => wpAny_throw (tk _ _ ?_)
        exact ⟨a, B, sI, pins, σ', H', _, d, rfl, J, nb, (up.trans up3).trans up4, .inr (.inr (by rw [hs]; exact hh4)), na, os, ag, hno rfl⟩
      first
        | exact wpAny_bind (wpAny_pure (wpAny_bind fin))
        | exact wpAny_bind fin
  · cases f with
    | next => obtain ⟨σ', H', J', q⟩ := hsp; exact wpAny_execs_nil ⟨σ', H', J'.ofTry ok, q⟩
    | brk => obtain ⟨σ', H', J', q⟩ := hsp; exact ⟨σ', H', J'.ofTry ok, q⟩
    | cont => obtain ⟨σ', H', J', q⟩ := hsp; exact ⟨σ', H', J'.ofTry ok, q⟩
    | ret u => obtain ⟨v, σ', H', J', r, q⟩ := hsp; exact ⟨v, σ', H', J'.ofTry ok, r, q⟩
end
section
variable {K : Fg} {g : Gh} {s : St} {σ : L2.St} {H : Hp}
/-- a name goes -/
theorem Rel.setN (R : Rel K g s σ H) {i : Nat} : Rel K (g.dis [i]) { s with env := s.env.set i none } (σ.set i none) H := by
  refine ⟨R.hr.dis _, by rw [List.length_set, List.length_set]; exact R.len, fun j r' x' h1 h2 => ?_, fun i j p h1 h2 => R.apart i j p (Gh.dis_own h1).1 (Gh.dis_own h2).1, fun j p h => ?_⟩
  · by_cases z : i = j
    · subst z
      have hi : i < s.env.length := by have := (List.getElem?_eq_some_iff.mp h1).1; rw [List.length_set] at this; exact this
      rw [List.getElem?_set_self hi] at h1
      cases h1
      exact if_pos (List.mem_singleton.mpr rfl)
    · rw [List.getElem?_set_ne z] at h1 h2
      exact RSlot.ext (g.dis_ext _) (if_neg fun h => z (List.mem_singleton.mp h).symm) (R.slot j r' x' h1 h2)
  · obtain ⟨a, b⟩ := R.own j p (Gh.dis_own h).1
    exact ⟨by rw [List.length_set]; exact a, b⟩
/-- an exception that was caught is a value from now on -/
theorem Rel.caught (R : Rel K g s σ H) {y : Ex} {d : Option Addr} {a : Addr} {kn : List Str} (rx : RXc K kn g y (.ref (He.ga K y.c)) d H) (na : H a = none) :
    ∃ g', Ext g g' ∧ Rel K g' s σ (upd H a (exnH (He.ga K y.c) a d)) ∧ RV K g'.F g'.ρ (.exn y.c y.fs) (.ref a) := by
  have fr := R.hr.free na
  have R1 := R.heap (same_upd (o := exnH (He.ga K y.c) a d) na)
  obtain ⟨x1, R2⟩ := R1.frz upd_same fr.1 fr.2
  rcases rx.2.2 with ⟨e1, e2⟩ | ⟨dd, xs, e1, h1, h2, h3, h4⟩
  · subst e2
    refine ⟨_, x1, R2, ?_⟩
    rw [e1]
    exact .exn0 frz_F
  · subst e1
    have ne : dd ≠ a := fun z => by rw [z, na] at h1; cases h1
    obtain ⟨x2, R3⟩ := R2.frz (p := dd) (o := .xd xs) (by rw [upd_ne ne]; exact h1) (by show upd g.P a _ dd = none; rw [upd_ne ne]; exact h2) h3
    refine ⟨_, x1.trans x2, R3, .exn (xs := xs) (x2.F _ _ frz_F) frz_F ?_⟩
    exact h4.mono (x1.trans x2).F (x1.trans x2).ρ
end
section
variable {X : Cx} {W : WX} {x n y : Str} {c : Value} {i j : Nat} {body : List Stmt} {np p1 p2 p3 pos pos' : Pos} {cs : Str → Bool} {mb : M Fl} {kn : List Str}
theorem ps_trya_ (hs : X.stack = X.env :: X.outer) (hf : X.env.frame = some X.env.locals) (hex : X.ex = []) (hN : X.N.Nodup) (hi : X.N[i]? = some n) (hj : X.N[j]? = some y) (hij : i ≠ j) (hln : X.env.kindOf n = some .local) (hly : X.env.kindOf y = some .local)
    (hdn : (n == ("__debug__" : Str)) = false) (hcn : (n == ("__classdict__" : Str)) = false) (hc : Names X x c) (tk : Takes X W)
    (hb : ∀ (W : WX) (pn : List (Addr × Obj)) (xe : Value → Shared → Prop), Takes (X.tr pn xe) W → PassesOwn (model X.prog X.w) X.A X.env xe → PSs (X.tr pn xe) body (tS X.K (RXc X.K kn) W mb))
    (hcs : ∀ g y cls d H, RXc X.K kn g y cls d H → PySem.W.exmOne X.K cls c = some (cs y.c)) :
    PS X (.Try body [.ExceptHandler (some (.Name x np)) (some n) [.Assign [.Name y p1] (.Name n p2) p3] pos'] [] [] pos) (tS X.K (RXc X.K kn) W (tryA cs mb i j)) :=
  (ps_try_keep (tb := fun W => tS X.K (RXc X.K kn) W mb) hs hf hex hN hi hj hij hln hly hdn hcn hc tk hb).imp fun D σ H ⟨g, s, R, h⟩ => by
    refine ⟨g, s, R, ?_⟩
    unfold tryA at h
    cases z : mb s with
    | bad => rw [z] at h; exact h
    | ok f s' => rw [z] at h; exact h
    | exc y s' =>
      rw [z] at h
      intro g' σ' H' cls d e1 R1 rx
      refine ⟨cs y.c, He.ga X.K y.c, hcs g' y cls d H' rx, rx.2.1, fun hb a na => ?_, fun hb => ?_⟩
      · have h : Sim (if cs y.c = true then (do setS j (some (.v (.exn y.c y.fs))); setS i none; pure Fl.nx : M Fl) s' else .exc y s') _ _ := h
        rw [if_pos hb, sim_bind] at h
        obtain ⟨l1, h⟩ := sim_setS h
        rw [sim_bind] at h
        obtain ⟨l2, h⟩ := sim_setS h
        obtain rfl := rx.2.1
        obtain ⟨g2, e2, R2, rv⟩ := R1.caught rx na
        exact h _ _ _ ((e1.trans e2.toExtS).trans ((g2.dis_ext [j]).toExtS.trans (Gh.dis_ext _ [i]).toExtS)) (R2.setV rv).setN
      · have h : Sim (if cs y.c = true then (do setS j (some (.v (.exn y.c y.fs))); setS i none; pure Fl.nx : M Fl) s' else .exc y s') _ _ := h
        rw [if_neg (by rw [hb]; simp)] at h
        exact h g' σ' H' cls d e1 R1 rx
end
end VM

set_option maxHeartbeats 2000000
/-! VMExv: a caught exception as a value: its fields, isinstance. -/
namespace VM
open PySem PySem.Spec PySem.Calls PyProof.Rows L2
/-- what a class of caught exceptions must say -/
structure XkC (K : Fg) (D : Addr) : Prop where
  hg : PySem.W.findIn K (.ref D) "__getattribute__" = some (some (.builtin "BaseException.__getattribute__"))
  hk : PySem.W.findIn K (.ref D) "__getattr__" = some none
  hs : PySem.W.subIn K (.ref D) (.type "BaseException") = some true
  hd : PySem.W.hasDictIn K D = true
  ha : PySem.W.findIn K (.ref D) "__class__" = some (some (.builtin "object.__class__"))
  hn : PySem.W.specialIn K (.builtin "object.__class__") "__get__" = some (some (.builtin "getset_descriptor.__get__"))
  ht : PySem.W.takesIn K (.builtin "object.__class__") = some true
  hm : PySem.W.mroIn K D (.type "object") = some true
section
variable {X : Cx} {pins : List (Addr × Obj)} {σ : L2.St} {H : Hp} {s : Shared}
/-- the object of a caught exception -/
theorem exn_at {C a : Addr} {d : Option Addr} (I : Inv X pins σ H s) (e : H a = some (exnH C a d)) (hd : ∀ dd, d = some dd → ∃ fs, H dd = some (.xd fs)) : ∃ oe od, PySem.W.InstAt s.heap a oe C od := by
  obtain ⟨⟨oe, vs, h1, h2, h3⟩, _⟩ := (show ObjOk X.prog X.w H s.heap a (exnH C a d) from I.hok a _ e)
  have hn : PySem.W.notCls oe = true := by unfold PySem.W.notCls; rw [h3] <;> rfl
  cases d with
  | none => exact ⟨oe, none, h1, h2.1, hn, by rw [h2.2]; exact True.intro⟩
  | some dd =>
    obtain ⟨fs, q⟩ := hd dd rfl
    obtain ⟨mA, hns, _⟩ := (show ObjOk X.prog X.w H s.heap dd (.xd fs) from I.hok dd _ q)
    obtain ⟨od, ho, _⟩ := lookIn_ns hns
    exact ⟨oe, some od, h1, h2.1, hn, by rw [h2.2]; exact ho⟩
end
section
variable {prog : Program} {w : World} {K : Fg} {x D : Addr} {ox : Obj} {od : Option Obj}
theorem find_cls (hc : (PySem.W.clsIn K D).isSome = true) (k : XkC K D) : PySem.W.findObj K D od "__class__" = some (.bind (.builtin "getset_descriptor.__get__") (.builtin "object.__class__")) := by
  obtain ⟨cd, hc⟩ := Option.isSome_iff_exists.mp hc
  unfold PySem.W.findObj
  rw [hc, Option.bind_some, k.ha, Option.bind_some]
  simp [k.hn, k.ht]
theorem cls_isSome (k : XkC K D) : (PySem.W.clsIn K D).isSome = true := by
  obtain ⟨cd, hc, _⟩ := PySem.W.any_some k.hd
  rw [hc]; rfl
/-- e.__class__ -/
theorem exn_class {A : Around} {E : Value → Shared → Prop} {s : Shared} {Q : Option Value → Shared → Prop} (k : XkC K D) (X : K.In s.heap) (I : PySem.W.InstAt s.heap x ox D od) (h : Q (some (.ref D)) { s with toks := s.toks + 1 }) :
    wpAny (model prog w) A (getAttr? (.ref x) "__class__") Q E s := by
  have hf := find_cls (od := od) (cls_isSome k) k
  obtain ⟨hp, g, d, t, os⟩ := s
  have L0 := I.type (M := model prog w)
  have L1 := PySem.W.looks_findIn (M := model prog w) X k.hg
  have L2 := PySem.W.looks_findIn (M := model prog w) X k.hk
  have L3 := PySem.W.looks_find (M := model prog w) X I hf
  have sub : PySem.W.Looks (model prog w) hp (isInstance (.ref x) (.type "BaseException")) true := L0.andThen (PySem.W.looks_subIn X k.hs)
  have e2 : (Value.builtin "BaseException.__getattribute__" == Value.builtin "object.__getattribute__") = false := by decide +kernel
  have e1 : (onTheHeap (Value.ref D) && Value.builtin "BaseException.__getattribute__" == Value.builtin "object.__getattribute__") = false := by rw [e2]; rfl
  unfold getAttr? getAttrBy? getAttrBy
  refine wpAny_bind (wpAny_mkText (wpAny_bind (wpAny_attempt (wpAny_holding (wpAny_bind (L0.at (wpAny_bind (L1.at ?_))))))))
  show wpAny _ _ (if (onTheHeap (Value.ref D) && Value.builtin "BaseException.__getattribute__" == Value.builtin "object.__getattribute__") = true then _ else _) _ _ _
  rw [e1, if_neg Bool.false_ne_true]
  unfold getAttrByItsOwn hookBefore
  refine wpAny_bind ?_
  rw [if_pos (show onTheHeap (Value.ref D) = true from rfl)]
  refine L2.at (wpAny_bind (wpAny_attempt (wpAny_holding ?_)))
  unfold callGetattribute
  rw [show (false && onTheHeap (Value.builtin "BaseException.__getattribute__")) = false from rfl, if_neg Bool.false_ne_true]
  unfold boundAndCalled
  rw [PySem.F.excAttr_ValueError.ga.bind (.ref x)]
  refine wpAny_bind (wpAny_pure ?_)
  show wpAny _ _ (call (.builtin "BaseException.__getattribute__") [.ref x, .str "__class__" t]) _ _ _
  refine wpAny_call (codeAny_call_builtin PySem.F.excAttr_ValueError.ga.plain PySem.F.entry_bexc_ga ?_)
  refine @PySem.W.check_slot (model prog w) _ _ ⟨hp, g, d, t + 1, os⟩ "BaseException.__getattribute__" "BaseException" "__getattribute__" (.ref x) [.str "__class__" t] [] _ (by decide +kernel) (by decide +kernel) sub (PySem.F.args_bexc_ga (.ref x) (.str "__class__" t)) ?_
  unfold Builtin.«object.__getattribute__»
  refine wpAny_bind (wpAny_of_eq (a := ((Value.ref x : Value), [Value.str "__class__" t])) (by first | rfl | (simp only [slotArgs]; rfl)) ?_)
  refine wpAny_bind (wpAny_pure (wpAny_bind (L0.at (wpAny_bind (L3.at ?_)))))
  show wpAny _ _ (holding [Value.builtin "object.__class__"] (call (.builtin "getset_descriptor.__get__") [.builtin "object.__class__", .ref x, .ref D]) >>= ret) _ _ _
  refine wpAny_bind (wpAny_holding (wpAny_call (PySem.W.class_get (s := ⟨hp, g, d, t + 1, os⟩) (ox := ox) (od := od) X I k.hm ?_)))
  refine wpAny_pure ?_
  show wpAny _ _ (handedOut (.ref D)) _ _ _
  rw [PySem.W.handedOut_of (v := .ref D) rfl]
  first
    | exact wpAny_pure (wpAny_pure h)
    | exact wpAny_pure h
    | exact wpAny_pure (wpAny_bind (wpAny_pure (wpAny_pure h)))
theorem kit_exn (k : XkC K D) : PySem.W.KitX K (.ref x) (.ref D) (fun h => PySem.W.InstAt h x ox D od) where
  ty := fun _ _ _ I => I.type
  it := fun _ _ X _ => by
    have hc := cls_isSome k
    unfold PySem.W.clsIn at hc
    split at hc
    · rename_i c' d' cd' sl' ho
      intro A' Q' E' s' kk q
      unfold isType loadHead
      exact wpAny_bind (wpAny_loadPart (kk _ _ (X _ _ ho)) (wpAny_pure q))
    · cases hc
  ne := fun h tp dd its n sl X htp => by
    refine Bool.eq_false_iff.mpr fun q => ?_
    have e : D = tp := Value.ref.inj (beq_iff_eq.mp q)
    subst e
    have hc := cls_isSome k
    unfold PySem.W.clsIn at hc
    split at hc
    · rename_i c' d' cd' sl' ho
      have z := (X _ _ ho).symm.trans htp
      cases z
    · cases hc
  ca := fun X I q => exn_class k X I q
end
/-- isinstance(e, c) -/
def rIx (K : Fg) : List V → Hp → VK → Prop := fun xs H Q => ∃ (a D : Addr) (d : Option Addr) (c : V) (u : Value) (b : Bool), xs = [.ref a, c] ∧ ClsV c u ∧ H a = some (exnH D a d) ∧ (∀ dd, d = some dd → ∃ fs, H dd = some (.xd fs)) ∧ XkC K D ∧ PySem.W.kitOne K (.ref D) u = some b ∧ Q (.bl b) H
/-- isinstance(e, (c1, c2, ..)) -/
def rIxT (K : Fg) : List V → Hp → VK → Prop := fun xs H Q => ∃ (a D : Addr) (d : Option Addr) (tp : Addr) (cs : List V) (us : List Value) (b : Bool), xs = [.ref a, .ref tp] ∧ H tp = some (.tup cs) ∧ Paired ClsV cs us ∧ H a = some (exnH D a d) ∧ (∀ dd, d = some dd → ∃ fs, H dd = some (.xd fs)) ∧ XkC K D ∧ PySem.W.kitAny K (.ref D) us = some b ∧ Q (.bl b) H
section
variable {X : Cx}
theorem call_ix : CallR X (.builtin "isinstance") (rIx X.K) := by
  intro pins s σ H xs us Q I r h
  obtain ⟨a, D, d, c, u, b, rfl, k, ea, hd, xk, e, q⟩ := h
  obtain ⟨u1, u2, rfl, r1, r2⟩ := vals2 r
  have e2 := k.eq r2
  subst e2
  cases (show u1 = Value.ref a from r1)
  obtain ⟨oe, od, J⟩ := exn_at I ea hd
  exact PySem.W.kia_one (kit_exn xk) I.kIn J e (fun z => nomatch z) fun tk => ⟨.bl b, H, I.tok tk, rfl, q⟩
theorem call_ixT : CallR X (.builtin "isinstance") (rIxT X.K) := by
  intro pins s σ H xs us Q I r h
  obtain ⟨a, D, d, tp, cs, ws, b, rfl, hT, k, ea, hd, xk, e, q⟩ := h
  obtain ⟨u1, u2, rfl, r1, r2⟩ := vals2 r
  cases (show u1 = Value.ref a from r1)
  cases (show u2 = Value.ref tp from r2)
  obtain ⟨oe, od, J⟩ := exn_at I ea hd
  obtain ⟨_, its, rv, o, h1, h2, n, h3⟩ := (show ObjOk X.prog X.w H s.heap tp (.tup cs) from I.hok tp _ hT)
  have e3 := ClsV.all k rv
  subst e3
  obtain ⟨oc, od, dt, sl⟩ := o
  simp only at h2 h3
  subst h2 h3
  exact PySem.W.kia_tup (kit_exn xk) I.kIn J h1 e (fun z => nomatch z) fun tk => ⟨.bl b, H, I.tok tk, rfl, q⟩
theorem pe_cname {x : Str} {c : Value} {v : V} {p : Pos} (h : Names X x c) (rv : RelV v c) : PE X (.Name x p) (tC v) := by
  refine ⟨fun pins s σ H Q I q => ?_⟩
  obtain ⟨hg, hd, hm | ⟨hm, hv, hn⟩⟩ := h
  · exact ld_glob I hg hm ⟨v, H, I, rv, q⟩ hd
  · exact ld_blt I hg hm hv ⟨v, H, I, rv, q⟩ hn hd
/-- e.f -/
theorem pe_xfld {e : Expr} {te : TE} {f : Str} {pos : Pos} (he : PE X e te) (hb : attributeBase e f X.env (eval e X.env) = eval e X.env := by rfl) :
    PE X (.Attribute e f pos) (fun σ H Q => te σ H fun x H1 => ∃ (a D dd : Addr) (fs : List (Str × V)) (v : V), x = .ref a ∧ H1 a = some (exnH D a (some dd)) ∧ H1 dd = some (.xd fs) ∧ XkC X.K D ∧ PySem.W.findIn X.K (.ref D) f = some none ∧ fs.lookup f = some v ∧ Q v H1) := by
  refine ⟨fun pins s σ H Q I h => ?_⟩
  refine attr_of hb (thn (he.run pins s σ H _ I h) fun u s1 hh => ?_)
  obtain ⟨x, H1, I1, rx, a, D, dd, fs, v, rfl, ea, ed, T, hno, l, q⟩ := hh
  obtain rfl : u = Value.ref a := rx
  obtain ⟨⟨oe, vs, h1, h2, h3⟩, _⟩ := (show ObjOk X.prog X.w H1 s1.heap a (exnH D a (some dd)) from I1.hok a _ ea)
  have hn : PySem.W.notCls oe = true := by unfold PySem.W.notCls; rw [h3] <;> rfl
  obtain ⟨mA, hns, hr⟩ := (show ObjOk X.prog X.w H1 s1.heap dd (.xd fs) from I1.hok dd _ ed)
  obtain ⟨od, ho, hl⟩ := lookIn_ns hns
  obtain ⟨u, hu, ru⟩ := RelO.some_of (v := v) (o := mA f) (by rw [← l]; exact hr f)
  have J : PySem.W.InstAt s1.heap a oe D (some od) := ⟨h1, h2.1, hn, by rw [h2.2]; exact ho⟩
  exact HandSPX.exc_get I1.kIn J T.hg T.hk T.hs (PySem.W.findObj_own T.hd hno rfl (by rw [hl, hu])) (handed_of ru) ⟨v, H1, I1.tok _, ru, q⟩
end
/-! ### in the machine -/
theorem rv_exn {K : Fg} {g : Gh} {x : Str} {fs : List (Str × Vl)} {y : V} {h : VM.Heap} {H : Hp} (R : HRel K g h H) (b : RB K g (.exn x fs) y) :
    ∃ a d, y = .ref a ∧ H a = some (exnH (He.ga K x) a d) ∧ ((d = none ∧ fs = []) ∨ ∃ dd xs, d = some dd ∧ H dd = some (.xd xs) ∧ RFs K g.F g.ρ xs fs) := by
  have up : Same g.F H := R.fp.trans R.ph
  rcases b with b | ⟨_, _, _, z, _⟩ | ⟨_, _, _, z, _⟩
  · cases b with
    | exn0 h => exact ⟨_, none, rfl, up _ _ h, .inl ⟨rfl, rfl⟩⟩
    | exn h hd r => exact ⟨_, _, rfl, up _ _ h, .inr ⟨_, _, rfl, up _ _ hd, r⟩⟩
  · cases z
  · cases z
section
variable {X : Cx} {RX : RXT} {W : WX} {e : Expr} {pos p : Pos}
theorem pe_fld_ {m : M Vl} {kn : List Str} {f : Str} (pe : PE X e (tB X.K RX W m)) (hk : ∀ x, kn.contains x = true → XkC X.K (He.ga X.K x) ∧ PySem.W.findIn X.K (.ref (He.ga X.K x)) f = some none) (hb : attributeBase e f X.env (eval e X.env) = eval e X.env) :
    PE X (.Attribute e f pos) (tM X.K RX W (do
      let x ← m
      match x with
      | .exn c fs => if kn.contains c then (match fs.lookup f with
        | some v => pure (.v v)
        | none => bad) else bad
      | _ => bad)) :=
  (pe_xfld pe hb).imp fun σ H Q ⟨g, s, R, h⟩ => by
    rw [sim_bind] at h
    refine ⟨g, s, R, h.mono (fun u s1 q g1 H1 x e1 R1 b1 => ?_) fun _ _ z => z⟩
    cases u with
    | exn c fs =>
      have q : Sim ((if kn.contains c then (match fs.lookup f with
        | some v => pure (.v v)
        | none => bad) else bad : M Rv) s1) _ _ := q
      by_cases hc : kn.contains c = true
      · rw [if_pos hc] at q
        cases l : fs.lookup f with
        | none => rw [l] at q; exact q.elim
        | some v =>
          rw [l] at q
          obtain ⟨a, d, rfl, ha, hd⟩ := rv_exn R1.hr b1
          rcases hd with ⟨_, rfl⟩ | ⟨dd, xs, rfl, hd, rf⟩
          · cases l
          · obtain ⟨y, l2, rv⟩ := rf.get l
            exact ⟨a, _, dd, xs, y, rfl, ha, hd, (hk c hc).1, (hk c hc).2, l2, q g1 H1 y e1 R1 rv⟩
      · rw [if_neg hc] at q; exact q.elim
    | _ => exact q.elim
theorem exn_d {K : Fg} {d : Option Addr} {H : Hp} {P : Prop} {Z : Addr → List (Str × V) → Prop} (h : (d = none ∧ P) ∨ ∃ dd xs, d = some dd ∧ H dd = some (.xd xs) ∧ Z dd xs) : ∀ dd, d = some dd → ∃ fs, H dd = some (.xd fs) := fun dd e => by
  rcases h with ⟨h, _⟩ | ⟨d2, xs, h, h2, _⟩
  · rw [h] at e; cases e
  · rw [h] at e; cases e; exact ⟨_, h2⟩
theorem pe_isX1 {a : M Vl} {t : Str} {c : Value} {v : V} {kn cs : List Str} {q : Pos} (pa : PE X e (tB X.K RX W a)) (hs : star1 e = false) (hgl : Gl X ("isinstance" : Str)) (hm : X.mg ("isinstance" : Str) = none) (ht : Names X t c) (cv : ClsV v c) (rv : RelV v c)
    (hk : ∀ x, kn.contains x = true → XkC X.K (He.ga X.K x) ∧ PySem.W.kitOne X.K (.ref (He.ga X.K x)) c = some (cs.contains x)) :
    PE X (.Call (.Name ("isinstance" : Str) p) [e, .Name t q] [] pos) (tM X.K RX W (do
      let x ← a
      match x with
      | .exn c _ => if kn.contains c then pure (.v (.bl (cs.contains c))) else bad
      | _ => bad)) :=
  (pe_callB call_ix hgl hm isi_boot (pa_cons pa (pa_cons (pe_cname ht rv) pa_nil rfl) (star_of hs)) (by decide +kernel) (by decide +kernel) (star_of hs)).imp fun σ H Q ⟨g, s, R, h⟩ => by
    rw [sim_bind] at h
    refine ⟨g, s, R, h.mono (fun u s1 w g1 H1 x e1 R1 b1 => ?_) fun _ _ z => z⟩
    cases u with
    | exn y fs =>
      have w : Sim ((if kn.contains y then pure (.v (.bl (cs.contains y))) else bad : M Rv) s1) _ _ := w
      by_cases hc : kn.contains y = true
      · rw [if_pos hc] at w
        obtain ⟨p', d, rfl, ha, hd⟩ := rv_exn R1.hr b1
        exact ⟨p', _, d, v, c, _, rfl, cv, ha, exn_d (K := X.K) hd, (hk y hc).1, (hk y hc).2, w g1 H1 _ e1 R1 (.bl _)⟩
      · rw [if_neg hc] at w; exact w.elim
    | _ => exact w.elim
theorem pe_isXT {a : M Vl} {es : List Expr} {vs : List V} {us : List Value} {kn cs : List Str} {k : Nat} {q : Pos} (pa : PE X e (tB X.K RX W a)) (hs : star1 e = false) (hgl : Gl X ("isinstance" : Str)) (hm : X.mg ("isinstance" : Str) = none)
    (ht : PA X es fun _ H Q => Q vs H) (cv : Paired ClsV vs us) (hl : vs.length ≤ 9) (hk : ∀ x, kn.contains x = true → XkC X.K (He.ga X.K x) ∧ PySem.W.kitAny X.K (.ref (He.ga X.K x)) us = some (cs.contains x)) :
    PE X (.Call (.Name ("isinstance" : Str) p) [e, .Tuple es k q] [] pos) (tM X.K RX W (do
      let x ← a
      match x with
      | .exn c _ => if kn.contains c then pure (.v (.bl (cs.contains c))) else bad
      | _ => bad)) :=
  (pe_callB call_ixT hgl hm isi_boot (pa_cons pa (pa_cons (pe_tup ht) pa_nil rfl) (star_of hs)) (by decide +kernel) (by decide +kernel) (star_of hs)).imp fun σ H Q ⟨g, s, R, h⟩ => by
    rw [sim_bind] at h
    refine ⟨g, s, R, h.mono (fun u s1 w g1 H1 x e1 R1 b1 => ?_) fun _ _ z => z⟩
    cases u with
    | exn y fs =>
      have w : Sim ((if kn.contains y then pure (.v (.bl (cs.contains y))) else bad : M Rv) s1) _ _ := w
      by_cases hc : kn.contains y = true
      · rw [if_pos hc] at w
        refine ⟨by rw [sizeLine_eq]; omega, fun tp htp => ?_⟩
        have R2 := R1.heap (same_upd (o := .tup vs) htp)
        obtain ⟨p', d, rfl, ha, hd⟩ := rv_exn R2.hr b1
        exact ⟨p', _, d, tp, vs, us, _, rfl, upd_same, cv, ha, exn_d (K := X.K) hd, (hk y hc).1, (hk y hc).2, w g1 _ _ e1 R2 (.bl _)⟩
      · rw [if_neg hc] at w; exact w.elim
    | _ => exact w.elim
end
end VM

/-! VMIni: classes of exceptions with an __init__ that keeps its arguments. -/
namespace VM
open PySem PySem.Spec PyProof.Rows L2
theorem eval_mc {o : Expr} {name : Str} {apos pos : Pos} {es : List Expr} {env : Env} (hb : attributeBase o name env (eval o env) = eval o env) (hl : (apos.endLine == pos.line) = true)
    (hf : methodCallForm (es.length + ([] : List Keyword).length) (backTo pos (starEach es env)) (backToKw pos (keywordEach [] env)) = true) :
    eval (.Call (.Attribute o name apos) es [] pos) env = (do
      let ov ← eval o env
      standAt apos.atName
      let (f, first) ← holding [ov] (getMethod ov name (do return (← importBound o env).getD true))
      callWith pos f first (backTo pos (starEach es env)) (backToKw pos (keywordEach [] env))) := by
  show (do
    let ov ← attributeBase o name env (eval o env)
    standAt apos.atName
    methodCall o name apos pos env ov (es.length + ([] : List Keyword).length) (backTo pos (starEach es env)) (backToKw pos (keywordEach [] env))) = _
  rw [hb]
  unfold methodCall
  rw [hf]
  unfold calleeOf methodCallPos
  simp only [hl, Bool.not_true, Bool.false_or, if_true, pure_bind]
section
variable {X : Cx} {e : Expr} {es : List Expr} {ta : TA} {p1 p2 pos : Pos} {B : Str} {CB : Addr}
/-- B.__init__(self, ..), B an own class -/
theorem pe_cinit (hg : Gl X B) (gm : X.mg B = some (.ref CB)) (hd : (B == ("__debug__" : Str)) = false) (rd : ClX.CRead X.K CB (.type "type")) (vV : PySem.W.findCls X.K (.ref CB) (.type "type") "__init__" = some (.val (.builtin "ValueError.__init__"))) (ha : PA X (e :: es) ta)
    (hl : (p2.endLine == pos.line) = true) (hfew : methodCallForm ((e :: es).length + ([] : List Keyword).length) (backTo pos (starEach (e :: es) X.env)) (backToKw pos (keywordEach [] X.env)) = true := by rfl)
    (he : starEach (e :: es) X.env = (false, eval e X.env) :: starEach es X.env := by rfl) (hpl : (backTo pos (starEach es X.env)).any (·.1) = false := by rfl) :
    PE X (.Call (.Attribute (.Name B p1) "__init__" p2) (e :: es) [] pos) (tVeI X.K ta) := by
  refine ⟨fun pins s σ H Q I h => ?_⟩
  refine PySem.W.methodCall_KW (ld_glob I hg gm ?_ hd) (eval_mc rfl hl hfew)
  refine PySem.W.method_cls I.kIn rd.ga (PySem.W.cls_value I.kIn rd.rd vV (by decide +kernel) ?_)
  show wpAny _ _ (callWith pos (Value.builtin "ValueError.__init__") [] (backTo pos (starEach (e :: es) X.env)) []) _ _ _
  refine PyProof.Rows.callWith_method1 (thn (ha.run pos pins _ σ H _ (I.tok _) h) fun us s1 ⟨vs, H1, I1, r1, a, C, ws, ev, hl, T, ea, q⟩ => ?_) he hpl
  subst ev
  cases r1 with
  | @cons _ u0 _ ur ra rw' =>
    obtain rfl : u0 = Value.ref a := ra
    have hlen : ur.length ≤ sizeLine := by
      rw [← Paired.length rw', sizeLine_eq]
      omega
    exact oinit_ok T I1 ea hlen fun s' J => ⟨.non, H1, J, rfl, q⟩
end
/-- what __init__ leaves -/
def spI (C : Addr) (ns : List Str) : Sp := fun vs H Q _ => ∃ a ws, vs = .ref a :: ws ∧ ws.length = ns.length ∧ H a = some (exo a C none) ∧
  ∀ d H2 fs, H d = none → d ≠ a → H2 a = some (exo a C (some d)) → H2 d = some (exd d fs) → (∀ b, b ≠ a → b ≠ d → H2 b = H b) → (∀ (i : Nat) (f : Str), ns[i]? = some f → fs.lookup f = ws[i]?) → Q .non H2
/-- the text of such an __init__ -/
def iniT (B : Str) : List Str → List Stmt → Bool
  | [f], [.Expr (.Call (.Attribute (.Name B' _) m pa) [.Name sf _, .Constant (.str _) _ _] [] pc) _, .Assign [.Attribute (.Name s1 _) f1 _] (.Name y1 _) _] =>
    decide ((pa.endLine == pc.line) = true ∧ B' = B ∧ m = "__init__" ∧ sf = "self" ∧ s1 = "self" ∧ f1 = f ∧ y1 = f)
  | [f, g], [.Expr (.Call (.Attribute (.Name B' _) m pa) [.Name sf _, .Constant (.str _) _ _] [] pc) _, .Assign [.Attribute (.Name s1 _) f1 _] (.Name y1 _) _, .Assign [.Attribute (.Name s2 _) f2 _] (.Name y2 _) _] =>
    decide ((pa.endLine == pc.line) = true ∧ B' = B ∧ m = "__init__" ∧ sf = "self" ∧ s1 = "self" ∧ f1 = f ∧ y1 = f ∧ s2 = "self" ∧ f2 = g ∧ y2 = g ∧ f ≠ g)
  | _, _ => false
/-- what of the class must be known -/
structure IniC (K : Fg) (mg : Str → Option Value) (C : Addr) (B : Str) (CB : Addr) (ns : List Str) : Prop where
  T : OexC K C
  gm : mg B = some (.ref CB)
  hd : (B == ("__debug__" : Str)) = false
  rd : ClX.CRead K CB (.type "type")
  vV : PySem.W.findCls K (.ref CB) (.type "type") "__init__" = some (.val (.builtin "ValueError.__init__"))
  no : ∀ f ∈ ns, PySem.W.findIn K (.ref C) f = some none
section
variable {P : Program} {w : World} {K : Fg} {mg : Str → Option Value} {base : PySem.Heap} {CC : CXT} {x q : Str} {pars : Arguments} {bdy : List Stmt} {sco : Scope} {dvs : List V} {kws : List (Str × V)} {f : Addr} {fd : FuncData}
theorem ini_ok {C CB : Addr} {B : Str} {ns : List Str} {k : Nat} (I : IniC K mg C B CB ns) (F : FunD K x q pars bdy sco dvs kws f fd) (S : FnScope (("self" : Str) :: ns) (("self" : Str) :: ns) sco) (hB : sco.names.lookup B = some .globalImplicit) (ht : iniT B ns bdy = true)
    (hv : ∀ y ∈ (("self" : Str) :: ns), sco.names.lookup y = some .local ∧ (y == ("__debug__" : Str)) = false ∧ (y == ("__classdict__" : Str)) = false) :
    FnOk P w K mg base CC (k + 1) f fd (("self" : Str) :: ns) (spI C ns) := by
  refine FunD.ok F S (fun vs H Q E h => ?_) fun cdv A outer s H vs Q E room h => ?_
  · obtain ⟨a, ws, rfl, h, _⟩ := h
    simp [h]
  · obtain ⟨a, ws, rfl, hl, ha, h⟩ := h
    have gl : Gl (cxOf CC P w K mg base (("self" : Str) :: ns) q sco f cdv A outer s H E) B := hB
    have pv : ∀ {i : Nat} {y : Str} {p : Pos}, (("self" : Str) :: ns)[i]? = some y → PE (cxOf CC P w K mg base (("self" : Str) :: ns) q sco f cdv A outer s H E) (.Name y p) (tVar i) := fun {i y p} e => by
      obtain ⟨h1, h2, h3⟩ := hv y (List.mem_of_getElem? e)
      exact pe_var (X := cxOf CC P w K mg base (("self" : Str) :: ns) q sco f cdv A outer s H E) e (.inl h1) h2 h3
    unfold iniT at ht
    split at ht
    · rename_i g B' p1 m p2 sf p3 z p4 p5 p6 p7 s1 p8 f1 p9 y1 p10 p11
      obtain ⟨hln, rfl, rfl, rfl, rfl, rfl, rfl⟩ := of_decide_eq_true ht
      match ws, hl with
      | [y], _ =>
        refine ⟨_, pss_cons (ps_expr (pe_cinit gl I.gm I.hd I.rd I.vV (pa_cons (pv (i := 0) rfl) (pa_cons pe_str pa_nil)) hln)) (pss_cons (ps_ost (pv (i := 0) rfl) (pv (i := 1) rfl)) pss_nil), ?_⟩
        refine ⟨.ref a, rfl, a, C, [.str z], rfl, by simp, I.T, ha, ?_⟩
        refine ⟨y, rfl, .ref a, rfl, a, C, rfl, I.T, I.no _ List.mem_cons_self, .inl ⟨ha, fun dx hn hne => ?_⟩⟩
        refine h dx _ _ hn hne upd_same (by rw [upd_ne hne]; exact upd_same) (fun b h1 h2 => by rw [upd_ne h1, upd_ne h2]) fun i g e => ?_
        match i, e with
        | 0, e => have e : some y1 = some g := e; cases e; simp [List.lookup]
    · rename_i g g2 B' p1 m p2 sf p3 z p4 p5 p6 p7 s1 p8 f1 p9 y1 p10 p11 s2 q1 f2 q2 y2 q3 q4
      obtain ⟨hln, rfl, rfl, rfl, rfl, rfl, rfl, rfl, rfl, rfl, nfg⟩ := of_decide_eq_true ht
      match ws, hl with
      | [y, y'], _ =>
        refine ⟨_, pss_cons (ps_expr (pe_cinit gl I.gm I.hd I.rd I.vV (pa_cons (pv (i := 0) rfl) (pa_cons pe_str pa_nil)) hln)) (pss_cons (ps_ost (pv (i := 0) rfl) (pv (i := 1) rfl)) (pss_cons (ps_ost (pv (i := 0) rfl) (pv (i := 2) rfl)) pss_nil)), ?_⟩
        refine ⟨.ref a, rfl, a, C, [.str z], rfl, by simp, I.T, ha, ?_⟩
        refine ⟨y, rfl, .ref a, rfl, a, C, rfl, I.T, I.no _ List.mem_cons_self, .inl ⟨ha, fun dx hn hne => ?_⟩⟩
        refine ⟨y', rfl, .ref a, rfl, a, C, rfl, I.T, I.no _ (List.mem_cons_of_mem _ List.mem_cons_self), .inr ⟨dx, _, upd_same, by rw [upd_ne hne]; exact upd_same, by simp, ?_⟩⟩
        refine h dx _ _ hn hne (by rw [upd_ne (Ne.symm hne)]; exact upd_same) upd_same (fun b h1 h2 => by rw [upd_ne h2, upd_ne h1, upd_ne h2]) fun i g e => ?_
        match i, e with
        | 0, e => have e : some y1 = some g := e; cases e; have : (y1 == y2) = false := by simpa using nfg
                  simp [List.lookup, this]
        | 1, e => have e : some y2 = some g := e; cases e; simp [List.lookup]
    · cases ht
end
theorem pa_close {X : Cx} {es : List Expr} {t : TA} (h : PA X es t) : PA X es (fun σ H Q => ∃ Q0, t σ H Q0 ∧ ∀ vs H1, Q0 vs H1 → Q vs H1) :=
  ⟨fun pos pins s σ H Q I ⟨Q0, h1, h2⟩ => thn (h.run pos pins s σ H Q0 I h1) fun us s' ⟨vs, H1, I1, r, q⟩ => ⟨vs, H1, I1, r, h2 vs H1 q⟩⟩
theorem pe_close {X : Cx} {e : Expr} {t : TE} (h : PE X e t) : PE X e (fun σ H Q => ∃ Q0, t σ H Q0 ∧ ∀ v H1, Q0 v H1 → Q v H1) :=
  ⟨fun pins s σ H Q I ⟨Q0, h1, h2⟩ => thn (h.run pins s σ H Q0 I h1) fun us s' ⟨vs, H1, I1, r, q⟩ => ⟨vs, H1, I1, r, h2 vs H1 q⟩⟩
/-- a class with such an __init__ -/
theorem raised_ini {X : Cx} {x : Str} {n k : Nat} {ns : List Str} {fI : Addr} {fd : FuncData} (T : OexC X.K (He.ga X.K x)) (iC : PySem.W.findIn X.K (.ref (He.ga X.K x)) "__init__" = some (some (.ref fI))) (tI : PySem.W.typeIn X.K (.ref fI) = some (.type "function"))
    (F1 : FnOk X.prog X.w X.K X.mg X.base (L2.CX X.prog X.w) k fI fd (("self" : Str) :: ns) (spI (He.ga X.K x) ns)) (hr : Room (k + 1) X.A) (hb : Binds X.K fd (("self" : Str) :: ns) []) (hm : X.mg x = some (.ref (He.ga X.K x))) (hd : (x == ("__debug__" : Str)) = false) (hn : ns.length = n) (hn0 : ns ≠ []) (hl : n ≤ 1000) : Raised X x n ns := by
  refine ⟨fun {e es ta p pos} ha hlen hs hg => ?_⟩
  have pass : Passes (L2.CX X.prog X.w) X (fun _ _ _ => False) := fun _ _ _ _ _ _ _ c => by
    obtain ⟨_, _, _, _, _, _, _, _, _, _, _, _, z⟩ := c
    exact z.elim
  have h0 : (star1 e || stars es) = false := hs
  rw [Bool.or_eq_false_iff] at h0
  intro pins s σ H Q I h
  refine pmk_oex (ds := []) (dvs := []) T iC tI F1 hr hb .nil pass hg hm (pa_close ha) hd (star_of h0.1) (stars_of pos h0.2) pins s σ H Q I ⟨_, h, fun vs H1 g => ⟨by rw [g.1]; exact hl, fun a na => ?_⟩⟩
  refine ⟨a, vs ++ [], rfl, by rw [List.append_nil, g.1, hn], upd_same, fun d H2 fs e1 ne e2 e3 e4 e5 => ⟨rfl, d, fs, e2, e3, by rw [upd_ne ne] at e1; exact e1, ?_⟩⟩
  have eq : upd (del H2 a) d (.xd fs) = upd H1 d (.xd fs) := by
    funext b
    by_cases hb : b = d
    · subst hb; rw [upd_same, upd_same]
    · rw [upd_ne hb, upd_ne hb]
      by_cases hb2 : b = a
      · subst hb2; rw [del_same, na]
      · rw [del_ne hb2, e4 b hb2 hb, upd_ne hb2]
  rw [eq]
  rw [upd_ne ne] at e1
  exact g.2.2 hn0 d fs e1 fun i f e => by have := e5 i f e; rw [List.append_nil] at this; exact this
/-- a class without one -/
theorem raised_own {X : Cx} {x : Str} {B newId initId : String} {bmB : List Value} (F : ExcBaseFacts B newId initId bmB) (q : PySem.W.excIn X.K (He.ga X.K x) bmB newId = true) (gC : X.mg x = some (.ref (He.ga X.K x))) (kC : PySem.W.keepIn X.K (.ref (He.ga X.K x)) = true)
    (r : Raises X (.ref (He.ga X.K x))) (hd : (x == ("__debug__" : Str)) = false) : Raised X x 1 [] := by
  refine ⟨fun {e es ta p pos} ha hlen hs hg => ?_⟩
  cases es with
  | cons _ _ => simp at hlen
  | nil =>
    have h0 : (star1 e || stars []) = false := hs
    rw [Bool.or_eq_false_iff] at h0
    intro pins s σ H Q I h
    refine wpAny_Call_Name_kw (ld_glob I hg gC ?_ hd)
    refine PySem.W.callWith_K (h₀ := X.base) I.ok.mod.kin kC (thn (ha.run pos pins s σ H _ I h) fun us s1 hh => ?_) (star_of h0.1) (stars_of pos h0.2)
    obtain ⟨vs, H1, I1, r1, g⟩ := hh
    refine ⟨I1.kIn, ?_⟩
    match vs, r1, g with
    | [v], .cons rv .nil, g =>
      show wpAny _ _ (call (.ref (He.ga X.K x)) [_]) _ _ _
      obtain ⟨bm, N, nm, qn, bs, hdct, sn, sub, ab, col, dd, k0, k1, k2, k3, k5, mN, hC, hN, hni, T⟩ := exc_obj I1.kIn q
      refine wpAny_call_exc_subT F T hC hN hni (fun h' e hm => ?_) (by show 1 ≤ sizeLine; rw [sizeLine_eq]; omega)
      exact mk_of I1 hm r (g.2.1 rfl) (I1.hok.gone hm.new)
end VM

/-! VMTr: from the written syntax to the machine's text. -/
namespace VM
open PySem (Str Expr Stmt Scope Const NameKind Comprehension Keyword Operator CmpOp)
/-- the names of keywords -/
def kwNames : List Keyword → Option (List Str)
  | [] => some []
  | ⟨some n, _, _⟩ :: r => (kwNames r).map (n :: ·)
  | _ => none
/-- what a text leans on: its defs (name, least, most arguments), constants, built-ins; names whose list is a cell -/
structure Tb where
  fns : List (Str × Nat × Nat)
  cst : List (Str × Vl)
  bis : List Str
  al : List Str
  cls : List (Str × Nat × List Str)
  cat : List (Str × List Str)
  att : List Str
  kwf : List (Str × Nat × List Str × Nat)
def Tb.kn (tb : Tb) : List Str := tb.cls.map (·.1)
structure Ctx where
  sc : Scope
  fn : Str → Bool
def ixOf : List Str → Str → Option Nat
  | [], _ => none
  | y :: r, x => if y = x then some 0 else (ixOf r x).map (· + 1)
def fnOf : List (Str × Nat × Nat) → Str → Nat → Option Nat
  | [], _, _ => none
  | (y, lo, hi) :: r, x, n => if y = x then (if lo ≤ n ∧ n ≤ hi then some 0 else none) else (fnOf r x n).map (· + 1)
def Ctx.kd (cx : Ctx) (x : Str) : Option NameKind := cx.sc.names.lookup x
def Ctx.isLoc (cx : Ctx) (x : Str) : Bool := cx.kd x == some .local || (cx.kd x == some .cell && cx.fn x)
def relC (scope sc : Scope) : Scope :=
  { scope with names := scope.names.map fun (n, k) => if (k == .free && sc.kind == .function && sc.names.lookup n == some .cell) then (n, .cell) else (n, k) }
def Ctx.blk (cx : Ctx) (scope : Scope) : Ctx := ⟨relC scope cx.sc, fun x => scope.names.lookup x == some .cell⟩
def ownOf (N : List Str) (scope : Scope) : List (Str × Nat) := (scope.names.filter fun p => p.2 == .local || p.2 == .cell).filterMap fun p => (ixOf N p.1).map fun i => (p.1, i)
def blkOk (sc scope : Scope) : Bool :=
  scope.kind == .function && scope.names.all (fun p => scope.names.lookup p.1 == some p.2) && scope.names.all (fun p => !(p.2 == .free) || sc.names.lookup p.1 == some .cell || sc.names.lookup p.1 == some .free)
def bopOf : Operator → Option Bop
  | .Add => some .add | .Sub => some .sub | .Mult => some .mul | .Mod => some .mod | .FloorDiv => some .fdiv | .Pow => some .pow | .LShift => some .shl | .RShift => some .shr | .BitAnd => some .band
  | _ => none
def copOf : CmpOp → Option Cop
  | .Eq => some .eq | .NotEq => some .ne | .Lt => some .lt | .LtE => some .le | .Gt => some .gt | .GtE => some .ge | .In => some .isin | .NotIn => some .notin
  | _ => none
def biOf (x : Str) : Option Bi :=
  if x = "len" then some .len else if x = "abs" then some .abs else if x = "min" then some .min else if x = "max" then some .max else if x = "int" then some .int else if x = "str" then some .str else if x = "repr" then some .repr
  else if x = "list" then some .list else if x = "tuple" then some .tuple else if x = "all" then some .all else if x = "any" then some .any else if x = "sum" then some .sum else if x = "sorted" then some .sorted else none
def tyOf (x : Str) : Option Ty :=
  if x = "int" then some .int else if x = "bool" then some .bool else if x = "str" then some .str else if x = "tuple" then some .tuple else if x = "list" then some .list else if x = "dict" then some .dict else none
def cstOf : Const → Option Vl
  | .none => some .non
  | .bool b => some (.bl b)
  | .int i => some (.int i)
  | .str s => some (.str s)
  | _ => none
/-- a built-in's name that may be used here -/
def Tb.free (tb : Tb) (cx : Ctx) (x : Str) : Bool := tb.bis.contains x && cx.kd x == some .globalImplicit
def tysOf (tb : Tb) (cx : Ctx) : List Expr → Option (List Ty)
  | [] => some []
  | .Name x _ :: es => match tyOf x, tysOf tb cx es with
    | some t, some ts => if tb.free cx x then some (t :: ts) else none
    | _, _ => none
  | _ => none
def isSlice : Expr → Bool
  | .Slice .. => true
  | _ => false
def isStar : Expr → Bool
  | .Starred .. => true
  | _ => false
def isSet : Expr → Bool
  | .Set .. => true
  | _ => false
def isTup : Expr → Bool
  | .Tuple .. => true
  | _ => false
def isComp : Expr → Bool
  | .ListComp .. => true
  | .SetComp .. => true
  | .DictComp .. => true
  | _ => false
mutual
def trT (N : List Str) (cx : Ctx) : Nat → Expr → Option T
  | 0, _ => none
  | n + 1, .Name x _ => if cx.isLoc x then (ixOf N x).map .n else none
  | n + 1, .Tuple es _ _ => (trTs N cx n es).map .tup
  | _, _ => none
def trTs (N : List Str) (cx : Ctx) : Nat → List Expr → Option (List T)
  | 0, _ => none
  | _, [] => some []
  | n + 1, e :: es => match trT N cx n e, trTs N cx n es with
    | some t, some ts => some (t :: ts)
    | _, _ => none
end
section
variable (f : Expr → Option E)
def trAnd : List Expr → Option E
  | [] => none
  | [a] => f a
  | a :: b :: r => match f a, trAnd (b :: r) with
    | some x, some y => some (.and x y)
    | _, _ => none
def trOr : List Expr → Option E
  | [] => none
  | [a] => f a
  | a :: b :: r => match f a, trOr (b :: r) with
    | some x, some y => some (.or x y)
    | _, _ => none
def trL : List Expr → Option Es
  | [] => some .nil
  | e :: es => match f e, trL es with
    | some x, some xs => if isStar e then none else some (.cons x xs)
    | _, _ => none
def trO : Option Expr → Option Eo
  | none => some .no
  | some e => (f e).map .some
/-- tests of a comprehension: one at most -/
def trTests : List Expr → Option Es
  | [] => some .nil
  | [e] => (f e).map fun x => .cons x .nil
  | _ => none
def trI (tb : Tb) (cx : Ctx) (tg : Expr) : Expr → Option It
  | .Call (.Name g p) es [] q =>
    if g = "range" then (if tb.free cx g then match es with
      | [a] => if isStar a then none else (f a).map .range1
      | [a, b] => if isStar a || isStar b then none else match f a, f b with
        | some x, some y => some (.range2 x y)
        | _, _ => none
      | _ => none else none)
    else if g = "enumerate" then (if tb.free cx g && isTup tg then match es with
      | [a] => if isStar a then none else (f a).map .enum
      | _ => none else none)
    else if g = "zip" then (if tb.free cx g && isTup tg then match es with
      | [a, b] => if isStar a || isStar b then none else match f a, f b with
        | some x, some y => some (.zip x y)
        | _, _ => none
      | _ => none else none)
    else (f (.Call (.Name g p) es [] q)).map .e
  | e => if isSet e then none else (f e).map .e
end
def esLen : Es → Nat
  | .nil => 0
  | .cons _ es => esLen es + 1
/-- a class that an except clause names: those of the known ones that it takes -/
def catOf (tb : Tb) (cx : Ctx) (x : Str) : Option (List Str) := if cx.kd x == some .globalImplicit && !(x == ("__debug__" : Str)) then tb.cat.lookup x else none
def catsOf (tb : Tb) (cx : Ctx) : List Expr → Option (List (List Str))
  | [] => some []
  | .Name x _ :: es => match catOf tb cx x, catsOf tb cx es with
    | some t, some ts => some (t :: ts)
    | _, _ => none
  | _ => none
def trCall (f : Expr → Option E) (tb : Tb) (cx : Ctx) (g : Str) (es : List Expr) : Option E :=
  if g = "isinstance" then (if tb.free cx g then match es with
    | [a, t] => if isStar a then none else match t with
      | .Name x _ => if tb.free cx x then match f a, tyOf x with
          | some a, some t => some (.isa a [t])
          | _, _ => none else match f a, catOf tb cx x with
          | some a, some cs => some (.isX a tb.kn cs)
          | _, _ => none
      | .Tuple ts _ _ => match tysOf tb cx ts with
        | some ts => match f a with
          | some a => if ts.length ≤ 9 then some (.isa a ts) else none
          | none => none
        | none => match f a, catsOf tb cx ts with
          | some a, some cs => if ts.length ≤ 9 then some (.isX a tb.kn (tb.kn.filter fun k => cs.any fun c => c.contains k)) else none
          | _, _ => none
      | _ => none
    | _ => none else none)
  else match fnOf tb.fns g es.length with
    | some i => if cx.kd g == some .globalImplicit then (trL f es).map (.call i) else none
    | none => match biOf g, es with
      | some b, _ :: _ => if tb.free cx g then (trL f es).map (.bi b) else none
      | _, _ => none
/-- a call with keywords -/
def kwOf (l : List (Str × Nat × List Str × Nat)) (g : Str) (n : Nat) (ks : List Str) : Option Nat := match l.find? fun p => decide (p.1 = g ∧ p.2.1 = n ∧ p.2.2.1 = ks) with
  | some p => some p.2.2.2
  | none => none
def appE : Es → Es → Es
  | .nil, b => b
  | .cons e a, b => .cons e (appE a b)
def trKs (f : Expr → Option E) : List Keyword → Option Es
  | [] => some .nil
  | k :: r => match f k.value, trKs f r with
    | some x, some xs => some (.cons x xs)
    | _, _ => none
def trKw (f : Expr → Option E) (tb : Tb) (cx : Ctx) (g : Str) (es : List Expr) (kws : List Keyword) : Option E := match es, kwNames kws with
  | e :: es, some ks => match kwOf tb.kwf g (e :: es).length ks, trL f (e :: es), trKs f kws with
    | some i, some a, some b => if cx.kd g == some .globalImplicit then some (.call i (appE a b)) else none
    | _, _, _ => none
  | _, _ => none
/-- list(range(i, j)) -/
def trLrg (f : Expr → Option E) (tb : Tb) (cx : Ctx) (g : Str) : List Expr → Option E
  | [.Call (.Name r _) [a, b] [] _] => if g = "list" ∧ r = "range" ∧ tb.free cx "list" = true ∧ tb.free cx "range" = true ∧ isStar a = false ∧ isStar b = false then match f a, f b with
    | some x, some y => some (.lrg x y)
    | _, _ => none else none
  | _ => none
def trSub (f : Expr → Option E) (a : Expr) : Expr → Option E
  | .Slice lo hi none _ => match f a, trO f lo, trO f hi with
    | some x, some l, some h => some (.slc x l h)
    | _, _, _ => none
  | .Slice (some lo) none (some (.Constant (.int (.ofNat k)) _ _)) _ => match f a, f lo with
    | some x, some l => if k = 0 then none else some (.stp x l k)
    | _, _ => none
  | .Slice none none (some (.UnaryOp .USub (.Constant (.int 1) _ _) _)) _ => (f a).map .rev
  | i => if isSlice i then none else match f a, f i with
    | some x, some y => some (.idx x y)
    | _, _ => none
def trCmp (f : Expr → Option E) (a : Expr) : List CmpOp → List Expr → Option E
  | [.Is], [.Constant .none _ _] => (f a).map .isN
  | [.IsNot], [.Constant .none _ _] => (f a).map .notN
  | [.Is], [.Constant (.bool b) _ _] => (f a).map fun x => .isB x b
  | [.IsNot], [.Constant (.bool b) _ _] => (f a).map fun x => .notB x b
  | [o], [b] => match copOf o, f a, f b with
    | some o, some x, some y => if isSet b then none else some (.cmp o x y)
    | _, _, _ => none
  | [o, u], [b, d] => match copOf o, copOf u, f a, f b, f d with
    | some o, some u, some x, some y, some z => if isSet d then none else some (.chain x o y u z)
    | _, _, _, _, _ => none
  | _, _ => none
def trVar (N : List Str) (cx : Ctx) (x : Str) : Option Nat :=
  if x = "__debug__" ∨ x = "__classdict__" then none
  else if cx.kd x = some .local ∨ cx.kd x = some .cell ∨ cx.kd x = some .free then ixOf N x else none
def trGlob (tb : Tb) (cx : Ctx) (x : Str) : Option E := if x = "__debug__" then none else if cx.kd x = some .globalImplicit then (tb.cst.lookup x).map .cst else none
def notVar : E → Bool
  | .var _ => false
  | _ => true
def trLc (f : Ctx → Expr → Option E) (n : Nat) (tb : Tb) (N : List Str) (cx : Ctx) (elt : Expr) (scope : Scope) : List Comprehension → Option E
  | [g] =>
    if g.is_async = 0 ∧ blkOk cx.sc scope = true ∧ isSet g.iter = false then
      match trI (f cx) tb cx g.target g.iter, trT N (cx.blk scope) n g.target, trTests (f (cx.blk scope)) g.ifs, f (cx.blk scope) elt with
      | some i, some t, some ts, some x => if (tnames t).all (fun j => ((ownOf N scope).map (·.2)).contains j) then some (.lc x t i ts ((ownOf N scope).map (·.2))) else none
      | _, _, _, _ => none
    else none
  | _ => none
def trDc (f : Ctx → Expr → Option E) (n : Nat) (tb : Tb) (N : List Str) (cx : Ctx) (kx vx : Expr) (scope : Scope) : List Comprehension → Option E
  | [g] =>
    if g.is_async = 0 ∧ blkOk cx.sc scope = true ∧ isSet g.iter = false ∧ g.ifs.isEmpty = true then
      match trI (f cx) tb cx g.target g.iter, trT N (cx.blk scope) n g.target, f (cx.blk scope) kx, f (cx.blk scope) vx with
      | some i, some t, some x, some y => if (tnames t).all (fun j => ((ownOf N scope).map (·.2)).contains j) then some (.dc x y t i ((ownOf N scope).map (·.2))) else none
      | _, _, _, _ => none
    else none
  | _ => none
def trE (tb : Tb) (N : List Str) : Nat → Ctx → Expr → Option E
  | 0, _, _ => none
  | n + 1, cx, e => match e with
    | .Name x _ => match trVar N cx x with
      | some i => some (.var i)
      | none => trGlob tb cx x
    | .Constant c _ _ => (cstOf c).map .cst
    | .Tuple es _ _ => (trL (trE tb N n cx) es).map .tup
    | .List es _ => (trL (trE tb N n cx) es).map .lst
    | .Dict [] [] _ => some .d0
    | .BinOp a o b _ => match bopOf o, trE tb N n cx a, trE tb N n cx b with
      | some o, some x, some y => some (.bin o x y)
      | _, _, _ => none
    | .UnaryOp .Not a _ => (trE tb N n cx a).map .nt
    | .UnaryOp .USub a _ => (trE tb N n cx a).map .neg
    | .BoolOp .And (a :: b :: es) _ => trAnd (trE tb N n cx) (a :: b :: es)
    | .BoolOp .Or (a :: b :: es) _ => trOr (trE tb N n cx) (a :: b :: es)
    | .IfExp t a b _ => match trE tb N n cx t, trE tb N n cx a, trE tb N n cx b with
      | some t, some x, some y => some (.ife t x y)
      | _, _, _ => none
    | .Compare a os bs _ => trCmp (trE tb N n cx) a os bs
    | .Subscript a i _ => trSub (trE tb N n cx) a i
    | .Attribute (.Name x _) a _ => if tb.att.contains a then (trVar N cx x).map fun i => .fld (.var i) tb.kn a else none
    | .Call (.Name g _) es [] _ => match trLrg (trE tb N n cx) tb cx g es with
      | some d => some d
      | none => trCall (trE tb N n cx) tb cx g es
    | .Call (.Name g _) es (kw :: kws) _ => trKw (trE tb N n cx) tb cx g es (kw :: kws)
    | .ListComp elt gs scope _ => trLc (trE tb N n) n tb N cx elt scope gs
    | .DictComp kx vx gs scope _ => trDc (trE tb N n) n tb N cx kx vx scope gs
    | _ => none
/-! statements -/
def isNilL : Expr → Bool
  | .List [] _ => true
  | _ => false
/-- does a name's list become a cell? -/
def Tb.alc (tb : Tb) (x : Str) (e : Expr) : Bool := tb.al.contains x || (isNilL e && tb.al.contains (x ++ "=[]"))
/-- a comprehension that is stored in a name: are its names swapped? -/
def swB (cx : Ctx) (y : Str) (py : PySem.Pos) : Expr → Bool
  | .ListComp _ _ scope pos => cx.kd y == some .local && py.line == pos.line && !(scope.names.any fun (n, k) => n == y && (k == .local || k == .cell))
  | .DictComp _ _ _ scope pos => cx.kd y == some .local && py.line == pos.line && !(scope.names.any fun (n, k) => n == y && (k == .local || k == .cell))
  | _ => false
/-- a, b = x, y: the stores are swapped -/
def parB (e e' : Expr) : Bool := !(isStar e) && !(isStar e') && !([e, e'].all (PySem.foldedForSure 8)) && !([e, e'].all (PySem.constantsAlone 8))
def trAsg (f : Expr → Option E) (tb : Tb) (N : List Str) (cx : Ctx) (e : Expr) : Expr → Option S
  | .Name x px => if x = "__debug__" then none else match ixOf N x, f e with
    | some i, some d => if cx.isLoc x then (if isComp e && tb.alc x e then none else some (.asg (.n i) (if tb.alc x e then .alloc d else d))) else none
    | _, _ => none
  | .Tuple [.Name x px, .Name y py] k q => match e with
    | .Tuple [a, b] _ _ => match ixOf N x, ixOf N y, f a, f b with
      | some i, some j, some u, some v => if cx.kd x == some .local && cx.kd y == some .local && decide (i ≠ j) && px.line == py.line && parB a b then some (.asg (.tup [.n i, .n j]) (.tup (.cons u (.cons v .nil)))) else none
      | _, _, _, _ => none
    | e => if isTup e then none else match trT N cx 8 (.Tuple [.Name x px, .Name y py] k q), f e with
      | some t, some d => some (.asg t d)
      | _, _ => none
  | .Tuple es k q => if isTup e then none else match trT N cx 8 (.Tuple es k q), f e with
    | some t, some d => some (.asg t d)
    | _, _ => none
  | .Subscript (.Name x xp) i _ => if isSlice i || isComp e then none else match trVar N cx x, f i, f e with
    | some x, some y, some d => some (.put (.var x) y d)
    | _, _, _ => none
  | .Subscript o i _ => if isSlice i || isComp e then none else match f o, f i, f e with
    | some x, some y, some d => if notVar x then some (.put x y d) else none
    | _, _, _ => none
  | _ => none
def trSs (f : Stmt → Option S) : List Stmt → Option Ss
  | [] => some .nil
  | s :: ss => match f s, trSs f ss with
    | some x, some xs => some (.cons x xs)
    | _, _ => none
def clsOf (l : List (Str × Nat × List Str)) (x : Str) (n : Nat) : Option (List Str) := match l.find? fun p => decide (p.1 = x ∧ p.2.1 = n) with
  | some p => some p.2.2
  | none => none
/-- an except suite: constants alone -/
def trH (N : List Str) (cx : Ctx) : Stmt → Option S
  | .Assign [.Name x _] (.Constant k _ _) _ => match ixOf N x, cstOf k with
    | some i, some v => if cx.isLoc x then some (.asg (.n i) (.cst v)) else none
    | _, _ => none
  | .Return (some (.Constant k _ _)) _ => (cstOf k).map fun v => .ret (.cst v)
  | .Pass _ => some .pass
  | _ => none
def trRaise (f : Expr → Option E) (tb : Tb) (cx : Ctx) : Expr → S
  | .Call (.Name x _) (e :: es) [] _ => match clsOf tb.cls x (e :: es).length, trL f (e :: es) with
    | some ns, some ds => if cx.kd x == some .globalImplicit then .raise x ns ds else .nev
    | _, _ => .nev
  | _ => .nev
def trTry (b : Option Ss) (tb : Tb) (N : List Str) (cx : Ctx) : List PySem.ExceptHandler → List Stmt → List Stmt → Option S
  | [.ExceptHandler (some (.Name x _)) none (b₀ :: suite) _], [], [] => match b, tb.cat.lookup x, trSs (trH N cx) (b₀ :: suite) with
    | some b, some cs, some h => if cx.kd x == some .globalImplicit && !(x == ("__debug__" : Str)) then some (.tryo b cs h) else none
    | _, _, _ => none
  | [.ExceptHandler (some (.Name x _)) (some n) [.Assign [.Name y _] (.Name n' _) _] _], [], [] => match b, tb.cat.lookup x, ixOf N n, ixOf N y with
    | some b, some cs, some i, some j => if cx.kd x == some .globalImplicit && !(x == ("__debug__" : Str)) && cx.kd n == some .local && cx.kd y == some .local && decide (n' = n) && decide (i ≠ j) && !(n == ("__debug__" : Str)) && !(n == ("__classdict__" : Str))
        then some (.trya b cs i j) else none
    | _, _, _, _ => none
  | _, _, _ => none
def trS (tb : Tb) (N : List Str) (cx : Ctx) : Nat → Stmt → Option S
  | 0, _ => none
  | n + 1, st => match st with
    | .Assign [t] e _ => trAsg (trE tb N n cx) tb N cx e t
    | .Expr (.Constant (.str _) _ _) _ => some .pass
    | .Expr (.Call (.Attribute (.Name x xp) a ap) [e] [] cp) _ => if a = "append" ∧ (ap.endLine == cp.line) = true ∧ isStar e = false then (match trVar N cx x, trE tb N n cx e with
        | some i, some d => some (.app i d)
        | _, _ => none) else none
    | .Expr e _ => if isComp e then none else (trE tb N n cx e).map .expr
    | .If t a b _ => match trE tb N n cx t, trSs (trS tb N cx n) a, trSs (trS tb N cx n) b with
      | some t, some a, some b => some (.iff t a b)
      | _, _, _ => none
    | .For tg it body [] _ => match trI (trE tb N n cx) tb cx tg it, trT N cx n tg, trSs (trS tb N cx n) body with
      | some i, some t, some b => if isSet it then none else some (.loop t i b)
      | _, _, _ => none
    | .While t body [] _ => match trE tb N n cx t, trSs (trS tb N cx n) body with
      | some t, some b => some (.whl t b)
      | _, _ => none
    | .Return none _ => some .retN
    | .Return (some (.Name x _)) _ => match trVar N cx x with
      | some i => some (.ret (.var i))
      | none => (trGlob tb cx x).map .ret
    | .Return (some e) _ => match trE tb N n cx e with
      | some d => if notVar d then some (.ret d) else none
      | none => none
    | .Raise (some e) none _ => some (trRaise (trE tb N n cx) tb cx e)
    | .Raise _ _ _ => some .nev
    | .Try body hds orelse fin _ => trTry (trSs (trS tb N cx n) body) tb N cx hds orelse fin
    | .Pass _ => some .pass
    | .Break _ => some .brk
    | .Continue _ => some .cont
    | _ => none
/-- a def's body: its names, the parameters first -/
def namesOf (ps : List Str) (sc : Scope) : List Str := ps ++ (sc.names.filter fun p => (p.2 == .local || p.2 == .cell) && !ps.contains p.1).map (·.1)
def trB (tb : Tb) (N : List Str) (sc : Scope) (body : List Stmt) : Option Ss := trSs (trS tb N ⟨sc, fun _ => true⟩ 40) body
end VM

/-! VMKw: calls with keywords. -/
namespace VM
open PySem PySem.Spec PyProof.Rows L2
/-- how a def of the text stands where a body runs, called with n arguments and keywords -/
structure HereK (X : Cx) (RX : RXT) (call : List Vl → Heap → RF) (x : Str) (n : Nat) (ks : List Str) : Prop where
  ex : ∃ (k : Nat) (f : Addr) (fd : FuncData) (ps : List Str) (np : Nat),
    FnG X.prog X.w X.K X.mg X.base (L2.CX X.prog X.w) k f fd ps (spF X.K RX call np) ∧ Room k X.A ∧ X.mg x = some (.ref f) ∧ PySem.W.keepIn X.K (.ref f) = true ∧ KBn X.K fd ps n ks (fun us ws => us ++ ws) (fun vs zs => vs ++ zs) ∧ n + ks.length = np
theorem _root_.L2.PK.imp {X : Cx} {e : List Keyword} {t t' : TA} (p : PK X e t) (h : ∀ σ H Q, t' σ H Q → t σ H Q) : PK X e t' := ⟨fun pos pins s σ H Q I q => p.run pos pins s σ H Q I (h σ H Q q)⟩
section
variable {X : Cx} {RX : RXT} {W : WX} {e : Expr} {es : List Expr} {kws : List Keyword} {pos p kp : Pos} {x : Str} {nm : Option Str}
theorem pkF_nil : PK X [] (tAF X.K RX W (pure [])) := pk_nil.imp fun σ H Q ⟨g, s, R, h⟩ => h g H [] (.refl g) R .nil
theorem pkF_cons {m : M Rv} {ms : M (List Vl)} (pa : PE X e (tM X.K RX W m)) (ps : PK X kws (tAF X.K RX W ms)) :
    PK X (⟨nm, e, kp⟩ :: kws) (tAF X.K RX W (do let r ← m; let vs ← ms; pure (r.fz :: vs))) :=
  (pk_cons pa ps).imp fun σ H Q ⟨g, s, R, h⟩ => by
    rw [sim_bind] at h
    refine ⟨g, s, R, h.mono (fun r s1 q g1 H1 x e1 R1 b1 => ?_) fun _ _ z => z⟩
    obtain ⟨g2, e2, R2, rv⟩ := RR.fz R1 b1
    rw [sim_bind] at q
    refine ⟨g2, s1, R2, q.mono (fun vs s2 q2 g3 H3 xs e3 R3 b3 => ?_) fun _ _ z => z.ext (e1.trans e2).toExtS⟩
    exact q2 g3 H3 _ ((e1.trans e2).trans e3) R3 (.cons (rv.ext e3.toExtS) b3)
theorem kw_all {env : Env} : ∀ {kws : List Keyword} {ks : List Str}, kwNames kws = some ks → (backToKw pos (keywordEach kws env)).all (·.1.isSome) = true ∧ (backToKw pos (keywordEach kws env)).filterMap (·.1) = ks ∧ (backToKw pos (keywordEach kws env)).any (·.1.isNone) = false
  | [], ks, h => by cases h; exact ⟨rfl, rfl, rfl⟩
  | ⟨some n, v, q⟩ :: r, ks, h => by
    obtain ⟨l, h1, rfl⟩ := Option.map_eq_some_iff.mp (show (kwNames r).map (n :: ·) = some ks from h)
    obtain ⟨a1, a2, a3⟩ := kw_all (env := env) h1
    have e : backToKw pos (keywordEach (⟨some n, v, q⟩ :: r) env) = (some n, do let v ← eval v env; standAt pos; pure v) :: backToKw pos (keywordEach r env) := rfl
    rw [e]
    exact ⟨by rw [List.all_cons, a1]; rfl, by rw [List.filterMap_cons, a2], by rw [List.any_cons, a3]; rfl⟩
  | ⟨none, v, q⟩ :: r, ks, h => by cases h
theorem run_GK {k n : Nat} {f : Addr} {fd : FuncData} {ps ks : List Str} {sp : Sp} {us ws : List Value} {vs zs : List V} {E : XK} {pins : List (Addr × Obj)} {σ : L2.St} {H : Hp} {s : Shared} {Q : VK}
    (F : FnG X.prog X.w X.K X.mg X.base (L2.CX X.prog X.w) k f fd ps sp) (hr : Room k X.A) (hg : X.A.guards = some []) (hb : KBn X.K fd ps n ks (fun us ws => us ++ ws) (fun vs zs => vs ++ zs)) (I : Inv X pins σ H s) (hx : ∀ e s', L2.CX X.prog X.w X.stack H s E e s' → X.xe e s') (r : Vals vs us) (rz : Vals zs ws)
    (l1 : vs.length = n) (l2 : zs.length = ks.length) (h : sp (vs ++ zs) H Q E) : wpAny (model X.prog X.w) X.A (PySem.call (.ref f) us (ks.zip ws)) (EP X pins σ Q) X.xe s := by
  have r2 := hb.rel r rz
  refine wpAny_call (codeAny_mono (F.run X.A X.stack s H ⟨us, ks.zip ws⟩ (us ++ ws) (vs ++ zs) Q E hr hg I.env0 (hb.to s us ws I.kIn (r.length.symm.trans l1) (rz.length.symm.trans l2)) r2 h) fun r s' q => ?_)
  match r, q with
  | .error e, q => exact hx e s' q
  | .ok (.ret u), q => exact I.after q
  | .ok .next, q => exact q.elim
  | .ok .brk, q => exact q.elim
  | .ok .cont, q => exact q.elim
theorem stars_any {env : Env} : ∀ {es : List Expr}, stars es = false → (backTo pos (starEach es env)).any (·.1) = false
  | [], _ => rfl
  | e :: es, h => by
    have h' : (star1 e || stars es) = false := h
    rw [Bool.or_eq_false_iff] at h'
    rw [star_of h'.1]
    have e2 : backTo pos ((false, eval e env) :: starEach es env) = (false, eval e env) :: backTo pos (starEach es env) := rfl
    rw [e2, List.any_cons, stars_any h'.2]; rfl
theorem pe_callK_ {call : List Vl → Heap → RF} {ms mk : M (List Vl)} {n : Nat} {ks : List Str} (hq : HereK X RX call x n ks) (hg : X.A.guards = some []) (tk : Takes X W) (hRX : ∀ g g' x c d H, g'.F = g.F → g'.P = g.P → g'.ρ = g.ρ → RX g x c d H → RX g' x c d H)
    (pa : PA X (e :: es) (tAF X.K RX W ms)) (pk : PK X kws (tAF X.K RX W mk)) (hn : ∀ s us s', ms s = .ok us s' → us.length = n) (hm : ∀ s us s', mk s = .ok us s' → us.length = ks.length) (hs : stars (e :: es) = false) (hk : kwNames kws = some ks)
    (hgl : Gl X x) (hdb : (x == ("__debug__" : Str)) = false) : PE X (.Call (.Name x p) (e :: es) kws pos) (tM X.K RX W (do let vs ← ms; let us ← mk; let h ← hp; runF (call (vs ++ us) h))) := by
  have h' : (star1 e || stars es) = false := hs
  rw [Bool.or_eq_false_iff] at h'
  obtain ⟨k, f, fd, ps, np, F, hr, hmg, hkp, hb, hnp⟩ := hq.ex
  refine ⟨fun pins s σ H Q I ⟨g, t, R, h⟩ => ?_⟩
  refine wpAny_Call_Name_kw (ld_glob I hgl hmg ?_ hdb)
  rw [sim_bind] at h
  obtain ⟨k1, k2, k3⟩ := kw_all (pos := pos) (env := X.env) hk
  refine PySem.W.callWith_KW (h₀ := X.base) I.ok.mod.kin hkp k1 (thn (pa.run pos pins s σ H (fun xs H1 => ∃ g1 as t1, ms t = .ok as t1 ∧ Ext g g1 ∧ Rel X.K g1 t1 σ H1 ∧ RVs X.K g1.F g1.ρ as xs ∧
      Sim ((do let us ← mk; let h ← hp; runF (call (as ++ us) h) : M Rv) t1) (fun r s' => ∀ g' H' x, Ext g g' → Rel X.K g' s' σ H' → RR X.K g' H' r x → Q x H') (Zx X.K RX W g σ)) I ⟨g, t, R, ?_⟩)
      fun us s1 ⟨vs, H1, I1, r, g1, as, t1, em, e1, R1, b1, h1⟩ => ?_) (by rw [stars_any hs, k3]; rfl) (star_of h'.1)
  · cases em : ms t with
    | bad => rw [em] at h; exact h
    | exc y t1 => rw [em] at h; exact h
    | ok as t1 =>
      rw [em] at h
      exact fun g' H' xs e1 R1 b1 => ⟨g', as, t1, rfl, e1, R1, b1, h⟩
  · rw [sim_bind] at h1
    refine thn (pk.run pos pins s1 σ H1 (fun xs H2 => ∃ g2 bs t2, mk t1 = .ok bs t2 ∧ Ext g1 g2 ∧ Rel X.K g2 t2 σ H2 ∧ RVs X.K g2.F g2.ρ bs xs ∧
      Sim (runF (call (as ++ bs) t2.hp) t2) (fun r s' => ∀ g' H' x, Ext g g' → Rel X.K g' s' σ H' → RR X.K g' H' r x → Q x H') (Zx X.K RX W g σ)) I1 ⟨g1, t1, R1, ?_⟩) fun ws s2 ⟨zs, H2, I2, rz, g2, bs, t2, em2, e2, R2, b2, h2⟩ => ⟨I2.kIn, ?_⟩
    · cases em2 : mk t1 with
      | bad => rw [em2] at h1; exact h1
      | exc y t2 => rw [em2] at h1; exact Zx.ext e1.toExtS h1
      | ok bs t2 =>
        rw [em2] at h1
        have h1 : Sim ((do let h ← hp; runF (call (as ++ bs) h) : M Rv) t2) _ _ := h1
        rw [sim_bind, sim_hp] at h1
        exact fun g' H' xs e2 R2 b2 => ⟨g', bs, t2, rfl, e2, R2, b2, h1⟩
    · rw [k2]
      have hlen := hn t as t1 em
      have hlen2 := hm t1 bs t2 em2
      refine run_GK (E := fun cls d H' => W cls d σ H') F hr hg hb I2 (fun e s' c => tk _ _ (XE.of_call I2 (fun _ _ _ h => h) c)) r rz (by rw [← b1.length]; exact hlen) (by rw [← b2.length]; exact hlen2) ?_
      have := spF_of (dl := []) (dvs := []) (as := as ++ bs) (xs := vs ++ zs) (call := call) (np := np) (g := g) (g1 := g2) (t1 := t2) (H1 := H2) (W := W) (Q := Q) hRX (fun _ _ => .nil) (by rw [List.length_append, List.length_nil]; omega) (by rw [List.append_nil]) (e1.trans e2) R2
        ((b1.ext e2.toExtS).append b2) h2
      rwa [List.append_nil] at this
end
end VM

/-! VMTrS: what the translator gives says what the syntax does. -/
namespace VM
open PySem PySem.Spec PyProof.Rows L2
theorem ixOf_get : ∀ {N : List Str} {x : Str} {i : Nat}, ixOf N x = some i → N[i]? = some x
  | [], _, _, h => by cases h
  | y :: r, x, i, h => by
    unfold ixOf at h
    split at h
    · rename_i e; cases h; rw [e]; rfl
    · cases q : ixOf r x with
      | none => rw [q] at h; cases h
      | some j => rw [q] at h; cases h; exact ixOf_get (N := r) q
theorem ixOf_none : ∀ {N : List Str} {x : Str}, ixOf N x = none → x ∉ N
  | [], _, _ => by simp
  | y :: r, x, h => by
    unfold ixOf at h
    split at h
    · cases h
    · rename_i e
      rw [List.mem_cons, not_or]
      refine ⟨fun z => e z.symm, ?_⟩
      cases q : ixOf r x with
      | none => exact ixOf_none q
      | some j => rw [q] at h; cases h
theorem fnOf_get : ∀ {l : List (Str × Nat × Nat)} {x : Str} {n i : Nat}, VM.fnOf l x n = some i → ∃ lo hi, l[i]? = some (x, lo, hi) ∧ lo ≤ n ∧ n ≤ hi
  | [], _, _, _, h => by cases h
  | (y, lo, hi) :: r, x, n, i, h => by
    unfold VM.fnOf at h
    split at h
    · rename_i e
      split at h
      · rename_i b; cases h; exact ⟨lo, hi, by rw [e]; rfl, b.1, b.2⟩
      · cases h
    · cases q : VM.fnOf r x n with
      | none => rw [q] at h; cases h
      | some j => rw [q] at h; cases h; exact fnOf_get (l := r) q
theorem bopOf_eq {o : Operator} {b : Bop} (h : bopOf o = some b) : o = toOp b := by cases o <;> cases h <;> rfl
theorem copOf_eq {o : CmpOp} {b : Cop} (h : copOf o = some b) : o = toCop b := by cases o <;> cases h <;> rfl
theorem ite_some {α : Type} {q : Prop} [Decidable q] {u w : α} {o : Option α} (h : (if q then some u else o) = some w) : (q ∧ u = w) ∨ o = some w := by
  split at h
  · rename_i z; exact .inl ⟨z, Option.some.inj h⟩
  · exact .inr h
theorem biOf_eq {x : Str} {b : Bi} (h : biOf x = some b) : x = biName b := by
  unfold biOf at h
  repeat
    rcases ite_some h with ⟨z, rfl⟩ | h
    · exact z
  cases h
theorem tyOf_eq {x : Str} {b : Ty} (h : tyOf x = some b) : x = (tyName b : Str) := by
  unfold tyOf at h
  repeat
    rcases ite_some h with ⟨z, rfl⟩ | h
    · exact z
  cases h
theorem star_eq (e : Expr) : isStar e = star1 e := by cases e <;> rfl
theorem isSet_marks {e : Expr} {o : CmpOp} (h : isSet e = false) : behindInMarks o e = false := by cases e <;> first | rfl | cases h
theorem plainIx_of {e : Expr} (h : isSlice e = false) : PlainIx e := by cases e <;> first | exact fun _ _ => rfl | cases h
theorem notSet_fold {e : Expr} {env : Env} (h : isSet e = false) : ∀ x, foldedSetIterable e env x = pure x := by cases e <;> first | exact fun _ => rfl | cases h
theorem semA_len (c : Cfg) : ∀ (es : Es) (s : St) (us : List Vl) (s' : St), semA c es s = .ok us s' → us.length = esLen es
  | .nil, s, us, s', h => by cases h; rfl
  | .cons e es, s, us, s', h => by
    have h : M.bind (sem c e).v (fun r => M.bind (semA c es) fun vs => M.pure (r.fz :: vs)) s = .ok us s' := h
    unfold M.bind at h
    cases h1 : (sem c e).v s with
    | bad => rw [h1] at h; cases h
    | exc x t => rw [h1] at h; cases h
    | ok r t =>
      rw [h1] at h
      dsimp only at h
      cases h2 : semA c es t with
      | bad => rw [h2] at h; cases h
      | exc x t => rw [h2] at h; cases h
      | ok vs t2 =>
        rw [h2] at h
        cases h
        show vs.length + 1 = esLen es + 1
        rw [semA_len c es t vs _ h2]
/-! ### where a text stands -/
/-- what is known of the classes of exceptions -/
structure ExG (K : Fg) (mg : Str → Option Value) (tb : Tb) : Prop where
  xk : ∀ y, tb.kn.contains y = true → XkC K (He.ga K y)
  att : ∀ f, tb.att.contains f = true → ∀ y, tb.kn.contains y = true → PySem.W.findIn K (.ref (He.ga K y)) f = some none
  cat : ∀ x cs, tb.cat.lookup x = some cs → ∃ c v, ClsV v c ∧ RelV v c ∧ (mg x = some c ∨ (mg x = none ∧ bootBuiltins x = some c ∧ x ≠ "__name__")) ∧
    ∀ y, tb.kn.contains y = true → PySem.W.exmOne K (.ref (He.ga K y)) c = some (cs.contains y) ∧ PySem.W.kitOne K (.ref (He.ga K y)) c = some (cs.contains y)
structure Good (X : Cx) (RX : RXT) (W : WX) (c : Cfg) (tb : Tb) (N : List Str) (cx : Ctx) : Prop where
  hN : X.N = N
  nd : N.Nodup
  sc : X.env.scope = cx.sc
  kind : cx.sc.kind = .function
  fn : X.fn = cx.fn
  calm : X.calm = true
  units : X.A.units + 80 < cLine
  guards : X.A.guards = some []
  bis : ∀ x, tb.bis.contains x = true → X.mg x = none
  fns : ∀ (i : Nat) (x : Str) (lo hi : Nat), tb.fns[i]? = some (x, lo, hi) → (x == ("__debug__" : Str)) = false ∧ ∀ n, lo ≤ n → n ≤ hi → Here X RX (c.call i) x n
  cst : ∀ x v, tb.cst.lookup x = some v → ∃ V' u, X.mg x = some u ∧ RelV V' u ∧ ∀ F ρ, RV X.K F ρ v V'
  tk : Takes X W
  rx : ∀ g g' x c d H, g'.F = g.F → g'.P = g.P → g'.ρ = g.ρ → RX g x c d H → RX g' x c d H
  ex : ExG X.K X.mg tb
  kwf : ∀ (g : Str) (n : Nat) (ks : List Str) (i : Nat), (g, n, ks, i) ∈ tb.kwf → (g == ("__debug__" : Str)) = false ∧ HereK X RX (c.call i) g n ks
structure GE (X : Cx) (RX : RXT) (W : WX) (e : Expr) (d : D) : Prop where
  v : PE X e (tM X.K RX W d.v)
  b : PE X e (tB X.K RX W d.b)
  t : PT X e (tT X.K RX W d.t)
section
variable {X : Cx} {RX : RXT} {W : WX} {c : Cfg} {tb : Tb} {N : List Str} {cx : Ctx} {e a b : Expr} {pos p : Pos}
theorem GE.of {m : M Rv} (pv : PE X e (tM X.K RX W m)) (he : ∀ whole, isTrue e X.env whole = (do let v ← whole; standAt e.pos; holding [v] (truthy v))) : GE X RX W e (D.of m) := ⟨pv, tB_of pv, pt_any (tB_of pv) he⟩
theorem Good.kindOf (G : Good X RX W c tb N cx) (x : Str) : X.env.kindOf x = cx.kd x := by
  show X.env.scope.names.lookup x = _
  rw [G.sc]; rfl
theorem Good.lk (G : Good X RX W c tb N cx) (x : Str) : X.env.scope.names.lookup x = cx.kd x := by rw [G.sc]; rfl
theorem Good.gl (G : Good X RX W c tb N cx) {x : Str} (h : cx.kd x = some .globalImplicit) : Gl X x := (G.kindOf x).trans h
theorem Good.free (G : Good X RX W c tb N cx) {x : Str} (h : tb.free cx x = true) : Gl X x ∧ X.mg x = none := by
  unfold Tb.free at h
  rw [Bool.and_eq_true, beq_iff_eq] at h
  exact ⟨G.gl h.2, G.bis x h.1⟩
theorem ndb {x y : Str} (h : ¬ x = y) : (x == y) = false := by simpa using h
theorem trVar_ok (G : Good X RX W c tb N cx) {x : Str} {i : Nat} (h : trVar N cx x = some i) : PE X (.Name x p) (tVar i) := by
  unfold trVar at h
  split at h
  · cases h
  · rename_i hd
    rw [not_or] at hd
    split at h
    · rename_i hk
      refine pe_var (by rw [G.hN]; exact ixOf_get h) ?_ (ndb hd.1) (ndb hd.2)
      unfold Vis
      rw [G.lk]; exact hk
    · cases h
theorem ge_var (G : Good X RX W c tb N cx) {x : Str} {i : Nat} (h : trVar N cx x = some i) : GE X RX W (.Name x p) (sem c (.var i)) :=
  ⟨pe_load (trVar_ok G h), pe_peek (trVar_ok G h), pt_any (pe_peek (trVar_ok G h)) fun _ => rfl⟩
theorem trGlob_ok (G : Good X RX W c tb N cx) {x : Str} {d : E} (h : trGlob tb cx x = some d) : GE X RX W (.Name x p) (sem c d) ∧ notVar d = true := by
  unfold trGlob at h
  split at h
  · cases h
  · rename_i hd
    split at h
    · rename_i hk
      cases q : tb.cst.lookup x with
      | none => rw [q] at h; cases h
      | some v =>
        rw [q] at h; cases h
        obtain ⟨V', u, h1, h2, h3⟩ := G.cst x v q
        exact ⟨.of (tV_of (pe_glob (G.gl hk) h1 h2 (ndb hd)) h3) fun _ => rfl, rfl⟩
    · cases h
theorem cstOf_ok {k : Const} {j : Nat} {v : Vl} (h : cstOf k = some v) : GE X RX W (.Constant k j p) (sem c (.cst v)) := by
  cases k <;> first | (cases h; done) | skip
  · cases h; exact .of (tV_of pe_non fun _ _ => .non) fun _ => rfl
  · cases h; exact .of (tV_of pe_bl fun _ _ => .bl _) fun _ => rfl
  · cases h; exact .of (tV_of pe_int fun _ _ => .int _) fun _ => rfl
  · cases h; exact .of (tV_of pe_str fun _ _ => .str _) fun _ => rfl
/-! ### targets -/
theorem isLoc_ok (G : Good X RX W c tb N cx) {x : Str} (h : cx.isLoc x = true) : L2.Loc X.env.scope x ∧ (X.fn x = true ∨ X.env.scope.names.lookup x = some .local) := by
  unfold Ctx.isLoc at h
  rw [Bool.or_eq_true, Bool.and_eq_true, beq_iff_eq, beq_iff_eq] at h
  unfold L2.Loc
  rw [G.lk, G.fn]
  rcases h with h | ⟨h1, h2⟩
  · exact ⟨.inl h, .inr h⟩
  · exact ⟨.inr h1, .inl h2⟩
theorem trT_ok (G : Good X RX W c tb N cx) : ∀ n, (∀ {e : Expr} {t : T}, trT N cx n e = some t → PG X e (gB X.K t) ∧ isTgt e = true) ∧
    (∀ {es : List Expr} {ts : List T}, trTs N cx n es = some ts → PGs X es (gBs X.K ts) ∧ es.all isTgt = true ∧ es.length = ts.length) := by
  intro n
  induction n with
  | zero => exact ⟨fun {e t} h => by simp [trT] at h, fun {es ts} h => by simp [trTs] at h⟩
  | succ n ih =>
    refine ⟨fun {e t} h => ?_, fun {es ts} h => ?_⟩
    · cases e <;> first | (simp [trT] at h; done) | skip
      · rename_i x q
        simp only [trT] at h
        split at h
        · rename_i hl
          cases z : ixOf N x with
          | none => rw [z] at h; cases h
          | some i =>
            rw [z] at h; cases h
            obtain ⟨l1, l2⟩ := isLoc_ok G hl
            exact ⟨pg_name_ (by rw [G.hN]; exact G.nd) (by rw [G.hN]; exact ixOf_get z) l1 l2, rfl⟩
        · cases h
      · rename_i es k q
        simp only [trT] at h
        cases z : trTs N cx n es with
        | none => rw [z] at h; cases h
        | some ts =>
          rw [z] at h; cases h
          obtain ⟨h1, h2, h3⟩ := ih.2 z
          exact ⟨pg_tup_ G.calm h1 h3 h2, rfl⟩
    · cases es with
      | nil => simp [trTs] at h; subst h; exact ⟨pgs_nil_, rfl, rfl⟩
      | cons e es =>
        simp only [trTs] at h
        split at h
        · rename_i t ts h1 h2
          cases h
          obtain ⟨a1, a2⟩ := ih.1 h1
          obtain ⟨b1, b2, b3⟩ := ih.2 h2
          exact ⟨pgs_cons_ a1 b1 a2, by rw [List.all_cons, a2, b2]; rfl, by rw [List.length_cons, List.length_cons, b3]⟩
        · cases h
/-! ### lists of expressions -/
section
variable {f : Expr → Option E}
theorem trL_ok (hf : ∀ {e d}, f e = some d → GE X RX W e (sem c d)) : ∀ {es : List Expr} {ds : Es}, trL f es = some ds → PA X es (tAF X.K RX W (semA c ds)) ∧ PA X es (tAB X.K RX W (semB c ds)) ∧ stars es = false ∧ esLen ds = es.length
  | [], ds, h => by cases h; exact ⟨paF_nil, paB_nil, rfl, rfl⟩
  | e :: es, ds, h => by
    simp only [trL] at h
    split at h
    · rename_i x xs h1 h2
      split at h
      · cases h
      · rename_i hs
        cases h
        obtain ⟨a1, a2, a3, a4⟩ := trL_ok hf h2
        have hs : star1 e = false := by rw [← star_eq]; simpa using hs
        exact ⟨paF_cons (hf h1).v a1 hs, paB_cons (hf h1).b a2 hs, by show (star1 e || stars es) = false; rw [hs, a3]; rfl, by show esLen xs + 1 = _; rw [a4]; rfl⟩
    · cases h
theorem trAnd_ok (hf : ∀ {e d}, f e = some d → GE X RX W e (sem c d)) : ∀ {es : List Expr} {d : E}, trAnd f es = some d → PE X (.BoolOp .And es pos) (tM X.K RX W (sem c d).v) ∧ PE X (.BoolOp .And es pos) (tB X.K RX W (sem c d).b) ∧ PW X (.BoolOp .And es pos) (tT X.K RX W (sem c d).t)
  | [], _, h => by cases h
  | [a], d, h => ⟨pe_one (hf h).v, pe_one (hf h).b, pw_and1 (hf h).t⟩
  | a :: b :: r, d, h => by
    rw [trAnd] at h
    split at h
    · rename_i x y h1 h2
      cases h
      obtain ⟨i1, i2, i3⟩ := trAnd_ok hf h2
      have pv := pe_and_ (pos := pos) (hf h1).b i1
      exact ⟨pv, tB_of pv, pw_and_ (hf h1).t i3⟩
    · cases h
theorem trOr_ok (hf : ∀ {e d}, f e = some d → GE X RX W e (sem c d)) : ∀ {es : List Expr} {d : E}, trOr f es = some d → PE X (.BoolOp .Or es pos) (tM X.K RX W (sem c d).v) ∧ PE X (.BoolOp .Or es pos) (tB X.K RX W (sem c d).b) ∧ PW X (.BoolOp .Or es pos) (tT X.K RX W (sem c d).t)
  | [], _, h => by cases h
  | [a], d, h => ⟨pe_one (hf h).v, pe_one (hf h).b, pw_or1 (hf h).t⟩
  | a :: b :: r, d, h => by
    rw [trOr] at h
    split at h
    · rename_i x y h1 h2
      cases h
      obtain ⟨i1, i2, i3⟩ := trOr_ok hf h2
      have pv := pe_or_ (pos := pos) (hf h1).b i1
      exact ⟨pv, tB_of pv, pw_or_ (hf h1).t i3⟩
    · cases h
theorem trO_ok (hf : ∀ {e d}, f e = some d → GE X RX W e (sem c d)) {o : Option Expr} {d : Eo} (h : trO f o = some d) : PO X o (tO X.K RX W (semO c d)) := by
  cases o with
  | none => cases h; exact po_none_
  | some e =>
    simp only [trO] at h
    obtain ⟨x, h1, rfl⟩ := Option.map_eq_some_iff.mp h
    exact po_some_ (hf h1).b
theorem trTests_ok (hf : ∀ {e d}, f e = some d → GE X RX W e (sem c d)) {es : List Expr} {d : Es} (h : trTests f es = some d) : PTs X es (tT X.K RX W (semTs c d)) := by
  match es, h with
  | [], h => cases h; exact pts_nil_
  | [e], h =>
    simp only [trTests] at h
    obtain ⟨x, h1, rfl⟩ := Option.map_eq_some_iff.mp h
    exact pts_one (hf h1).t
  | _ :: _ :: _, h => cases h
theorem trI_ok (G : Good X RX W c tb N cx) (hf : ∀ {e d}, f e = some d → GE X RX W e (sem c d)) (fr : Bool) {tg it : Expr} {i : It} (h : trI f tb cx tg it = some i) : PI X tg it (tI X.K RX W fr (semI c fr i)) := by
  unfold trI at h
  split at h
  · rename_i g p es q
    split at h
    · rename_i hg
      subst hg
      split at h
      · rename_i hfree
        obtain ⟨g1, g2⟩ := G.free hfree
        split at h
        · rename_i a
          split at h
          · cases h
          · rename_i hs
            obtain ⟨x, h1, rfl⟩ := Option.map_eq_some_iff.mp h
            exact pi_range1_ g1 g2 (hf h1).b (by rw [← star_eq]; simpa using hs)
        · rename_i a b
          split at h
          · cases h
          · rename_i hs
            rw [Bool.or_eq_true, not_or] at hs
            split at h
            · rename_i x y h1 h2
              cases h
              exact pi_range2_ g1 g2 (hf h1).b (hf h2).b (by rw [← star_eq]; simpa using hs.1) (by rw [← star_eq]; simpa using hs.2)
            · cases h
        · cases h
      · cases h
    · split at h
      · rename_i hg
        subst hg
        split at h
        · rename_i hfree
          rw [Bool.and_eq_true] at hfree
          obtain ⟨g1, g2⟩ := G.free hfree.1
          split at h
          · rename_i a
            split at h
            · cases h
            · rename_i hs
              obtain ⟨x, h1, rfl⟩ := Option.map_eq_some_iff.mp h
              have hs : star1 a = false := by rw [← star_eq]; simpa using hs
              have ht := hfree.2
              cases tg <;> first | (cases ht; done) | exact pi_enum_ g1 g2 (pg_of (hf h1).v (hf h1).b) hs
          · cases h
        · cases h
      · split at h
        · rename_i hg
          subst hg
          split at h
          · rename_i hfree
            rw [Bool.and_eq_true] at hfree
            obtain ⟨g1, g2⟩ := G.free hfree.1
            split at h
            · rename_i a b
              split at h
              · cases h
              · rename_i hs
                rw [Bool.or_eq_true, not_or] at hs
                have hs1 : star1 a = false := by rw [← star_eq]; simpa using hs.1
                have hs2 : star1 b = false := by rw [← star_eq]; simpa using hs.2
                split at h
                · rename_i x y h1 h2
                  cases h
                  have ht := hfree.2
                  cases tg <;> first | (cases ht; done) | exact pi_zip_ g1 g2 (pg_of (hf h1).v (hf h1).b) (pg_of (hf h2).v (hf h2).b) hs1 hs2
                · cases h
            · cases h
          · cases h
        · obtain ⟨x, h1, rfl⟩ := Option.map_eq_some_iff.mp h
          exact pi_seq_ (pg_of (hf h1).v (hf h1).b)
  · split at h
    · cases h
    · obtain ⟨x, h1, rfl⟩ := Option.map_eq_some_iff.mp h
      exact pi_seq_ (pg_of (hf h1).v (hf h1).b)
theorem tysOf_ok (G : Good X RX W c tb N cx) : ∀ {es : List Expr} {ts : List Ty}, tysOf tb cx es = some ts → tyNames ts es = true ∧ ∀ t ∈ ts, Gl X (tyName t) ∧ X.mg (tyName t) = none
  | [], ts, h => by cases h; exact ⟨rfl, fun t ht => by cases ht⟩
  | e :: es, ts, h => by
    cases e <;> first | (simp [tysOf] at h; done) | skip
    rename_i x q
    simp only [tysOf] at h
    split at h
    · rename_i t ts' h1 h2
      split at h
      · rename_i hfree
        cases h
        obtain ⟨i1, i2⟩ := tysOf_ok G h2
        have ex := tyOf_eq h1
        have g := G.free hfree
        refine ⟨?_, fun u hu => ?_⟩
        · show (decide (x = (tyName t : Str)) && tyNames ts' es) = true
          rw [i1, decide_eq_true ex]; rfl
        · rcases List.mem_cons.mp hu with rfl | hu
          · rw [← ex]; exact g
          · exact i2 u hu
      · cases h
    · cases h
theorem catOf_ok (G : Good X RX W c tb N cx) {x : Str} {cs : List Str} (h : catOf tb cx x = some cs) : ∃ c v, ClsV v c ∧ RelV v c ∧ Names X x c ∧ ∀ y, tb.kn.contains y = true → PySem.W.kitOne X.K (.ref (He.ga X.K y)) c = some (cs.contains y) := by
  unfold catOf at h
  split at h
  · rename_i hk
    rw [Bool.and_eq_true] at hk
    obtain ⟨c, v, c1, c2, c3, c4⟩ := G.ex.cat x cs h
    exact ⟨c, v, c1, c2, ⟨G.gl (by simpa using hk.1), by simpa using hk.2, c3⟩, fun y hy => (c4 y hy).2⟩
  · cases h
theorem catsOf_ok (G : Good X RX W c tb N cx) : ∀ {es : List Expr} {cs : List (List Str)}, catsOf tb cx es = some cs → ∃ vs us, PA X es (fun _ H Q => Q vs H) ∧ Paired ClsV vs us ∧ vs.length = es.length ∧
    ∀ y, tb.kn.contains y = true → PySem.W.kitAny X.K (.ref (He.ga X.K y)) us = some (cs.any fun c => c.contains y)
  | [], cs, h => by cases h; exact ⟨[], [], pa_nil, .nil, rfl, fun _ _ => rfl⟩
  | e :: es, cs, h => by
    cases e <;> first | (simp [catsOf] at h; done) | skip
    rename_i x q
    simp only [catsOf] at h
    split at h
    · rename_i t ts h1 h2
      cases h
      obtain ⟨c, v, c1, c2, c3, c4⟩ := catOf_ok G h1
      obtain ⟨vs, us, i1, i2, i3, i4⟩ := catsOf_ok G h2
      refine ⟨v :: vs, c :: us, (pa_cons (pe_cname c3 c2) i1 rfl).imp fun σ H Q q => q, .cons c1 i2, by simp [i3], fun y hy => ?_⟩
      rw [List.any_cons]
      have k1 := c4 y hy
      have k2 := i4 y hy
      cases z : t.contains y with
      | true => rw [z] at k1; exact kitAny_cons k1 (fun z => by cases z) fun _ => rfl
      | false => rw [z] at k1; exact kitAny_cons k1 (fun _ => k2) fun z => by cases z
    · cases h
theorem trCall_ok (G : Good X RX W c tb N cx) (hf : ∀ {e d}, f e = some d → GE X RX W e (sem c d)) {g : Str} {es : List Expr} {d : E} (h : trCall f tb cx g es = some d) : GE X RX W (.Call (.Name g p) es [] pos) (sem c d) ∧ notVar d = true := by
  unfold trCall at h
  split at h
  · rename_i hg
    subst hg
    split at h
    · rename_i hfree
      obtain ⟨g1, g2⟩ := G.free hfree
      split at h
      · rename_i a t
        split at h
        · cases h
        · rename_i hs
          have hs : star1 a = false := by rw [← star_eq]; simpa using hs
          split at h
          · rename_i x q
            split at h
            · rename_i hx
              obtain ⟨g3, g4⟩ := G.free hx
              split at h
              · rename_i a' t' h1 h2
                cases h
                have ex := tyOf_eq h2
                subst ex
                exact ⟨.of (pe_isa1 (hf h1).b hs g1 g2 g3 g4) fun _ => rfl, rfl⟩
              · cases h
            · split at h
              · rename_i a' cs h1 h2
                cases h
                obtain ⟨c, v, c1, c2, c3, c4⟩ := catOf_ok G h2
                exact ⟨.of (pe_isX1 (hf h1).b hs g1 g2 c3 c1 c2 fun y hy => ⟨G.ex.xk y hy, c4 y hy⟩) fun _ => rfl, rfl⟩
              · cases h
          · rename_i ts k q
            split at h
            · rename_i ts' h2
              split at h
              · rename_i a' h1
                split at h
                · rename_i hl
                  cases h
                  obtain ⟨i1, i2⟩ := tysOf_ok G h2
                  exact ⟨.of (pe_isaT (hf h1).b hs g1 g2 i1 hl i2) fun _ => rfl, rfl⟩
                · cases h
              · cases h
            · split at h
              · rename_i a' cs h1 h2
                split at h
                · rename_i hl
                  cases h
                  obtain ⟨vs, us, c1, c2, c3, c4⟩ := catsOf_ok G h2
                  exact ⟨.of (pe_isXT (hf h1).b hs g1 g2 c1 c2 (by rw [c3]; exact hl) fun y hy => ⟨G.ex.xk y hy, by
                    rw [c4 y hy]
                    have hm : y ∈ tb.kn := by simpa using hy
                    congr 1
                    rw [Bool.eq_iff_iff]
                    simp [hm]⟩) fun _ => rfl, rfl⟩
                · cases h
              · cases h
          · cases h
      · cases h
    · cases h
  · split at h
    · rename_i i hi
      split at h
      · rename_i hk
        obtain ⟨ds, h1, rfl⟩ := Option.map_eq_some_iff.mp h
        obtain ⟨a1, a2, a3, a4⟩ := trL_ok hf h1
        obtain ⟨lo, hi', h2, h3, h4⟩ := fnOf_get hi
        obtain ⟨d1, d2⟩ := G.fns i g lo hi' h2
        have hq := d2 es.length h3 h4
        have hk : cx.kd g = some .globalImplicit := by simpa using hk
        refine ⟨.of ?_ fun _ => rfl, rfl⟩
        cases es with
        | nil =>
          cases h1
          exact pe_call0_ hq G.guards G.tk G.rx (G.gl hk) d1
        | cons e es => exact pe_call_ hq G.guards G.tk G.rx a1 (fun s us s' z => by rw [semA_len c ds s us s' z, a4]) a3 (G.gl hk) d1
      · cases h
    · split at h
      · rename_i b e es hb
        split at h
        · rename_i hfree
          obtain ⟨g1, g2⟩ := G.free hfree
          obtain ⟨ds, h1, rfl⟩ := Option.map_eq_some_iff.mp h
          obtain ⟨a1, a2, a3, a4⟩ := trL_ok hf h1
          have ex := biOf_eq ‹biOf g = some _›
          subst ex
          exact ⟨.of (pe_bi_ G.units G.guards G.calm _ a2 a3 g1 g2) fun _ => rfl, rfl⟩
        · cases h
      · cases h
theorem kwOf_get {l : List (Str × Nat × List Str × Nat)} {g : Str} {n i : Nat} {ks : List Str} (h : VM.kwOf l g n ks = some i) : (g, n, ks, i) ∈ l := by
  unfold VM.kwOf at h
  split at h
  · rename_i p hp
    cases h
    have h1 := List.mem_of_find?_eq_some hp
    have h2 := List.find?_some hp
    simp only [decide_eq_true_eq] at h2
    obtain ⟨rfl, rfl, rfl⟩ := h2
    exact h1
  · cases h
theorem semA_app : ∀ (a b : Es), semA c (appE a b) = (do let vs ← semA c a; let us ← semA c b; pure (vs ++ us) : M (List Vl))
  | .nil, b => by
    funext s
    show semA c b s = M.bind (M.pure []) (fun vs => M.bind (semA c b) fun us => M.pure (vs ++ us)) s
    unfold M.bind M.pure
    dsimp only
    cases semA c b s <;> rfl
  | .cons e a, b => by
    funext s
    show M.bind (sem c e).v (fun r => M.bind (semA c (appE a b)) fun vs => M.pure (r.fz :: vs)) s = M.bind (M.bind (sem c e).v (fun r => M.bind (semA c a) fun vs => M.pure (r.fz :: vs))) (fun vs => M.bind (semA c b) fun us => M.pure (vs ++ us)) s
    rw [semA_app a b]
    show M.bind (sem c e).v (fun r => M.bind (M.bind (semA c a) fun vs => M.bind (semA c b) fun us => M.pure (vs ++ us)) fun vs => M.pure (r.fz :: vs)) s = _
    unfold M.bind M.pure
    cases h1 : (sem c e).v s with
    | bad => rfl
    | exc x t => rfl
    | ok r t =>
      dsimp only
      cases h2 : semA c a t with
      | bad => rfl
      | exc x t2 => rfl
      | ok vs t2 =>
        dsimp only
        cases h3 : semA c b t2 <;> rfl
theorem trKs_ok (hf : ∀ {e d}, f e = some d → GE X RX W e (sem c d)) : ∀ {kws : List Keyword} {ds : Es}, trKs f kws = some ds → PK X kws (tAF X.K RX W (semA c ds)) ∧ esLen ds = kws.length
  | [], ds, h => by cases h; exact ⟨pkF_nil, rfl⟩
  | ⟨nm, v, q⟩ :: r, ds, h => by
    simp only [trKs] at h
    split at h
    · rename_i x xs h1 h2
      cases h
      obtain ⟨a1, a2⟩ := trKs_ok hf h2
      exact ⟨pkF_cons (hf h1).v a1, by show esLen xs + 1 = r.length + 1; rw [a2]⟩
    · cases h
theorem kwNames_len : ∀ {kws : List Keyword} {ks : List Str}, kwNames kws = some ks → ks.length = kws.length
  | [], ks, h => by cases h; rfl
  | ⟨some n, v, q⟩ :: r, ks, h => by
    obtain ⟨l, h1, rfl⟩ := Option.map_eq_some_iff.mp (show (kwNames r).map (n :: ·) = some ks from h)
    show l.length + 1 = r.length + 1
    rw [kwNames_len h1]
  | ⟨none, v, q⟩ :: r, ks, h => by cases h
theorem trKw_ok (G : Good X RX W c tb N cx) (hf : ∀ {e d}, f e = some d → GE X RX W e (sem c d)) {g : Str} {es : List Expr} {kws : List Keyword} {d : E} (h : trKw f tb cx g es kws = some d) : GE X RX W (.Call (.Name g p) es kws pos) (sem c d) ∧ notVar d = true := by
  unfold trKw at h
  split at h
  · rename_i e es ks hks
    split at h
    · rename_i i a b h1 h2 h3
      split at h
      · rename_i hk
        cases h
        have hk : cx.kd g = some .globalImplicit := by simpa using hk
        obtain ⟨d1, d2⟩ := G.kwf g _ ks i (kwOf_get h1)
        obtain ⟨a1, a2, a3, a4⟩ := trL_ok hf h2
        obtain ⟨b1, b2⟩ := trKs_ok hf h3
        have key := pe_callK_ (pos := pos) (p := p) d2 G.guards G.tk G.rx a1 b1 (fun s us s' z => by rw [semA_len c a s us s' z, a4]) (fun s us s' z => by rw [semA_len c b s us s' z, b2, kwNames_len hks]) a3 hks (G.gl hk) d1
        refine ⟨.of ?_ fun _ => rfl, rfl⟩
        have e2 : (do let vs ← semA c (appE a b); let h ← hp; runF (c.call i vs h) : M Rv) = (do let vs ← semA c a; let us ← semA c b; let h ← hp; runF (c.call i (vs ++ us) h)) := by
          rw [semA_app]
          funext s
          show M.bind (M.bind (semA c a) fun vs => M.bind (semA c b) fun us => M.pure (vs ++ us)) (fun vs => M.bind hp fun h => runF (c.call i vs h)) s = M.bind (semA c a) (fun vs => M.bind (semA c b) fun us => M.bind hp fun h => runF (c.call i (vs ++ us) h)) s
          unfold M.bind M.pure
          cases h1 : semA c a s with
          | bad => rfl
          | exc x t => rfl
          | ok r t =>
            dsimp only
            cases h2 : semA c b t <;> rfl
        rw [e2]
        exact key
      · cases h
    · cases h
  · cases h
theorem trLrg_ok (G : Good X RX W c tb N cx) (hf : ∀ {e d}, f e = some d → GE X RX W e (sem c d)) {g : Str} {es : List Expr} {d : E} (h : trLrg f tb cx g es = some d) : GE X RX W (.Call (.Name g p) es [] pos) (sem c d) := by
  unfold trLrg at h
  split at h
  · split at h
    · rename_i hc
      obtain ⟨rfl, rfl, c1, c2, c3, c4⟩ := hc
      split at h
      · rename_i x y h1 h2
        cases h
        obtain ⟨g1, g2⟩ := G.free c1
        obtain ⟨g3, g4⟩ := G.free c2
        exact .of (pe_lrg_ G.calm g1 g2 g3 g4 (by rw [← star_eq]; exact c3) (by rw [← star_eq]; exact c4) (hf h1).b (hf h2).b) fun _ => rfl
      · cases h
    · cases h
  · cases h
theorem trSub_ok (G : Good X RX W c tb N cx) (hf : ∀ {e d}, f e = some d → GE X RX W e (sem c d)) {i : Expr} {d : E} (h : trSub f a i = some d) : GE X RX W (.Subscript a i pos) (sem c d) ∧ notVar d = true := by
  unfold trSub at h
  split at h
  · split at h
    · rename_i x l u h1 h2 h3
      cases h
      exact ⟨.of (pe_slc_ (hf h1).b (trO_ok hf h2) (trO_ok hf h3)) fun _ => rfl, rfl⟩
    · cases h
  · split at h
    · rename_i x l h1 h2
      split at h
      · cases h
      · rename_i hk
        cases h
        exact ⟨.of (pe_stp_ hk (hf h1).b (hf h2).b) fun _ => rfl, rfl⟩
    · cases h
  · obtain ⟨x, h1, rfl⟩ := Option.map_eq_some_iff.mp h
    exact ⟨.of (pe_rev_ (hf h1).b) fun _ => rfl, rfl⟩
  · split at h
    · cases h
    · rename_i hs
      split at h
      · rename_i x y h1 h2
        cases h
        exact ⟨.of (pe_idx_ (by have := G.units; omega) (hf h1).b (hf h2).b (plainIx_of (by simpa using hs))) fun _ => rfl, rfl⟩
      · cases h
theorem trCmp_ok (G : Good X RX W c tb N cx) (hf : ∀ {e d}, f e = some d → GE X RX W e (sem c d)) {os : List CmpOp} {bs : List Expr} {d : E} (h : trCmp f a os bs = some d) : GE X RX W (.Compare a os bs pos) (sem c d) ∧ notVar d = true := by
  have hu : X.A.units + 64 < cLine := by have := G.units; omega
  unfold trCmp at h
  split at h
  · obtain ⟨x, h1, rfl⟩ := Option.map_eq_some_iff.mp h
    exact ⟨⟨pe_isN_ (hf h1).b, tB_of (pe_isN_ (hf h1).b), pt_isN_ (hf h1).b⟩, rfl⟩
  · obtain ⟨x, h1, rfl⟩ := Option.map_eq_some_iff.mp h
    exact ⟨⟨pe_notN_ (hf h1).b, tB_of (pe_notN_ (hf h1).b), pt_notN_ (hf h1).b⟩, rfl⟩
  · obtain ⟨x, h1, rfl⟩ := Option.map_eq_some_iff.mp h
    exact ⟨⟨pe_isB_ (hf h1).b, tB_of (pe_isB_ (hf h1).b), pt_isB_ (hf h1).b⟩, rfl⟩
  · obtain ⟨x, h1, rfl⟩ := Option.map_eq_some_iff.mp h
    exact ⟨⟨pe_notB_ (hf h1).b, tB_of (pe_notB_ (hf h1).b), pt_notB_ (hf h1).b⟩, rfl⟩
  · split at h
    · rename_i o x y h1 h2 h3
      split at h
      · cases h
      · rename_i hs
        cases h
        have eo := copOf_eq h1
        subst eo
        have hm := isSet_marks (o := toCop o) (by simpa using hs)
        have pv := pe_cop (pos := pos) hu (o := o) (hf h2).b (hf h3).b hm
        exact ⟨⟨pv, tB_of pv, pt_cop hu (hf h2).b (hf h3).b hm⟩, rfl⟩
    · cases h
  · split at h
    · rename_i o u x y z h1 h2 h3 h4 h5
      split at h
      · cases h
      · rename_i hs
        cases h
        have eo := copOf_eq h1
        subst eo
        have eu := copOf_eq h2
        subst eu
        have hm : ∀ bb dd, isSet dd = false → lastMarks [toCop o, toCop u] [bb, dd] = false := fun bb dd h => isSet_marks (o := toCop u) h
        have pv := pe_chain_ (pos := pos) hu (o := o) (u := u) (hf h3).b (hf h4).b (hf h5).b (hm _ _ (by simpa using hs))
        exact ⟨⟨pv, tB_of pv, pt_chain_ hu (hf h3).b (hf h4).b (hf h5).b (hm _ _ (by simpa using hs))⟩, rfl⟩
    · cases h
  · cases h
end
end
end VM

/-! VMTrS2: expressions, statements. -/
namespace VM
open PySem PySem.Spec PyProof.Rows L2
section
variable {X : Cx} {RX : RXT} {W : WX} {c : Cfg} {tb : Tb} {N : List Str} {cx : Ctx} {e a b : Expr} {pos p : Pos}
theorem ownOf_mem {scope : Scope} {q : Str × Nat} (h : q ∈ ownOf N scope) : N[q.2]? = some q.1 := by
  unfold ownOf at h
  obtain ⟨y, _, h2⟩ := List.mem_filterMap.mp h
  obtain ⟨i, h3, rfl⟩ := Option.map_eq_some_iff.mp h2
  exact ixOf_get h3
theorem blkOk_ok {sc scope : Scope} (h : blkOk sc scope = true) : BlkOk N sc scope (ownOf N scope) := by
  unfold blkOk at h
  rw [Bool.and_eq_true, Bool.and_eq_true, List.all_eq_true, List.all_eq_true, beq_iff_eq] at h
  obtain ⟨⟨h1, h2⟩, h3⟩ := h
  refine ⟨h1, fun y hy => by simpa using h2 y hy, fun q hq => ownOf_mem hq, fun y hy hk => ?_, fun y hy hk => ?_⟩
  · have := h3 y hy
    rw [hk] at this
    simpa using this
  · cases z : ixOf N y.1 with
    | none => exact .inr (ixOf_none z)
    | some i =>
      refine .inl (List.mem_map.mpr ⟨(y.1, i), ?_, rfl⟩)
      unfold ownOf
      refine List.mem_filterMap.mpr ⟨y, List.mem_filter.mpr ⟨hy, ?_⟩, by rw [z]; rfl⟩
      rcases hk with hk | hk <;> rw [hk] <;> rfl
theorem Good.blk (G : Good X RX W c tb N cx) {scope : Scope} (hk : scope.kind = .function) (s : Shared) (H : Hp) (C : Addr) (cl : List (Str × Addr)) (fp : List Addr) : Good (X.blk s H scope (compEnvC scope cl C X.env) fp) RX W0 c tb N (cx.blk scope) :=
  ⟨G.hN, G.nd, by show relS scope X.env.scope = _; rw [G.sc]; rfl, hk, rfl, G.calm, G.units, G.guards, G.bis, fun i x lo hi h => ⟨(G.fns i x lo hi h).1, fun n l1 l2 => ⟨((G.fns i x lo hi h).2 n l1 l2).ex⟩⟩, G.cst, fun u s' ⟨_, _, _, _, _, _, _, _, _, _, _, _, _, _, _, _, w⟩ => w.elim, G.rx, G.ex, fun g n ks i h => ⟨(G.kwf g n ks i h).1, ⟨(G.kwf g n ks i h).2.ex⟩⟩⟩
theorem lc_parts {n : Nat} (ih : ∀ {X : Cx} {W : WX} {cx : Ctx} {e : Expr} {d : E}, Good X RX W c tb N cx → trE tb N n cx e = some d → GE X RX W e (sem c d)) (G : Good X RX W c tb N cx)
    {elt : Expr} {gs : List Comprehension} {scope : Scope} {d : E} (h : trE tb N (n + 1) cx (.ListComp elt gs scope pos) = some d) :
    ∃ tg it ifs i t ts x, gs = [⟨tg, it, ifs, 0⟩] ∧ d = .lc x t i ts ((ownOf N scope).map (·.2)) ∧ PI X tg it (tI X.K RX W false (semI c false i)) ∧ BlkOk X.N X.env.scope scope (ownOf N scope) ∧ (∀ j ∈ tnames t, j ∈ (ownOf N scope).map (·.2)) ∧
      (∀ (s : Shared) (H : Hp) (C : Addr) (cl : List (Str × Addr)) (fp : List Addr), PG (X.blk s H scope (compEnvC scope cl C X.env) fp) tg (gB X.K t)) ∧
      (∀ (s : Shared) (H : Hp) (C : Addr) (cl : List (Str × Addr)) (fp : List Addr), PTs (X.blk s H scope (compEnvC scope cl C X.env) fp) ifs (tT X.K RX W0 (semTs c ts))) ∧
      (∀ (s : Shared) (H : Hp) (C : Addr) (cl : List (Str × Addr)) (fp : List Addr), PE (X.blk s H scope (compEnvC scope cl C X.env) fp) elt (tM X.K RX W0 (sem c x).v)) ∧ (∀ x, foldedSetIterable it X.env x = pure x) := by
  replace h : trLc (trE tb N n) n tb N cx elt scope gs = some d := h
  obtain ⟨tg, it, ifs, k, rfl⟩ : ∃ tg it ifs k, gs = [⟨tg, it, ifs, k⟩] := by
    match gs, h with
    | [⟨tg, it, ifs, k⟩], _ => exact ⟨tg, it, ifs, k, rfl⟩
  unfold trLc at h
  dsimp only at h
  by_cases hc : k = 0 ∧ blkOk cx.sc scope = true ∧ isSet it = false
  case neg => rw [if_neg hc] at h; cases h
  rw [if_pos hc] at h
  obtain ⟨hk, hc, hs⟩ := hc
  have hk : k = 0 := hk
  subst hk
  have hs : isSet it = false := hs
  have ok := blkOk_ok (N := N) hc
  split at h
  case h_2 => cases h
  rename_i i t ts x h1 h2 h3 h4
  split at h
  case isFalse => cases h
  rename_i hT
  cases h
  have hT : ∀ j ∈ tnames t, j ∈ (ownOf N scope).map (·.2) := fun j hj => by simpa using List.all_eq_true.mp hT j hj
  have GB := fun s H C cl fp => G.blk (scope := scope) ok.kind s H C cl fp
  refine ⟨tg, it, ifs, i, t, ts, x, rfl, rfl, trI_ok G (fun z => ih G z) false h1, by rw [G.hN, G.sc]; exact ok, hT, fun s H C cl fp => ((trT_ok (GB s H C cl fp) n).1 h2).1, fun s H C cl fp => trTests_ok (fun z => ih (GB s H C cl fp) z) h3, fun s H C cl fp => (ih (GB s H C cl fp) h4).v, notSet_fold hs⟩
theorem dc_parts {n : Nat} (ih : ∀ {X : Cx} {W : WX} {cx : Ctx} {e : Expr} {d : E}, Good X RX W c tb N cx → trE tb N n cx e = some d → GE X RX W e (sem c d)) (G : Good X RX W c tb N cx)
    {kx vx : Expr} {gs : List Comprehension} {scope : Scope} {d : E} (h : trE tb N (n + 1) cx (.DictComp kx vx gs scope pos) = some d) :
    ∃ tg it i t x y, gs = [⟨tg, it, [], 0⟩] ∧ d = .dc x y t i ((ownOf N scope).map (·.2)) ∧ PI X tg it (tI X.K RX W false (semI c false i)) ∧ BlkOk X.N X.env.scope scope (ownOf N scope) ∧ (∀ j ∈ tnames t, j ∈ (ownOf N scope).map (·.2)) ∧
      (∀ (s : Shared) (H : Hp) (C : Addr) (cl : List (Str × Addr)) (fp : List Addr), PG (X.blk s H scope (compEnvC scope cl C X.env) fp) tg (gB X.K t)) ∧
      (∀ (s : Shared) (H : Hp) (C : Addr) (cl : List (Str × Addr)) (fp : List Addr), PTs (X.blk s H scope (compEnvC scope cl C X.env) fp) [] (tT X.K RX W0 (pure true))) ∧
      (∀ (s : Shared) (H : Hp) (C : Addr) (cl : List (Str × Addr)) (fp : List Addr), PE (X.blk s H scope (compEnvC scope cl C X.env) fp) kx (tB X.K RX W0 (sem c x).b)) ∧
      (∀ (s : Shared) (H : Hp) (C : Addr) (cl : List (Str × Addr)) (fp : List Addr), PE (X.blk s H scope (compEnvC scope cl C X.env) fp) vx (tM X.K RX W0 (sem c y).v)) ∧ (∀ x, foldedSetIterable it X.env x = pure x) := by
  replace h : trDc (trE tb N n) n tb N cx kx vx scope gs = some d := h
  obtain ⟨tg, it, ifs, k, rfl⟩ : ∃ tg it ifs k, gs = [⟨tg, it, ifs, k⟩] := by
    match gs, h with
    | [⟨tg, it, ifs, k⟩], _ => exact ⟨tg, it, ifs, k, rfl⟩
  unfold trDc at h
  dsimp only at h
  by_cases hc : k = 0 ∧ blkOk cx.sc scope = true ∧ isSet it = false ∧ ifs.isEmpty = true
  case neg => rw [if_neg hc] at h; cases h
  rw [if_pos hc] at h
  obtain ⟨hk, hc, hs, hi⟩ := hc
  obtain rfl : ifs = [] := List.isEmpty_iff.mp hi
  subst hk
  have ok := blkOk_ok (N := N) hc
  split at h
  case h_2 => cases h
  rename_i i t x y h1 h2 h3 h4
  split at h
  case isFalse => cases h
  rename_i hT
  cases h
  have hT : ∀ j ∈ tnames t, j ∈ (ownOf N scope).map (·.2) := fun j hj => by simpa using List.all_eq_true.mp hT j hj
  have GB := fun s H C cl fp => G.blk (scope := scope) ok.kind s H C cl fp
  exact ⟨tg, it, i, t, x, y, rfl, rfl, trI_ok G (fun z => ih G z) false h1, by rw [G.hN, G.sc]; exact ok, hT, fun s H C cl fp => ((trT_ok (GB s H C cl fp) n).1 h2).1, fun s H C cl fp => pts_nil_, fun s H C cl fp => (ih (GB s H C cl fp) h3).b, fun s H C cl fp => (ih (GB s H C cl fp) h4).v, notSet_fold hs⟩
/-- a reversal of the sugar -/
theorem trE_ok : ∀ (n : Nat) {X : Cx} {W : WX} {cx : Ctx} {e : Expr} {d : E}, Good X RX W c tb N cx → trE tb N n cx e = some d → GE X RX W e (sem c d)
  | 0, _, _, _, _, _, _, h => by simp [trE] at h
  | n + 1, X, W, cx, e, d, G, h => by
    have ih : ∀ {X : Cx} {W : WX} {cx : Ctx} {e : Expr} {d : E}, Good X RX W c tb N cx → trE tb N n cx e = some d → GE X RX W e (sem c d) := fun G z => trE_ok n G z
    have hf : ∀ {e : Expr} {d : E}, trE tb N n cx e = some d → GE X RX W e (sem c d) := fun z => ih G z
    cases e with
    | Name x q =>
      replace h : (match trVar N cx x with
        | some i => some (E.var i)
        | none => trGlob tb cx x) = some d := h
      split at h
      · rename_i i hv
        cases h
        exact ge_var G hv
      · exact (trGlob_ok G h).1
    | Constant k j q =>
      replace h : (cstOf k).map E.cst = some d := h
      obtain ⟨v, h1, rfl⟩ := Option.map_eq_some_iff.mp h
      exact cstOf_ok h1
    | Tuple es k q =>
      replace h : (trL (trE tb N n cx) es).map E.tup = some d := h
      obtain ⟨v, h1, rfl⟩ := Option.map_eq_some_iff.mp h
      exact .of (pe_tup_ (trL_ok hf h1).1) fun _ => rfl
    | List es q =>
      replace h : (trL (trE tb N n cx) es).map E.lst = some d := h
      obtain ⟨v, h1, rfl⟩ := Option.map_eq_some_iff.mp h
      exact .of (pe_lst_ (trL_ok hf h1).1) fun _ => rfl
    | Dict ks vs q =>
      match ks, vs, h with
      | [], [], h =>
        cases h
        exact .of (pe_dnewK.imp fun σ H Q ⟨g, s, R, h⟩ => fun p hp => by
          obtain ⟨R2, rr⟩ := R.newDct hp (vs := []) .nil
          exact h g _ _ (.refl g) R2 rr) fun _ => rfl
      | [], _ :: _, h => cases h
      | _ :: _, _, h => cases h
    | BinOp a o b q =>
      replace h : (match bopOf o, trE tb N n cx a, trE tb N n cx b with
        | some o, some x, some y => some (E.bin o x y)
        | _, _, _ => none) = some d := h
      split at h
      · rename_i o' x y h1 h2 h3
        cases h
        have eo := bopOf_eq h1
        subst eo
        exact .of (pe_bin (hf h2).b (hf h3).b) fun _ => rfl
      · cases h
    | UnaryOp o a q =>
      cases o with
      | Not =>
        replace h : (trE tb N n cx a).map E.nt = some d := h
        obtain ⟨x, h1, rfl⟩ := Option.map_eq_some_iff.mp h
        exact ⟨pe_nt (hf h1).b, tB_of (pe_nt (hf h1).b), pt_nt (hf h1).t⟩
      | USub =>
        replace h : (trE tb N n cx a).map E.neg = some d := h
        obtain ⟨x, h1, rfl⟩ := Option.map_eq_some_iff.mp h
        exact .of (pe_neg (hf h1).b) fun _ => rfl
      | Invert => cases h
      | UAdd => cases h
    | BoolOp o es q =>
      match es with
      | [] => cases o <;> cases h
      | [_] => cases o <;> cases h
      | a :: b :: r =>
        cases o with
        | And =>
          replace h : trAnd (trE tb N n cx) (a :: b :: r) = some d := h
          obtain ⟨i1, i2, i3⟩ := trAnd_ok (pos := q) hf h
          exact ⟨i1, i2, i3.pt⟩
        | Or =>
          replace h : trOr (trE tb N n cx) (a :: b :: r) = some d := h
          obtain ⟨i1, i2, i3⟩ := trOr_ok (pos := q) hf h
          exact ⟨i1, i2, i3.pt⟩
    | IfExp t a b q =>
      replace h : (match trE tb N n cx t, trE tb N n cx a, trE tb N n cx b with
        | some t, some x, some y => some (E.ife t x y)
        | _, _, _ => none) = some d := h
      split at h
      · rename_i t' x y h1 h2 h3
        cases h
        have pv := pe_ife (pos := q) (hf h1).t (hf h2).v (hf h3).v
        exact ⟨pv, tB_of pv, pt_ife_ (hf h1).t (hf h2).t (hf h3).t⟩
      · cases h
    | Compare a os bs q => exact (trCmp_ok G hf (show trCmp (trE tb N n cx) a os bs = some d from h)).1
    | Subscript a i q => exact (trSub_ok G hf (show trSub (trE tb N n cx) a i = some d from h)).1
    | Attribute o a q =>
      cases o with
      | Name x r =>
        replace h : (if tb.att.contains a then (trVar N cx x).map fun i => E.fld (.var i) tb.kn a else none) = some d := h
        split at h
        · rename_i ha
          obtain ⟨i, h1, rfl⟩ := Option.map_eq_some_iff.mp h
          exact .of (pe_fld_ (ge_var (c := c) G h1).b (fun y hy => ⟨G.ex.xk y hy, G.ex.att a ha y hy⟩) rfl) fun _ => rfl
        · cases h
      | _ => cases h
    | Call g es kws q =>
      cases g with
      | Name x r =>
        match kws, h with
        | [], h =>
          replace h : (match trLrg (trE tb N n cx) tb cx x es with
            | some d => some d
            | none => trCall (trE tb N n cx) tb cx x es) = some d := h
          split at h
          · rename_i d' h1
            cases h
            exact trLrg_ok G hf h1
          · exact (trCall_ok G hf h).1
        | kw :: kws, h => exact (trKw_ok G hf (show trKw (trE tb N n cx) tb cx x es (kw :: kws) = some d from h)).1
      | _ => cases h
    | ListComp elt gs scope q =>
      obtain ⟨tg, it, ifs, i, t, ts, x, rfl, rfl, hi, ok, hT, hg, ht, he, hs⟩ := lc_parts ih G h
      exact .of (pe_lc_ G.calm (by rw [G.hN]; exact G.nd) hi ok hT hg ht he hs) fun _ => rfl
    | DictComp kx vx gs scope q =>
      obtain ⟨tg, it, i, t, x, y, rfl, rfl, hi, ok, hT, hg, ht, hk, he, hs⟩ := dc_parts ih G h
      exact .of (pe_dc_ G.calm (by rw [G.hN]; exact G.nd) hi ok hT hg ht hk he hs) fun _ => rfl
    | _ => cases h
end
end VM

/-! VMTrS3: statements. -/
namespace VM
open PySem PySem.Spec PyProof.Rows L2
section
variable {X : Cx} {RX : RXT} {W : WX} {c : Cfg} {tb : Tb} {N : List Str} {cx : Ctx} {e e' a b : Expr} {pos p tp : Pos}
theorem sw_plain {e : Expr} {t : Option Expr} {l : Nat} {env : Env} (h : isComp e = false) : swapsWith e t l env = pure false := by cases e <;> first | rfl | cases h
theorem sw_tup {es : List Expr} {k l : Nat} {env : Env} : swapsWithSole [.Tuple es k tp] e l env = pure false := by cases e <;> rfl
theorem sw_sub {o i : Expr} {l : Nat} {env : Env} : swapsWithSole [.Subscript o i tp] e l env = pure false := by cases e <;> rfl
theorem sst_none {es : List Expr} {k : Nat} {env : Env} (h : isTup e = false) : swappedStores [.Tuple es k tp] e env = pure none := by cases e <;> first | rfl | cases h
theorem ps_setG_ {i : Nat} {x : Str} {m : M Rv} (hN : X.N.Nodup) (hi : X.N[i]? = some x) (hx : L2.Loc X.env.scope x) (hf : X.fn x = true ∨ X.env.scope.names.lookup x = some .local) (he : PE X e (tM X.K RX W m)) (hs : swapsWith e (some (.Name x p)) pos.line X.env = pure false) :
    PS X (.Assign [.Name x p] e pos) (tS X.K RX W (do let r ← m; bindT (.n i) r; pure .nx)) :=
  (ps_set hN hi hx he hs hf).imp fun D σ H h => set_tail h
theorem sw_comp (G : Good X RX W c tb N cx) {y : Str} {py : Pos} {elt : Expr} {gs : List Comprehension} {scope : Scope} {l : Nat} (h : swB cx y py (.ListComp elt gs scope pos) = true) :
    X.env.scope.names.lookup y = some .local ∧ swapsWith (.ListComp elt gs scope pos) (some (.Name y py)) l X.env = pure true := by
  unfold swB at h
  rw [Bool.and_eq_true, Bool.and_eq_true, beq_iff_eq] at h
  have hl : X.env.scope.names.lookup y = some .local := by rw [G.lk]; exact h.1.1
  exact ⟨hl, sw_true (by rw [G.sc]; exact G.kind) hl h.1.2 (by simpa using h.2)⟩
theorem sw_compD (G : Good X RX W c tb N cx) {y : Str} {py : Pos} {kx vx : Expr} {gs : List Comprehension} {scope : Scope} {l : Nat} (h : swB cx y py (.DictComp kx vx gs scope pos) = true) :
    X.env.scope.names.lookup y = some .local ∧ swapsWith (.DictComp kx vx gs scope pos) (some (.Name y py)) l X.env = pure true := by
  unfold swB at h
  rw [Bool.and_eq_true, Bool.and_eq_true, beq_iff_eq] at h
  have hl : X.env.scope.names.lookup y = some .local := by rw [G.lk]; exact h.1.1
  refine ⟨hl, ?_⟩
  have ky : X.env.kindOf y = some .local := hl
  have kb : X.env.blockKind = .function := by
    unfold Env.blockKind
    rw [G.sc, G.kind]; rfl
  have ha : (scope.names.any fun (n, k) => n == y && (k == .local || k == .cell)) = false := by simpa using h.2
  unfold swapsWith
  simp only [kb, ky, ha, Expr.pos, h.1.2]
  rfl
def notSetC : Expr → Bool
  | .SetComp .. => false
  | _ => true
theorem sw_eq (G : Good X RX W c tb N cx) {y : Str} {py : Pos} {l : Nat} (hc : isComp e = true) (hs : notSetC e = true) : swapsWith e (some (.Name y py)) l X.env = pure (swB cx y py e) := by
  have kb : X.env.blockKind = .function := by
    unfold Env.blockKind
    rw [G.sc, G.kind]; rfl
  cases e <;> first | (cases hc; done) | (cases hs; done) | skip
  · rename_i elt gs scope pos
    show pure (X.env.blockKind == .function && X.env.kindOf y == some .local && py.line == pos.line && !(scope.names.any fun (n, k) => n == y && (k == .local || k == .cell))) = _
    rw [kb, G.kindOf]
    rfl
  · rename_i kx vx gs scope pos
    show pure (X.env.blockKind == .function && X.env.kindOf y == some .local && py.line == pos.line && !(scope.names.any fun (n, k) => n == y && (k == .local || k == .cell))) = _
    rw [kb, G.kindOf]
    rfl
theorem sst_par (G : Good X RX W c tb N cx) {x y : Str} {px py pt p2 : Pos} {kt k2 : Nat} (hxy : x ≠ y) (hx : cx.kd x = some .local) (hy : cx.kd y = some .local) (hl : (px.line == py.line) = true) (hp : parB a b = true) :
    swappedStores [.Tuple [.Name x px, .Name y py] kt pt] (.Tuple [a, b] k2 p2) X.env = pure (some [x, y]) := by
  unfold parB at hp
  simp only [Bool.and_eq_true, Bool.not_eq_true'] at hp
  obtain ⟨⟨⟨h1, h2⟩, h3⟩, h4⟩ := hp
  have hb : X.env.blockKind = .function := by
    unfold Env.blockKind
    rw [G.sc, G.kind]; rfl
  have kx : X.env.kindOf x = some .local := (G.kindOf x).trans hx
  have ky : X.env.kindOf y = some .local := (G.kindOf y).trans hy
  have hl' : py.line = px.line := (beq_iff_eq.mp hl).symm
  have er : [x, y].eraseDups = [x, y] := by
    have : (y == x) = false := by simpa using fun z => hxy z.symm
    simp [List.eraseDups_cons, this]
  unfold swappedStores
  simp only [hb, kx, ky, h3, h4, List.length_cons, List.length_nil, List.head?_cons, Option.map_some, Option.getD_some, List.filterMap_cons, List.filterMap_nil, Expr.pos, hl', beq_self_eq_true, Bool.and_self, if_true, er]
  rw [if_neg (by decide), if_neg ?_]
  · rfl
  · intro z
    rw [List.any_eq_true] at z
    obtain ⟨e, he, z⟩ := z
    have hst : isStar e = false := by
      rcases List.mem_cons.mp he with rfl | he
      · exact h1
      · rw [List.mem_singleton.mp he]; exact h2
    cases e <;> first | exact Bool.noConfusion z | exact Bool.noConfusion hst
structure GS (X : Cx) (RX : RXT) (W : WX) (st : Stmt) (m : M Fl) : Prop where
  s : PS X st (tS X.K RX W m)
theorem retE_of {d : E} (h : notVar d = true) : retE c d = (do let r ← den c d; pure (.rt r)) := by cases d <;> first | rfl | cases h
theorem trAsg_ok (hp : PassesOwn (model X.prog X.w) X.A X.env X.xe) (G : Good X RX W c tb N cx) {n : Nat} {t : Expr} {d : S} (h : trAsg (trE tb N n cx) tb N cx e t = some d) : PS X (.Assign [t] e pos) (tS X.K RX W (exec c d)) := by
  have hf : ∀ {e : Expr} {d : E}, trE tb N n cx e = some d → GE X RX W e (sem c d) := fun z => trE_ok n G z
  have hu : X.A.units + 1 < cLine := by have := G.units; omega
  have hN : X.N.Nodup := by rw [G.hN]; exact G.nd
  have tup : ∀ {es : List Expr} {k : Nat} {q : Pos} {d : S}, (if isTup e = true then none else match trT N cx 8 (.Tuple es k q), trE tb N n cx e with
    | some t, some d => some (S.asg t d)
    | _, _ => none) = some d → PS X (.Assign [.Tuple es k q] e pos) (tS X.K RX W (exec c d)) := fun {es k q d} h => by
    split at h
    · cases h
    · rename_i ht
      split at h
      · rename_i t d' h1 h2
        cases h
        have gt := ((trT_ok G 8).1 h1).1
        cases t with
        | n i =>
          simp only [trT] at h1
          obtain ⟨_, _, z⟩ := Option.map_eq_some_iff.mp h1
          cases z
        | tup ts => exact ps_tup_ (hf h2).v gt sw_tup (sst_none (by simpa using ht))
      · cases h
  unfold trAsg at h
  split at h
  · rename_i x px
    split at h
    · cases h
    · split at h
      · rename_i i d' h1 h2
        split at h
        case isFalse => cases h
        rename_i hl
        obtain ⟨l1, l2⟩ := isLoc_ok G hl
        have hi : X.N[i]? = some x := by rw [G.hN]; exact ixOf_get h1
        split at h
        · cases h
        · rename_i hc
          cases h
          by_cases hcomp : isComp e = true
          · rw [hcomp, Bool.true_and] at hc
            have hal : tb.alc x e = false := by simpa using hc
            rw [if_neg (by rw [hal]; simp)]
            by_cases hsw : swB cx x px e = true
            case neg =>
              have hsw : swB cx x px e = false := by simpa using hsw
              have hset : notSetC e = true := by
                cases e <;> first | rfl | (cases n <;> simp [trE] at h2)
              exact ps_setG_ hN hi l1 l2 (hf h2).v (by rw [sw_eq G hcomp hset, hsw])
            cases e <;> first | (cases hsw; done) | skip
            · rename_i elt gs scope q
              cases n with
              | zero => simp [trE] at h2
              | succ n =>
                obtain ⟨tg, it, ifs, i', t, ts, x', rfl, rfl, k1, ok, hT, hg, ht, he, hs⟩ := lc_parts (fun G z => trE_ok n G z) G h2
                obtain ⟨s1, s2⟩ := sw_comp G (l := pos.line) hsw
                exact ps_setLc_ G.calm hN hi s1 s2 k1 ok hT hg ht he hs
            · rename_i kx vx gs scope q
              cases n with
              | zero => simp [trE] at h2
              | succ n =>
                obtain ⟨tg, it, i', t, x', y', rfl, rfl, k1, ok, hT, hg, ht, hk, he, hs⟩ := dc_parts (fun G z => trE_ok n G z) G h2
                obtain ⟨s1, s2⟩ := sw_compD G (l := pos.line) hsw
                exact (ps_setDc G.calm hN hi s1 s2 k1 ok hg ht hk he hs).imp fun D σ H h => dc_of hT (set_tail h)
          · have hcomp : isComp e = false := by simpa using hcomp
            split
            · exact ps_setG_ hN hi l1 l2 (pe_alloc_ (hf h2).v) (sw_plain hcomp)
            · exact ps_setG_ hN hi l1 l2 (hf h2).v (sw_plain hcomp)
      · cases h
  · rename_i x px y py k q
    split at h
    · rename_i aa bb k2 p2
      split at h
      · rename_i i j u v h1 h2 h3 h4
        split at h
        · rename_i hc
          cases h
          simp only [Bool.and_eq_true, beq_iff_eq, decide_eq_true_eq] at hc
          obtain ⟨⟨⟨⟨c1, c2⟩, c3⟩, c4⟩, c5⟩ := hc
          have hi : X.N[i]? = some x := by rw [G.hN]; exact ixOf_get h1
          have hj : X.N[j]? = some y := by rw [G.hN]; exact ixOf_get h2
          have hxy : x ≠ y := fun z => c3 (by subst z; rw [h1] at h2; exact Option.some.inj h2)
          have hst : isStar aa = false ∧ isStar bb = false := by
            unfold parB at c5
            simp only [Bool.and_eq_true, Bool.not_eq_true'] at c5
            exact ⟨c5.1.1.1, c5.1.1.2⟩
          refine ps_par_ (ms := semA c (.cons u (.cons v .nil))) G.calm hN hi hj c3 (by rw [G.lk]; exact c1) (by rw [G.lk]; exact c2) (fun s vs s' z => semA_len c _ s vs s' z)
            (paF_cons (hf h3).v (paF_cons (hf h4).v paF_nil (by rw [← star_eq]; exact hst.2)) (by rw [← star_eq]; exact hst.1)) (sst_par G hxy c1 c2 (beq_iff_eq.mpr c4) c5)
        · cases h
      · cases h
    · exact tup h
  · exact tup h
  · rename_i x xp i tp
    split at h
    · cases h
    · rename_i hc
      rw [Bool.or_eq_true, not_or] at hc
      split at h
      · rename_i k y d' h1 h2 h3
        cases h
        exact ps_putV_ hu (hf h3).v (trVar_ok G h1) (hf h2).b sw_sub fun v => by
          have := plainIx_of (e := i) (by simpa using hc.1)
          cases i <;> first | rfl | (simp [isSlice] at hc; done)
      · cases h
  · rename_i o i tp _
    split at h
    · cases h
    · rename_i hc
      rw [Bool.or_eq_true, not_or] at hc
      split at h
      · rename_i k y d' h1 h2 h3
        split at h
        · rename_i hv
          cases h
          have key := ps_put_ (eo := o) (tp := tp) (pos := pos) hu (hf h3).v (hf h1).b (hf h2).b (plainIx_of (by simpa using hc.1)) sw_sub fun v => by
            cases i <;> first | rfl | (simp [isSlice] at hc; done)
          cases k <;> first | exact key | cases hv
        · cases h
      · cases h
  · cases h
end
end VM

/-! VMTrS4: bodies. -/
namespace VM
open PySem PySem.Spec PyProof.Rows L2
section
variable {X : Cx} {RX : RXT} {W : WX} {c : Cfg} {tb : Tb} {N : List Str} {cx : Ctx} {e e' a b : Expr} {pos p tp : Pos}
theorem trSs_ok {f : Stmt → Option S} (hf : ∀ {s d}, f s = some d → PS X s (tS X.K RX W (exec c d))) : ∀ {ss : List Stmt} {ds : Ss}, trSs f ss = some ds → PSs X ss (tS X.K RX W (execs c ds))
  | [], ds, h => by cases h; exact pss_nil_
  | s :: ss, ds, h => by
    simp only [trSs] at h
    split at h
    · rename_i x xs h1 h2
      cases h
      exact pss_cons_ (hf h1) (trSs_ok hf h2)
    · cases h
/-- what the statements lean on further -/
structure GoodX (X : Cx) (RX : RXT) (tb : Tb) : Prop where
  stk : X.stack = X.env :: X.outer
  frm : X.env.frame = some X.env.locals
  exn : X.ex = []
  rx : RX = RXc X.K tb.kn
  cls : ∀ x n ns, (x, n, ns) ∈ tb.cls → ∀ pn xe, Raised (X.tr pn xe) x n ns
theorem clsOf_get {l : List (Str × Nat × List Str)} {x : Str} {n : Nat} {ns : List Str} (h : VM.clsOf l x n = some ns) : (x, n, ns) ∈ l := by
  unfold VM.clsOf at h
  split at h
  · rename_i p q
    cases h
    have h1 := List.find?_some q
    have h2 := List.mem_of_find?_eq_some q
    obtain ⟨e1, e2⟩ := of_decide_eq_true h1
    obtain ⟨a, b, c⟩ := p
    simp only at e1 e2
    rw [← e1, ← e2]; exact h2
  · cases h
theorem cst_tM {X : Cx} {RX : RXT} {W : WX} {k : Const} {j : Nat} {v : Vl} (h : cstOf k = some v) : PE X (.Constant k j p) (tM X.K RX W (pure (.v v))) := by
  cases k <;> first | (cases h; done) | skip
  · cases h; exact tV_of pe_non fun _ _ => .non
  · cases h; exact tV_of pe_bl fun _ _ => .bl _
  · cases h; exact tV_of pe_int fun _ _ => .int _
  · cases h; exact tV_of pe_str fun _ _ => .str _
theorem trH_ok (G : Good X RX W c tb N cx) {a : Addr} {pn : List (Addr × Obj)} {st : Stmt} {d : S} (h : trH N cx st = some d) : PS (X.suite a pn) st (tS X.K RX W (exec c d)) := by
  unfold trH at h
  split at h
  · rename_i x px k j q pos
    split at h
    · rename_i i v h1 h2
      split at h
      · rename_i hl
        cases h
        obtain ⟨l1, l2⟩ := isLoc_ok G hl
        exact ps_setG_ (X := X.suite a pn) (by show X.N.Nodup; rw [G.hN]; exact G.nd) (by show X.N[i]? = _; rw [G.hN]; exact ixOf_get h1) l1 l2 (cst_tM h2) (sw_plain rfl)
      · cases h
    · cases h
  · obtain ⟨v, h1, rfl⟩ := Option.map_eq_some_iff.mp h
    exact ps_ret_ (X := X.suite a pn) (cst_tM h1)
  · cases h; exact ps_pass_
  · cases h
theorem trHs_ok (G : Good X RX W c tb N cx) {a : Addr} {pn : List (Addr × Obj)} : ∀ {ss : List Stmt} {ds : Ss}, trSs (trH N cx) ss = some ds → PSs (X.suite a pn) ss (tS X.K RX W (execs c ds))
  | [], ds, h => by cases h; exact pss_nil_
  | s :: ss, ds, h => by
    simp only [trSs] at h
    split at h
    · rename_i x xs h1 h2
      cases h
      exact pss_cons_ (trH_ok G h1) (trHs_ok G h2)
    · cases h
theorem ps_nev_ {st : Stmt} : PS X st (tS X.K RX W bad) := ⟨fun pins s σ H D I ⟨g, t, R, h⟩ => h.elim⟩
theorem Good.tr (G : Good X RX W c tb N cx) {W' : WX} {pn : List (Addr × Obj)} {xe : Value → Shared → Prop} (tk : Takes (X.tr pn xe) W') : Good (X.tr pn xe) RX W' c tb N cx :=
  ⟨G.hN, G.nd, G.sc, G.kind, G.fn, G.calm, G.units, G.guards, G.bis, fun i x lo hi h => ⟨(G.fns i x lo hi h).1, fun n l1 l2 => ⟨((G.fns i x lo hi h).2 n l1 l2).ex⟩⟩, G.cst, tk, G.rx, G.ex, fun g n ks i h => ⟨(G.kwf g n ks i h).1, ⟨(G.kwf g n ks i h).2.ex⟩⟩⟩
theorem trS_ok : ∀ (n : Nat) {X : Cx} {W : WX} (hp : PassesOwn (model X.prog X.w) X.A X.env X.xe) (G : Good X RX W c tb N cx) (GX : GoodX X RX tb) {st : Stmt} {d : S}, trS tb N cx n st = some d → PS X st (tS X.K RX W (exec c d))
  | 0, _, _, _, _, _, _, _, h => by exact nomatch (show (none : Option S) = some _ from h)
  | n + 1, X, W, hp, G, GX, st, d, h => by
    have hf : ∀ {e : Expr} {d : E}, trE tb N n cx e = some d → GE X RX W e (sem c d) := fun z => trE_ok n G z
    have hs : ∀ {ss : List Stmt} {ds : Ss}, trSs (trS tb N cx n) ss = some ds → PSs X ss (tS X.K RX W (execs c ds)) := fun z => trSs_ok (fun z => trS_ok n hp G GX z) z
    cases st with
    | Assign ts e q =>
      match ts, h with
      | [t], h => exact trAsg_ok hp G (show trAsg (trE tb N n cx) tb N cx e t = some d from h)
      | [], h => cases h
      | _ :: _ :: _, h => cases h
    | If t sa sb q =>
      replace h : (match trE tb N n cx t, trSs (trS tb N cx n) sa, trSs (trS tb N cx n) sb with
        | some t, some a, some b => some (S.iff t a b)
        | _, _, _ => none) = some d := h
      split at h
      · rename_i t' a' b' h1 h2 h3
        cases h
        exact ps_if_ (hf h1).t (hs h2) (hs h3)
      · cases h
    | For tg it body orelse q =>
      match orelse, h with
      | _ :: _, h => cases h
      | [], h =>
        replace h : (match trI (trE tb N n cx) tb cx tg it, trT N cx n tg, trSs (trS tb N cx n) body with
          | some i, some t, some b => if isSet it then none else some (S.loop t i b)
          | _, _, _ => none) = some d := h
        split at h
        · rename_i i t b' h1 h2 h3
          split at h
          · cases h
          · rename_i hset
            cases h
            exact ps_for_ hp G.calm (trI_ok G hf true h1) ((trT_ok G n).1 h2).1 (hs h3) (notSet_fold (by simpa using hset))
        · cases h
    | While t body orelse q =>
      match orelse, h with
      | _ :: _, h => cases h
      | [], h =>
        replace h : (match trE tb N n cx t, trSs (trS tb N cx n) body with
          | some t, some b => some (S.whl t b)
          | _, _ => none) = some d := h
        split at h
        · rename_i t' b' h1 h2
          cases h
          exact ps_while_ hp (hf h1).t (hs h2)
        · cases h
    | Return e q =>
      cases e with
      | none => cases h; exact ps_retN_
      | some e =>
        have gen : (match trE tb N n cx e with
          | some d => if notVar d then some (S.ret d) else none
          | none => none) = some d → PS X (.Return (some e) q) (tS X.K RX W (exec c d)) := fun h => by
          split at h
          · rename_i d' h1
            split at h
            · rename_i hv
              cases h
              show PS X _ (tS X.K RX W (retE c d'))
              rw [retE_of hv]
              exact ps_ret_ (hf h1).v
            · cases h
          · cases h
        cases e with
        | Name x xp =>
          replace h : (match trVar N cx x with
            | some i => some (S.ret (.var i))
            | none => (trGlob tb cx x).map S.ret) = some d := h
          split at h
          · rename_i i hv
            cases h
            exact ps_retV_ (trVar_ok G hv)
          · obtain ⟨d', h1, rfl⟩ := Option.map_eq_some_iff.mp h
            obtain ⟨g1, g2⟩ := trGlob_ok (p := xp) G h1
            show PS X _ (tS X.K RX W (retE c d'))
            rw [retE_of g2]
            exact ps_ret_ g1.v
        | _ => exact gen h
    | Expr e q =>
      have gen : (if isComp e then none else (trE tb N n cx e).map S.expr) = some d → PS X (.Expr e q) (tS X.K RX W (exec c d)) := fun h => by
        split at h
        · cases h
        · rename_i hc
          obtain ⟨d', h1, rfl⟩ := Option.map_eq_some_iff.mp h
          exact ps_expr_ (hf h1).v (sw_plain (by simpa using hc))
      cases e with
      | Constant k j r =>
        cases k with
        | str x => cases h; exact ps_doc_
        | _ => exact gen h
      | Call g es kws cp =>
        cases g with
        | Attribute o x ap =>
          cases o with
          | Name y yp =>
            match es, kws, h with
            | [e], [], hh =>
              replace hh : (if x = "append" ∧ (ap.endLine == cp.line) = true ∧ isStar e = false then (match trVar N cx y, trE tb N n cx e with
                | some i, some d => some (S.app i d)
                | _, _ => none) else none) = some d := hh
              split at hh
              · rename_i hc
                obtain ⟨rfl, c2, c3⟩ := hc
                split at hh
                · rename_i i d' h1 h2
                  cases hh
                  exact ps_app_ (trVar_ok G h1) (hf h2).v (by rw [← star_eq]; exact c3) c2
                · cases hh
              · cases hh
            | [], kws, h => exact gen h
            | _ :: _ :: _, kws, h => exact gen h
            | [_], _ :: _, h => exact gen h
          | _ => exact gen h
        | _ => exact gen h
      | _ => exact gen h
    | Raise e cause q =>
      cases e with
      | none => cases cause <;> (cases h; exact ps_nev_)
      | some e =>
        cases cause with
        | some _ => cases h; exact ps_nev_
        | none =>
          replace h : some (trRaise (trE tb N n cx) tb cx e) = some d := h
          cases h
          unfold trRaise
          split
          · split
            · rename_i ns ds h1 h2
              split
              · rename_i hk
                have hm := clsOf_get h1
                obtain ⟨a1, a2, a3, a4⟩ := trL_ok hf h2
                have hkn : tb.kn.contains _ = true := List.contains_iff_mem.mpr (List.mem_map_of_mem (f := fun p : Str × Nat × List Str => p.1) hm)
                obtain rfl := GX.rx
                exact ps_raise_ (X := X) G.calm G.tk (GX.cls _ _ _ hm X.pn X.xe) a1 rfl a3 (G.gl (by simpa using hk)) hkn (fun s vs s' z => by rw [semA_len c _ s vs s' z, a4])
              · exact ps_nev_
            · exact ps_nev_
          · exact ps_nev_
    | Try body hds orelse fin q =>
      replace h : trTry (trSs (trS tb N cx n) body) tb N cx hds orelse fin = some d := h
      unfold trTry at h
      split at h
      · split at h
        · rename_i b cs hd h1 h2 h3
          split at h
          · rename_i hk
            rw [Bool.and_eq_true] at hk
            cases h
            obtain ⟨cc, v, _, _, m1, m2⟩ := G.ex.cat _ cs h2
            exact ps_try_ (X := X) (cs := fun k => cs.contains k) GX.stk GX.frm ⟨G.gl (by simpa using hk.1), by simpa using hk.2, m1⟩ G.tk
              (fun W' pn xe tk po => trSs_ok (fun z => trS_ok n (X := X.tr pn xe) po (G.tr tk) ⟨GX.stk, GX.frm, GX.exn, GX.rx, GX.cls⟩ z) h1) (fun a pn => trHs_ok G h3)
              (fun g y cls d H rx => by rw [GX.rx] at rx; rw [rx.2.1]; exact (m2 _ rx.1).1)
          · cases h
        · cases h
      · split at h
        · rename_i b cs i j h1 h2 h3 h4
          split at h
          · rename_i hk
            simp only [Bool.and_eq_true, beq_iff_eq, decide_eq_true_eq, Bool.not_eq_true'] at hk
            obtain ⟨⟨⟨⟨⟨⟨⟨k1, k2⟩, k3⟩, k4⟩, k5⟩, k6⟩, k7⟩, k8⟩ := hk
            cases h
            subst k5
            obtain ⟨cc, v, _, _, m1, m2⟩ := G.ex.cat _ cs h2
            have hx := GX.rx
            rw [hx]
            exact ps_trya_ (X := X) (cs := fun k => cs.contains k) GX.stk GX.frm GX.exn (by rw [G.hN]; exact G.nd) (by rw [G.hN]; exact ixOf_get h3) (by rw [G.hN]; exact ixOf_get h4) k6 ((G.kindOf _).trans k3) ((G.kindOf _).trans k4) k7 k8 ⟨G.gl k1, k2, m1⟩ G.tk
              (fun W' pn xe tk po => by rw [← hx]; exact trSs_ok (fun z => trS_ok n (X := X.tr pn xe) po (G.tr tk) ⟨GX.stk, GX.frm, GX.exn, GX.rx, GX.cls⟩ z) h1)
              (fun g y cls d H rx => by rw [rx.2.1]; exact (m2 _ rx.1).1)
          · cases h
        · cases h
      · cases h
    | Pass q => cases h; exact ps_pass_
    | Break q => cases h; exact ps_brk_
    | Continue q => cases h; exact ps_cont_
    | _ => cases h
theorem trB_ok {body : List Stmt} {sc : Scope} {ds : Ss} (hp : PassesOwn (model X.prog X.w) X.A X.env X.xe) (G : Good X RX W c tb N ⟨sc, fun _ => true⟩) (GX : GoodX X RX tb) (h : trB tb N sc body = some ds) : PSs X body (tS X.K RX W (execs c ds)) :=
  trSs_ok (fun z => trS_ok 40 hp G GX z) h
end
end VM

/-! VMTxt: the defs of a text do what the machine's functions do. -/
namespace VM
open PySem PySem.Spec PyProof.Rows L2
/-- where a def stands -/
structure FnI where
  x : Str
  qual : Str
  params : Arguments
  body : List Stmt
  scope : Scope
  ps : List Str
  N : List Str
  hi : Nat
structure FnD (K : Fg) (mg : Str → Option Value) (tb : Tb) (fn : Fn) (d : FnI) (f : Addr) (fd : FuncData) (dvs : List V) (kws : List (Str × V)) : Prop where
  F : FunD K d.x d.qual d.params d.body d.scope dvs kws f fd
  glo : mg d.x = some (.ref f)
  S : FnScope d.N d.ps d.scope
  np : d.ps.length = fn.np
  ns : d.N.length = fn.ns
  tr : trB tb d.N d.scope d.body = some fn.body
  dn : fn.dfl.length ≤ fn.np
  hiL : d.hi ≤ fn.np
  bd : ∀ n, fn.np - fn.dfl.length ≤ n → n ≤ d.hi → ∃ vs ds, Vals vs ds ∧ Binds K fd d.ps ds ∧ ∀ F ρ, RVs K F ρ (fn.dfl.drop (n + fn.dfl.length - fn.np)) vs
section
variable {P : Program} {w : World} {K : Fg} {mg : Str → Option Value} {base : PySem.Heap} {tb : Tb} {RX : RXT}
theorem fn_G {CC : CXT} {x q : Str} {pars : Arguments} {bdy : List Stmt} {sco : Scope} {dvs : List V} {kws : List (Str × V)} {f : Addr} {fd : FuncData} {N ps : List Str} {k : Nat} {sp : Sp} (F : FunD K x q pars bdy sco dvs kws f fd) (S : FnScope N ps sco)
    (len : ∀ vs H Q E, sp vs H Q E → vs.length = ps.length)
    (run : ∀ (cv : Value) (A : Around) (out : List Env) (s : Shared) (H : Hp) (vs : List V) (Q : VK) (E : XK), Room k (A.deeper (envOfC q sco s.heap.objs.size f cv)) → A.guards = some [] → sp vs H Q E →
      ∃ t, PSs (cxOf CC P w K mg base N q sco f cv A out s H E) bdy t ∧ t { nx := fun _ H' => Q .non H', rt := Q } (L2.start N vs) H) : FnG P w K mg base CC (k + 1) f fd ps sp := by
  obtain ⟨o1, o2, o3, o4, o5, o6, o7, cv, o8, o9, rfl, look, code, _, _⟩ := F.ex
  refine ⟨len, fun A out s H args us vs Q E room gd e0 bind rel want => ?_⟩
  have inK : K.In s.heap := e0.mod.kin.keeps fun b o e => (e0.bs b o e).1
  have nolim : s.heap.NoLimit := e0.mod.nolimit.keeps fun b o e => (e0.bs b o e).1
  have places : ∀ y ∈ ps.zip us, sco.names.lookup y.1 = some .local ∨ (sco.names.lookup y.1 = some .cell ∧ ((cellsFrom (s.heap.objs.size + 1) sco.names []).lookup y.1).isSome = true) := fun y hy => by
    rcases S.par y.1 (List.of_mem_zip (a := y.1) (b := y.2) hy).1 with z | z
    · exact .inl z
    · exact .inr ⟨z, PySem.W.cellsFrom_some _ _ _ (.inl z)⟩
  refine codeAny_call_function room.depth (inK _ _ look) rfl S.co S.gen rfl (PySem.W.codeRec_of inK code) (bind _ _ _ _ ?_)
  refine wpAny_newFunctionEnv_cells S.kind places fun env henv s1 entry => ?_
  subst henv
  refine ⟨nolim.keeps entry.toInCall.keep, codeAny_func ?_⟩
  obtain ⟨t, walk, ok⟩ := run cv A out s H vs Q E (room.deeper _) gd want
  have I := inv_start (CX := CC) (E := E) S room.hd e0 (len _ _ _ _ want) rel entry
  refine wpAny_mono (walk.run [] s1 (L2.start N vs) H _ I ok) (fun fl s' z => ?_) fun _ _ z => z
  cases fl with
  | ret u => obtain ⟨v, σ', H', J, rv, z⟩ := z; exact ⟨v, H', J.os, J.bare, J.base, J.hok, rv, z⟩
  | next => obtain ⟨σ', H', J, z⟩ := z; exact ⟨V.non, H', J.os, J.bare, J.base, J.hok, rfl, z⟩
  | brk => obtain ⟨_, _, _, z⟩ := z; exact z.elim
  | cont => obtain ⟨_, _, _, z⟩ := z; exact z.elim
theorem RVs.len_ {F : Hp} {ρ : Nat → Option Addr} {vs : List Vl} {xs : List V} (h : RVs K F ρ vs xs) : vs.length = xs.length := h.length
/-- a def's entry -/
theorem rel_start {g : Gh} {h : VM.Heap} {H : Hp} {as : List Vl} {vs : List V} {N : List Str} {m : Nat} (R : HRel K g h H) (r : RVs K g.F g.ρ as vs) (hm : m = N.length - as.length) (hl : as.length ≤ N.length) :
    Rel K { g with B := g.P, ow := fun _ => none } ⟨(as.map fun v => some (.v v)) ++ List.replicate m none, h⟩ (L2.start N vs) H := by
  have el := r.length
  refine ⟨⟨R.fp, Same.refl _, R.ph, R.cin, R.inj, fun a c e => ?_, R.dom⟩, ?_, fun i rv x e1 e2 => ?_, fun i j p e _ => (by cases e), fun i p e => (by cases e)⟩
  · obtain ⟨p, e1, e2⟩ := R.cel a c e
    refine ⟨p, e1, ?_⟩
    cases c with
    | lst us => exact e2
    | dct us => exact e2
  · unfold L2.start
    simp only [List.length_append, List.length_map, List.length_replicate]
    omega
  · unfold L2.start at e2
    dsimp only at e1
    by_cases hi : i < as.length
    · rw [List.getElem?_append_left (by simpa using hi), List.getElem?_map] at e1
      rw [List.getElem?_append_left (by rw [List.length_map]; omega), List.getElem?_map] at e2
      cases q : as[i]? with
      | none => rw [q] at e1; cases e1
      | some u =>
        obtain ⟨y, q2, rv2⟩ := r.get q
        rw [q] at e1; rw [q2] at e2
        cases e1; cases e2
        exact ⟨rfl, y, rfl, rv2⟩
    · rw [List.getElem?_append_right (by rw [List.length_map]; omega), List.getElem?_replicate] at e1
      split at e1
      · cases e1; rfl
      · cases e1
theorem fin_ext {g g' : Gh} {s : St} {σ : L2.St} {H : Hp} (e : ExtS { g with B := g.P, ow := fun _ => none } g') (R : Rel K g' s σ H) : CExt g g' :=
  ⟨e.F, fun p o h => R.hr.bp _ _ (by rw [e.B]; exact h), e.ρ, fun p h1 h2 => e.fb p h1 h2⟩
/-- a class of exceptions that stands -/
inductive ClsD (K : Fg) (mg : Str → Option Value) (x : Str) : Nat → List Str → Prop where
  | own (gC : mg x = some (.ref (He.ga K x))) (hd : (x == ("__debug__" : Str)) = false) (q : PySem.W.excIn K (He.ga K x) He.veBase "ValueError.__new__" = true) (kC : PySem.W.keepIn K (.ref (He.ga K x)) = true)
      (sb : PySem.W.subIn K (.ref (He.ga K x)) (.type "BaseException") = some true) (ty : PySem.W.typeIn K (.ref (He.ga K x)) = some (.type "type")) : ClsD K mg x 1 []
  | ini {ns : List Str} {n : Nat} {B xn q : Str} {CB fI : Addr} {pars : Arguments} {bdy : List Stmt} {sco : Scope} {fd : FuncData} {dvs : List V} {kws : List (Str × V)} (gC : mg x = some (.ref (He.ga K x))) (hd : (x == ("__debug__" : Str)) = false)
      (I : IniC K mg (He.ga K x) B CB ns) (iC : PySem.W.findIn K (.ref (He.ga K x)) "__init__" = some (some (.ref fI))) (tI : PySem.W.typeIn K (.ref fI) = some (.type "function"))
      (F : FunD K xn q pars bdy sco dvs kws fI fd) (S : FnScope (("self" : Str) :: ns) (("self" : Str) :: ns) sco) (hB : sco.names.lookup B = some .globalImplicit) (ht : iniT B ns bdy = true)
      (hv : ∀ y ∈ (("self" : Str) :: ns), sco.names.lookup y = some .local ∧ (y == ("__debug__" : Str)) = false ∧ (y == ("__classdict__" : Str)) = false) (hb : Binds K fd (("self" : Str) :: ns) [])
      (hn : ns.length = n) (h0 : ns ≠ []) (hl : n ≤ 1000) : ClsD K mg x n ns
theorem ClsD.raised {X : Cx} {x : Str} {n : Nat} {ns : List Str} (h : ClsD X.K X.mg x n ns) (hr : Room 2 X.A) : Raised X x n ns := by
  cases h with
  | own gC hd q kC sb ty => exact raised_own F.excBase_ValueError q gC kC (raises_own sb ty) hd
  | ini gC hd I iC tI F S hB ht hv hb hn h0 hl => exact raised_ini (k := 1) I.T iC tI (ini_ok I F S hB ht hv) hr hb gC hd hn h0 hl
/-- the text -/
structure Txt (K : Fg) (mg : Str → Option Value) (tb : Tb) (fs : List Fn) : Prop where
  fns : ∀ (i : Nat) (x : Str) (lo hi : Nat), tb.fns[i]? = some (x, lo, hi) → (x == ("__debug__" : Str)) = false ∧ ∃ fn d f fd dvs kws, fs[i]? = some fn ∧ FnD K mg tb fn d f fd dvs kws ∧ d.x = x ∧ lo = fn.np - fn.dfl.length ∧ hi = d.hi
  bis : ∀ x, tb.bis.contains x = true → mg x = none
  cst : ∀ x v, tb.cst.lookup x = some v → ∃ V' u, mg x = some u ∧ RelV V' u ∧ ∀ F ρ, RV K F ρ v V'
  ex : ExG K mg tb
  cls : ∀ x n ns, (x, n, ns) ∈ tb.cls → ClsD K mg x n ns
  kwf : ∀ (g : Str) (n : Nat) (ks : List Str) (i : Nat), (g, n, ks, i) ∈ tb.kwf → (g == ("__debug__" : Str)) = false ∧ ∃ fn d f fd dvs kws, fs[i]? = some fn ∧ FnD K mg tb fn d f fd dvs kws ∧ d.x = g ∧ KBn K fd d.ps n ks (fun us ws => us ++ ws) (fun vs zs => vs ++ zs) ∧ n + ks.length = fn.np
theorem rxc_move {K : Fg} {kn : List Str} (g g' : Gh) (x : Ex) (c : Value) (d : Option Addr) (H : Hp) (e1 : g'.F = g.F) (e2 : g'.P = g.P) (e3 : g'.ρ = g.ρ) (h : RXc K kn g x c d H) : RXc K kn g' x c d H := by
  obtain ⟨h1, h2, h3⟩ := h
  refine ⟨h1, h2, ?_⟩
  rcases h3 with h | ⟨dd, xs, q1, q2, q3, q4, q5⟩
  · exact .inl h
  · exact .inr ⟨dd, xs, q1, q2, by rw [e2]; exact q3, by rw [e3]; exact q4, by rw [e1, e3]; exact q5⟩
theorem run_dfl {fs : List Fn} {fuel : Nat} {glob : Nat → Option Vl} {k i n : Nat} {fn : Fn} (hi : fs[i]? = some fn) (h1 : fn.np - fn.dfl.length ≤ n) (h2 : n ≤ fn.np) (hd : fn.dfl.length ≤ fn.np) (as : List Vl) (h : VM.Heap) (hl : as.length = n) :
    VM.run fs fuel glob k i as h = VM.run fs fuel glob k i (as ++ fn.dfl.drop (n + fn.dfl.length - fn.np)) h := by
  cases k with
  | zero => rfl
  | succ k =>
    have e0 : ∀ as, VM.run fs fuel glob (k + 1) i as h = runFn ⟨VM.run fs fuel glob k, fuel, glob⟩ fn as h := fun as => by
      show (match fs[i]? with
        | some fn => runFn ⟨VM.run fs fuel glob k, fuel, glob⟩ fn as h
        | none => .bad) = _
      rw [hi]
    rw [e0, e0]
    have e : (as ++ fn.dfl.drop (n + fn.dfl.length - fn.np)).length = fn.np := by
      rw [List.length_append, List.length_drop]; omega
    unfold runFn
    rw [if_pos (by omega), if_pos (by omega), e, hl, show fn.np + fn.dfl.length - fn.np = fn.dfl.length by omega, List.drop_length, List.append_nil]
theorem run_ok {fs : List Fn} {fuel : Nat} {glob : Nat → Option Vl} (T : Txt K mg tb fs) : ∀ (k i : Nat) (fn : Fn) (d : FnI) (f : Addr) (fd : FuncData) (dvs : List V) (kws : List (Str × V)), fs[i]? = some fn → FnD K mg tb fn d f fd dvs kws →
    FnG P w K mg base (L2.CX P w) (k + 3) f fd d.ps (spF K (RXc K tb.kn) (VM.run fs fuel glob k i) fn.np)
  | 0, i, fn, d, f, fd, dvs, kws, hi, D => by
    refine ⟨fun vs H Q E h => ?_, fun A out s H args us vs Q E _ _ _ _ _ h => ?_⟩
    · obtain ⟨g, h, as, e, _, r, _⟩ := h
      rw [← r.length, e, D.np]
    · obtain ⟨g, h, as, e, _, r, z⟩ := h
      exact z.elim
  | k + 1, i, fn, d, f, fd, dvs, kws, hi, D => by
    refine fn_G D.F D.S (fun vs H Q E h => ?_) fun cv A out s H vs Q E room gd h => ?_
    · obtain ⟨g, h, as, e, _, r, _⟩ := h
      rw [← r.length, e, D.np]
    · refine ⟨tS K (RXc K tb.kn) (fun cls d _ H => E cls d H) (execs ⟨VM.run fs fuel glob k, fuel, glob⟩ fn.body), ?_, ?_⟩
      · refine trB_ok (X := cxOf (L2.CX P w) P w K mg base d.N d.qual d.scope f cv A out s H E) (c := ⟨VM.run fs fuel glob k, fuel, glob⟩) (tb := tb) (N := d.N) (sc := d.scope) (W := fun cls d _ H => E cls d H) (passes_of rfl) ?_ ⟨rfl, rfl, rfl, rfl, fun x n ns hm pn xe => (T.cls x n ns hm).raised (X := Cx.tr (cxOf (L2.CX P w) P w K mg base d.N d.qual d.scope f cv A out s H E) pn xe) (room.mono (by omega))⟩ D.tr
        refine ⟨rfl, D.S.nd, rfl, D.S.kind, rfl, rfl, ?_, gd, T.bis, fun j y lo hi' hj => ?_, T.cst, takes_of (X := cxOf (L2.CX P w) P w K mg base d.N d.qual d.scope f cv A out s H E) rfl rfl rfl rfl, rxc_move, T.ex, fun y n ks j hj => ?_⟩
        · have := room.un
          show (A.deeper (envOfC d.qual d.scope s.heap.objs.size f cv)).units + 80 < cLine
          omega
        · obtain ⟨a1, fn2, d2, f2, fd2, dvs2, kws2, b1, b2, b3, b4, b5⟩ := T.fns j y lo hi' hj
          refine ⟨a1, fun n n1 n2 => ?_⟩
          subst b3 b4 b5
          obtain ⟨vs2, ds2, c1, c2, c3⟩ := b2.bd n n1 n2
          refine ⟨⟨k + 3, f2, fd2, d2.ps, fn2.np, vs2, ds2, fn2.dfl.drop (n + fn2.dfl.length - fn2.np), run_ok T k j fn2 d2 f2 fd2 dvs2 kws2 b1 b2, room, b2.glo, b2.F.kp, c2, c1, c3, ?_, fun as h e => run_dfl b1 n1 (Nat.le_trans n2 b2.hiL) b2.dn as h e⟩⟩
          rw [List.length_drop]
          have := b2.dn
          have := b2.hiL
          omega
        · obtain ⟨a1, fn2, d2, f2, fd2, dvs2, kws2, b1, b2, b3, b4, b5⟩ := T.kwf y n ks j hj
          subst b3
          exact ⟨a1, ⟨k + 3, f2, fd2, d2.ps, fn2.np, run_ok T k j fn2 d2 f2 fd2 dvs2 kws2 b1 b2, room, b2.glo, b2.F.kp, b4, b5⟩⟩
      · obtain ⟨g, h, as, e, R, r, z⟩ := h
        have hl : as.length ≤ d.N.length := by
          have := congrArg List.length D.S.pre
          rw [List.length_take] at this
          have := D.np
          omega
        refine ⟨_, _, rel_start (m := fn.ns - fn.np) R r (by rw [← D.ns, e]) hl, ?_⟩
        have z : SimF (match fs[i]? with
          | some fn => runFn ⟨VM.run fs fuel glob k, fuel, glob⟩ fn as h
          | none => .bad) _ _ := z
        rw [hi] at z
        dsimp only at z
        unfold runFn at z
        rw [if_pos (by omega), e, show fn.np + fn.dfl.length - fn.np = fn.dfl.length by omega, List.drop_length, List.append_nil] at z
        unfold Sim
        cases q : execs ⟨VM.run fs fuel glob k, fuel, glob⟩ fn.body ⟨(as.map fun v => some (.v v)) ++ List.replicate (fn.ns - fn.np) none, h⟩ with
        | bad => rw [q] at z; exact z.elim
        | exc x s' =>
          rw [q] at z
          intro g' σ' H' cls d e1 R1 rx
          exact z g' H' cls d (fin_ext e1 R1) R1.hr rx
        | ok fl s' =>
          rw [q] at z
          intro g' σ' H' e1 R1
          cases fl with
          | nx => exact z g' H' .non (fin_ext e1 R1) R1.hr .non
          | rt rr => exact fun x rx => z g' H' x (fin_ext e1 R1) R1.hr rx
          | bk => exact z.elim
          | ct => exact z.elim
end
end VM

/-! VMEnd: from the machine's answer to the law. -/
namespace VM
open PySem PySem.Spec PyProof.Rows L2
theorem zero_rel {K : Fg} {H : Hp} : HRel K ⟨H, H, H, fun _ => none, fun _ => none⟩ [] H :=
  ⟨Same.refl _, Same.refl _, Same.refl _, fun a p e => (by cases e), fun a b p e _ => (by cases e), fun a c e => (by simp at e), fun a p e => (by cases e)⟩
theorem ints_rel {K : Fg} {F : Hp} {ρ : Nat → Option Addr} : ∀ ns : List Int, RVs K F ρ (ns.map Vl.int) (ns.map V.int)
  | [] => .nil
  | n :: ns => .cons (.int n) (ints_rel ns)
theorem sp_true {K : Fg} {RX : RXT} {f : List Vl → VM.Heap → RF} {H : Hp} {a : Addr} {ns : List Int} {h' : VM.Heap} (hs : SqL K H a (ns.map V.int)) (e : f [.lst (ns.map Vl.int)] [] = .ret (.v (.bl true)) h') :
    spF K RX f 1 [.ref a] H (fun v _ => v = .bl true) fun _ _ _ => False := by
  refine ⟨_, [], [.lst (ns.map Vl.int)], rfl, zero_rel, .cons (.lst hs (ints_rel ns)) .nil, ?_⟩
  rw [e]
  intro g' H' x _ _ rr
  cases (show RV K g'.F g'.ρ (.bl true) x from rr)
  rfl
/-- the call of the law's def from behind the top -/
theorem call_law {P : Program} {w : World} {K : Fg} {mg mb : Str → Option Value} {k : Nat} {fa a : Addr} {fd : FuncData} {x : Str} {RX : RXT} {f : List Vl → VM.Heap → RF} {s : Shared} {vs : List Value} {ns : List Int} {h' : VM.Heap}
    (inK : K.In s.heap) (glob : s.heap.Ns mainGlobals mg) (blt : s.heap.Ns builtinsNs mb) (bltv : ∀ x : Str, x ≠ "__name__" → mb x = bootBuiltins x) (lim : s.heap.NoLimit) (gens : s.gens = #[])
    (scr : s.heap.get? a = some { cls := .type "list", data := .seq vs.toArray }) (are : IntsAre vs ns) (short : ns.length ≤ sizeLine) (room : Room k callerA)
    (fn : ∀ base : PySem.Heap, K.In base → base.Ns mainGlobals mg → FnG P w K mg base (L2.CX P w) k fa fd [x] (spF K RX f 1)) (bind : ∀ (s : Shared) (u : Value), BindsTo s fd ⟨[u], []⟩ [(x, u)])
    (yes : f [.lst (ns.map Vl.int)] [] = .ret (.v (.bl true)) h') :
    codeAny (model P w) callerA (.call (.ref fa) ⟨[.ref a], []⟩) (fun r t => r = .ok (.ret (.bool true)) ∧ OldK s.heap t.heap ∧ t.os = s.os ∧ AllBare t.gens) s := by
  have vals := vals_ints are
  have lens := are.length
  have main : ∀ H : Hp, (∀ b, H b = none ∨ ∃ o xs, H b = some (.frz o (.lst xs))) → SqL K H a (ns.map V.int) → HOk P w H s.heap → (∀ b, H b ≠ none → b = a) → (H a ≠ none → K.lookup a = none) →
      codeAny (model P w) callerA (.call (.ref fa) ⟨[.ref a], []⟩) (fun r t => r = .ok (.ret (.bool true)) ∧ OldK s.heap t.heap ∧ t.os = s.os ∧ AllBare t.gens) s := by
    intro H only seq hok at_ off
    have dict_free : ∀ {b : Addr} {o : Obj} {es : Array DictEntry} {ep : Nat}, s.heap.get? b = some o → o.data = .dict es ep → H b = none := fun {b o es ep} e d => by
      cases q : H b with
      | none => rfl
      | some u =>
        have z := at_ b (by rw [q]; simp)
        subst z
        rw [scr] at e; cases e
        have d : Data.seq vs.toArray _ = Data.dict es ep := d
        cases d
    have lift : ∀ {b : Addr} {o : Obj}, s.heap.get? b = some o → H b = none → (hidT s.heap H).get? b = some o := fun e n => hidT_get e n
    have nsH : ∀ {b : Addr} {m : Str → Option Value}, s.heap.Ns b m → (hidT s.heap H).Ns b m := fun {b m} ⟨o, es, ep, e, d, r⟩ => ⟨o, es, ep, lift e (dict_free e d), d, r⟩
    have inH : K.In (hidT s.heap H) := fun b o e => lift (inK b o e) (by
      cases q : H b with
      | none => rfl
      | some u =>
        have z := at_ b (by rw [q]; simp)
        subst z
        rw [off (by rw [q]; simp)] at e; cases e)
    have mod : Mod K mg (hidT s.heap H) := ⟨inH, nsH glob, ⟨mb, nsH blt, bltv⟩, let ⟨mc, l1, l2⟩ := lim; ⟨mc, nsH l1, l2⟩⟩
    have e0 : Env0 P w K mg (hidT s.heap H) callerA [] s H := ⟨rfl, mod, fun b o e => of_hidT e, Nat.le_of_eq (hidT_size _ _), trivial, fun b hb => (by cases hb), hok, .of_eq gens⟩
    refine codeAny_mono ((fn _ inH (nsH glob)).run callerA [] s H ⟨[.ref a], []⟩ [.ref a] [.ref a] _ _ room rfl e0 (bind s (.ref a)) (.cons rfl .nil) (sp_true (RX := RX) seq yes)) fun r t z => ?_
    cases r with
    | error e => obtain ⟨_, _, _, _, _, _, _, _, _, _, _, _, z⟩ := z; exact z.elim
    | ok fl =>
      cases fl with
      | ret u =>
        obtain ⟨v, H', os, bare, un, hok', rel, z⟩ := z
        have z : v = .bl true := z
        subst z
        have rel : u = Value.bool true := rel
        subst rel
        refine ⟨rfl, OldK.of_keep fun b o e => ?_, os, bare⟩
        rcases only b with q | ⟨ob, xs, q⟩
        · exact un.keep b o e q (fun hb => (by cases hb)) (fun hb => (by cases hb))
        · have z2 := un.frzs b ob _ q
          obtain ⟨e1, _⟩ := hok b _ q
          obtain ⟨e2, _⟩ := hok' b _ z2
          rw [e] at e1; cases e1
          exact e2
      | next => exact False.elim z
      | brk => exact False.elim z
      | cont => exact False.elim z
  cases known : K.lookup a with
  | some o =>
    have e := inK a o known
    rw [scr] at e
    cases e
    exact main (fun _ => none) (fun _ => .inl rfl) (.inr ⟨_, vs.toArray, _, known, rfl, rfl, rfl, by rw [List.size_toArray, lens]; exact short, by simpa using vals⟩) (fun b u z => by cases z) (fun b z => absurd rfl z) fun z => absurd rfl z
  | none =>
    let H : Hp := fun b => if b = a then some (.frz { cls := .type "list", data := .seq vs.toArray } (.lst (ns.map V.int))) else none
    have yesA : H a = some (.frz { cls := .type "list", data := .seq vs.toArray } (.lst (ns.map V.int))) := if_pos rfl
    have noA : ∀ {b}, b ≠ a → H b = none := fun z => if_neg z
    refine main H (fun b => ?_) (.inl (.inr ⟨_, yesA⟩)) (fun b u z => ?_) (fun b z => ?_) fun _ => known
    · by_cases q : b = a
      · rw [q]; exact .inr ⟨_, _, yesA⟩
      · exact .inl (noA q)
    · by_cases q : b = a
      · subst q
        rw [yesA] at z; cases z
        exact ⟨scr, by rw [List.length_map]; exact short, vs, _, vals, scr⟩
      · rw [noA q] at z; cases z
    · by_cases q : b = a
      · exact q
      · exact absurd (noA q) z
/-- the end of a law -/
theorem walk_G {l : PySem.W.OpenLaw} {n k : Nat} {q : Program} {loose : List Str} {XP : (Str → Option Value) → PySem.Heap → Prop} {YP : World → PySem.Heap → Prop} {d : DefRec} {x : Str} {RX : Fg → RXT} {f : List Vl → VM.Heap → RF}
    (hn : l.most = some n) (hn2 : n ≤ sizeLine) (hdf : d.params.defaults = []) (room : Room k callerA)
    (F : ∀ (w : World) (mg : Str → Option Value) (fa : Addr) (h : PySem.Heap), YP w h → h.Ns mainGlobals mg → mg d.name = some (.ref fa) →
      ∃ (K : Fg) (fd : FuncData), K.In h ∧ (∀ (s : Shared) (u : Value), BindsTo s fd ⟨[u], []⟩ [(x, u)]) ∧ ∀ base : PySem.Heap, K.In base → base.Ns mainGlobals mg → FnG l.prog w K mg base (L2.CX l.prog w) k fa fd [x] (spF K (RX K) f 1))
    (law : ∀ ns : List Int, ns.length ≤ n → (∀ k ∈ ns, Builtin.Int.intBits k ≤ 1048576) → ∃ h', f [.lst (ns.map Vl.int)] [] = .ret (.v (.bl true)) h') :
    PySem.W.WalkO q loose XP YP l.row.toRowW d [] (fun f vs => PySem.call f vs) := by
  refine Att.attach_callB hn hdf fun w s₀ s mg mb fa o pm cd doc a vs ns G Y ho hd hcd hmg scr are len bits gens => ?_
  obtain ⟨K, fd, inK, bind, fn⟩ := F w mg fa _ Y G.T.g hmg
  obtain ⟨h', yes⟩ := law ns len bits
  exact call_law inK G.T.g G.T.b G.T.builtins G.T.nolimit gens scr are (Nat.le_trans len hn2) room fn bind yes
end VM

/-! VMHead: facts of the head about classes of exceptions. -/
namespace VM
open PySem PySem.W PySem.Spec PyProof.Rows L2
def eqb (a b : Option Bool) : Bool := decide (a = b)
/-- facts -/
inductive Fx where
  /-- x's __init__ keeps ns, behind B's -/
  | ini (x B : Str) (ns : List Str)
  /-- x's instances are read, asked of their class -/
  | xk (x : Str)
  /-- does c, an own class, a built-in one, take x? -/
  | exo (x c : Str) (b : Bool)
  | exb (x : Str) (c : String) (b : Bool)
  /-- the keyword default x of the def at p is () -/
  | etup (p : Str × Option Str) (x : Str)
/-- where a keyword default lies -/
def kwAt (p : Str × Option Str) (x : Str) (K : Fg) : Addr := match K.lookup (He.fAd K p) with
  | some ⟨_, _, .func fd, _⟩ => (match fd.kwdefaults with
    | .ref D => (match nsIn K D x with
      | some (some (.ref a)) => a
      | _ => 0)
    | _ => 0)
  | _ => 0
def etupB (K : Fg) (a : Addr) : Bool := match K.lookup a with
  | some ⟨.type c, _, .seq its _, _⟩ => decide (c = "tuple") && decide (its = #[])
  | _ => false
def oexB (K : Fg) (C : Addr) : Bool := match K.lookup C with
  | some ⟨.type c, _, .cls cd, sl⟩ => (match cd.mro, sl.toList with
    | .ref C' :: bm, [_, _, _, _, some (.builtin n), _] => decide (c = "type") && (decide (C' = C) && (decide (n = "ValueError.__new__") && (!cd.hasDel && (cd.hasDict && PySem.HandSPX.refsVE bm))))
    | _, _ => false)
  | _ => false
def iniB (K : Fg) (x B : Str) (ns : List Str) : Bool :=
  oexB K (He.ga K x) && (He.eqO (findIn K (.ref (He.ga K x)) "__setattr__") (some (some (.builtin "object.__setattr__"))) && (decide (subIn K (.ref (He.ga K x)) (.type "BaseException") = some true) && (decide (typeIn K (.ref (He.ga K x)) = some (.type "type")) && (keepIn K (.ref (He.ga K x)) &&
  (He.eqO (nsIn K mainGlobals x) (some (some (.ref (He.ga K x)))) && (He.eqO (nsIn K mainGlobals B) (some (some (.ref (He.ga K B)))) && (readsIn K (He.ga K B) (.type "type") && (He.eqO (specialIn K (.ref (He.ga K B)) "__getattribute__") (some (some (.builtin "type.__getattribute__"))) &&
  ((match findCls K (.ref (He.ga K B)) (.type "type") "__init__" with
    | some (.val (.builtin s)) => decide (s = "ValueError.__init__")
    | _ => false) && (ns.all (fun f => He.eqO (findIn K (.ref (He.ga K x)) f) (some none)) &&
  (He.eqO (findIn K (.ref (He.ga K x)) "__init__") (some (some (.ref (He.ma K (He.ga K x) "__init__")))) && decide (typeIn K (.ref (He.ma K (He.ga K x) "__init__")) = some (.type "function")))))))))))))
def xkB (K : Fg) (D : Addr) : Bool :=
  He.eqO (findIn K (.ref D) "__getattribute__") (some (some (.builtin "BaseException.__getattribute__"))) && (He.eqO (findIn K (.ref D) "__getattr__") (some none) && (decide (subIn K (.ref D) (.type "BaseException") = some true) && (hasDictIn K D &&
  (He.eqO (findIn K (.ref D) "__class__") (some (some (.builtin "object.__class__"))) && (He.eqO (specialIn K (.builtin "object.__class__") "__get__") (some (some (.builtin "getset_descriptor.__get__"))) && (decide (takesIn K (.builtin "object.__class__") = some true) && decide (mroIn K D (.type "object") = some true)))))))
def Fx.ok (K : Fg) : Fx → Bool
  | .etup p x => etupB K (kwAt p x K)
  | .ini x B ns => iniB K x B ns
  | .xk x => xkB K (He.ga K x)
  | .exo x c b => eqb (exmOne K (.ref (He.ga K x)) (.ref (He.ga K c))) (some b) && eqb (kitOne K (.ref (He.ga K x)) (.ref (He.ga K c))) (some b)
  | .exb x c b => eqb (exmOne K (.ref (He.ga K x)) (.type c)) (some b) && eqb (kitOne K (.ref (He.ga K x)) (.type c)) (some b)
section
variable {K : Fg} {x B : Str} {ns : List Str}
theorem oexB_ok {C : Addr} (h : oexB K C = true) : ∃ nm q N bs bm sn sub ab col dd k0 k1 k2 k3 k5, K.lookup C = some (excClassObj nm q C N bs bm true sn sub ab col dd k0 k1 k2 k3 k5 "ValueError.__new__") ∧ PySem.HandSPX.refsVE bm = true := by
  unfold oexB at h
  split at h
  · rename_i c dd cd sl ho
    split at h
    · rename_i C' bm k0 k1 k2 k3 n k5 hm hs
      simp only [Bool.and_eq_true, decide_eq_true_eq, Bool.not_eq_true'] at h
      obtain ⟨rfl, rfl, rfl, hdel, hdict, hr⟩ := h
      obtain ⟨nm, bs, mro, ns, qn, hd, sn, sub, ab, col, del⟩ := cd
      dsimp only at hm hdel hdict
      subst hm hdel hdict
      have hsl : sl = #[k0, k1, k2, k3, some (.builtin "ValueError.__new__"), k5] := by
        obtain ⟨l⟩ := sl
        simp only at hs
        rw [hs]
      subst hsl
      exact ⟨nm, qn, ns, bs, bm, sn, sub, ab, col, dd, k0, k1, k2, k3, k5, ho, hr⟩
    · cases h
  · cases h
theorem etupB_ok {a : Addr} (h : etupB K a = true) (H : Hp) : SqT K H a [] := by
  unfold etupB at h
  split at h
  · rename_i c d its n sl e
    simp only [Bool.and_eq_true, decide_eq_true_eq] at h
    obtain ⟨rfl, rfl⟩ := h
    exact .inr ⟨_, #[], n, e, rfl, rfl, Nat.zero_le _, .nil⟩
  · cases h
theorem kbAll {x qual : Str} {params : Arguments} {body : List Stmt} {scope : Scope} {kws : List (Str × V)} {f : Addr} {fd : FuncData} {ps ks : List Str} {n : Nat} (F : FunD K x qual params body scope [] kws f fd)
    (h : ∀ (kV doc pm : Value) (an : Option Addr) (cdv ct : Value) (us ws : List Value), us.length = n → ws.length = ks.length → bindArgs (PySem.W.fnOf x qual params body scope .none kV doc pm an cdv ct) ⟨us, ks.zip ws⟩ = pure (ps.zip (us ++ ws))) :
    KBn K fd ps n ks (fun us ws => us ++ ws) (fun vs zs => vs ++ zs) := by
  obtain ⟨oc, od, dV, kV, doc, pm, an, cdv, ct, osl, rfl, lk, hcd, hD, hK⟩ := F.ex
  rcases hD with ⟨_, rfl⟩ | ⟨e, _⟩
  · exact ⟨fun s us ws X l1 l2 => .of_eq (h kV doc pm an cdv ct us ws l1 l2), fun r1 r2 => r1.append r2⟩
  · exact absurd rfl e
theorem xkB_ok {D : Addr} (h : xkB K D = true) : XkC K D := by
  unfold xkB at h
  simp only [Bool.and_eq_true, decide_eq_true_eq] at h
  obtain ⟨h1, h2, h3, h4, h5, h6, h7, h8⟩ := h
  exact ⟨He.eqO_ok h1, He.eqO_ok h2, h3, h4, He.eqO_ok h5, He.eqO_ok h6, h7, h8⟩
theorem iniB_ok {h : PySem.Heap} {mg : Str → Option Value} (X : K.In h) (G : h.Ns mainGlobals mg) (hb : (B == ("__debug__" : Str)) = false) (q : iniB K x B ns = true) :
    mg x = some (.ref (He.ga K x)) ∧ IniC K mg (He.ga K x) B (He.ga K B) ns ∧ findIn K (.ref (He.ga K x)) "__init__" = some (some (.ref (He.ma K (He.ga K x) "__init__"))) ∧ typeIn K (.ref (He.ma K (He.ga K x) "__init__")) = some (.type "function") := by
  unfold iniB at q
  simp only [Bool.and_eq_true, decide_eq_true_eq] at q
  obtain ⟨q1, q2, q3, q4, q5, q6, q7, q8, q9, q10, q11, q12, q13⟩ := q
  refine ⟨mg_of X G (He.eqO_ok q6), ⟨⟨oexB_ok q1, He.eqO_ok q2, q3, q4, q5⟩, mg_of X G (He.eqO_ok q7), hb, ⟨q8, He.eqO_ok q9⟩, ?_, fun f hf => He.eqO_ok (List.all_eq_true.mp q11 f hf)⟩, He.eqO_ok q12, q13⟩
  split at q10
  · rename_i s e
    rw [of_decide_eq_true q10] at e; exact e
  · cases q10
end
/-! ### the Hook -/
def obsX (fa : List He.Fa) (fn : List He.DefD) (fx : List Fx) (K : Fg) : He.AlD × Bool := (He.obsD fa fn K, fx.all fun f => f.ok K)
def obsXG (n : Nat) (fa : List He.Fa) (fn : List He.DefD) (fx : List Fx) (g : Addr → Option Obj) : He.AlD × Bool := obsX fa fn fx (He.frG g (cStatics :: He.asD g n))
def SaysX (fa : List He.Fa) (fn : List He.DefD) (fx : List Fx) (K : Fg) : Prop := He.SaysD fa fn K ∧ (fx.all fun f => f.ok K) = true
def hookX (n : Nat) (fa : List He.Fa) (fn : List He.DefD) (fx : List Fx) : PySem.W.Hook where
  α := He.AlD × Bool
  obs := fun s => obsXG n fa fn fx s.heap.get?
  val := fun _ => (He.valD fn, true)
  says := fun _ h => ∃ K : Fg, K.In h ∧ SaysX fa fn fx K
  of := fun _ _ e => ⟨_, He.frG_in, congrArg Prod.fst e, congrArg Prod.snd e⟩
  keeps := fun _ _ _ ⟨K, hK, c⟩ k => ⟨K, PySem.W.Frag.In.keeps hK k, c⟩
theorem obsXG_eq {n : Nat} {fa : List He.Fa} {fn : List He.DefD} {fx : List Fx} {g : Addr → Option Obj} {s : Shared} (h : ∀ a, g a = s.heap.get? a) : obsXG n fa fn fx g = (hookX n fa fn fx).obs s := by
  have e : g = s.heap.get? := funext h
  rw [e] <;> rfl
theorem SaysX.fx {fa : List He.Fa} {fn : List He.DefD} {fx : List Fx} {K : Fg} (c : SaysX fa fn fx K) (i : Nat) {f : Fx} (h : fx[i]? = some f := by rfl) : f.ok K = true := List.all_eq_true.mp c.2 f (List.mem_of_getElem? h)
theorem exo_ok' {K : Fg} {x c : Str} {b : Bool} (h : (Fx.exo x c b).ok K = true) : exmOne K (.ref (He.ga K x)) (.ref (He.ga K c)) = some b ∧ kitOne K (.ref (He.ga K x)) (.ref (He.ga K c)) = some b := by
  have h : (eqb _ _ && eqb _ _) = true := h
  rw [Bool.and_eq_true] at h
  exact ⟨of_decide_eq_true h.1, of_decide_eq_true h.2⟩
theorem exb_ok' {K : Fg} {x : Str} {c : String} {b : Bool} (h : (Fx.exb x c b).ok K = true) : exmOne K (.ref (He.ga K x)) (.type c) = some b ∧ kitOne K (.ref (He.ga K x)) (.type c) = some b := by
  have h : (eqb _ _ && eqb _ _) = true := h
  rw [Bool.and_eq_true] at h
  exact ⟨of_decide_eq_true h.1, of_decide_eq_true h.2⟩
end VM

/-! VMLaw: reckoning with the machine: what is left to show of a run. -/
namespace VM
open PySem (Str)
@[irreducible] def Wp {α : Type} (m : R α) (Q : α → St → Prop) (Z : Ex → St → Prop) : Prop := match m with
  | .ok a s => Q a s
  | .exc x s => Z x s
  | .bad => False
@[irreducible] def WpF (r : RF) (Q : Rv → Heap → Prop) (Z : Ex → Heap → Prop) : Prop := match r with
  | .ret r h => Q r h
  | .exc x h => Z x h
  | .bad => False
section
variable {α β : Type} {s : St} {Z : Ex → St → Prop} {h : Heap} {env : List (Option Rv)}
@[simp] theorem top_val : top = 16777216 := rfl
@[simp] theorem wp_ok (a : α) (Q : α → St → Prop) : Wp (.ok a s) Q Z = Q a s := by unfold Wp; rfl
@[simp] theorem wp_exc (x : Ex) (Q : α → St → Prop) : Wp (.exc x s : R α) Q Z = Z x s := by unfold Wp; rfl
@[simp] theorem wp_bad0 (Q : α → St → Prop) : Wp (.bad : R α) Q Z = False := by unfold Wp; rfl
@[simp] theorem wp_bind (m : M α) (f : α → M β) (Q : β → St → Prop) : Wp ((m >>= f) s) Q Z = Wp (m s) (fun a s' => Wp (f a s') Q Z) Z := by
  show Wp (M.bind m f s) Q Z = _
  unfold M.bind Wp
  cases m s <;> rfl
@[simp] theorem wp_pure (a : α) (Q : α → St → Prop) : Wp ((Pure.pure a : M α) s) Q Z = Q a s := by unfold Wp; rfl
@[simp] theorem wp_bad (Q : α → St → Prop) : Wp ((bad : M α) s) Q Z = False := by unfold Wp; rfl
@[simp] theorem wp_hp (Q : Heap → St → Prop) : Wp (hp s) Q Z = Q s.hp s := by unfold Wp; rfl
@[simp] theorem wp_onHp (f : Heap → Option α) (Q : α → St → Prop) : Wp (onHp f s) Q Z = ∃ a, f s.hp = some a ∧ Q a s := by
  unfold onHp Wp
  cases f s.hp <;> simp
@[simp] theorem wp_lift (o : Option α) (Q : α → St → Prop) : Wp (lift o s) Q Z = ∃ a, o = some a ∧ Q a s := by
  unfold lift Wp
  cases o <;> simp
theorem Wp.mono {m : R α} {Q Q' : α → St → Prop} {Z Z' : Ex → St → Prop} (h : Wp m Q Z) (hq : ∀ a s, Q a s → Q' a s) (hz : ∀ x s, Z x s → Z' x s) : Wp m Q' Z' := by
  unfold Wp at h ⊢
  cases m with
  | ok a s => exact hq a s h
  | exc x s => exact hz x s h
  | bad => exact h
theorem WpF.mono {m : RF} {Q Q' : Rv → Heap → Prop} {Z Z' : Ex → Heap → Prop} (h : WpF m Q Z) (hq : ∀ a s, Q a s → Q' a s) (hz : ∀ x s, Z x s → Z' x s) : WpF m Q' Z' := by
  unfold WpF at h ⊢
  cases m with
  | ret a s => exact hq a s h
  | exc x s => exact hz x s h
  | bad => exact h
@[simp] theorem wpF_exc (x : Ex) (Q : Rv → Heap → Prop) (Z : Ex → Heap → Prop) : WpF (.exc x h) Q Z = Z x h := by unfold WpF; rfl
@[simp] theorem wpF_ret (r : Rv) (Q : Rv → Heap → Prop) (Z : Ex → Heap → Prop) : WpF (.ret r h) Q Z = Q r h := by unfold WpF; rfl
theorem WpF.of {m : RF} {Q : Rv → Heap → Prop} (h : WpF m Q fun _ _ => False) : ∃ r h', m = .ret r h' ∧ Q r h' := by
  unfold WpF at h
  cases m with
  | ret a s => exact ⟨a, s, rfl, h⟩
  | exc x s => exact h.elim
  | bad => exact h.elim
/-! names -/
@[simp] theorem wp_load (i : Nat) (Q : Rv → St → Prop) : Wp (load i ⟨env, h⟩) Q Z = ∃ r, env[i]? = some (some r) ∧ Q (.v r.fz) ⟨env.set i (some (.v r.fz)), h⟩ := by
  unfold load Wp
  dsimp only
  cases e : env[i]? with
  | none => simp
  | some r => cases r <;> simp
@[simp] theorem wp_peek (i : Nat) (Q : Vl → St → Prop) : Wp (peek i ⟨env, h⟩) Q Z = ∃ r, env[i]? = some (some r) ∧ Q r.fz ⟨env, h⟩ := by
  unfold peek Wp
  dsimp only
  cases e : env[i]? with
  | none => simp
  | some r => cases r <;> simp
@[simp] theorem wp_getS (i : Nat) (Q : Rv → St → Prop) : Wp (getS i ⟨env, h⟩) Q Z = ∃ r, env[i]? = some (some r) ∧ Q r ⟨env, h⟩ := by
  unfold getS Wp
  dsimp only
  cases e : env[i]? with
  | none => simp
  | some r => cases r <;> simp
@[simp] theorem wp_setS (i : Nat) (r : Option Rv) (Q : Unit → St → Prop) : Wp (setS i r ⟨env, h⟩) Q Z = (i < env.length ∧ Q () ⟨env.set i r, h⟩) := by
  by_cases e : i < env.length <;> simp [setS, e]
@[simp] theorem wp_bindT (i : Nat) (r : Rv) (Q : Unit → St → Prop) : Wp (bindT (.n i) r ⟨env, h⟩) Q Z = (i < env.length ∧ Q () ⟨env.set i (some r), h⟩) := by
  rw [bindT]; exact wp_setS i (some r) Q
@[simp] theorem wp_bindTup (ts : List T) (vs : List Vl) (Q : Unit → St → Prop) : Wp (bindT (.tup ts) (.v (.tup vs)) s) Q Z = (vs.length = ts.length ∧ Wp (bindTs ts vs s) Q Z) := by
  have e : bindT (.tup ts) (.v (.tup vs)) = (if vs.length = ts.length then bindTs ts vs else bad) := by simp [bindT, Rv.fz]
  rw [e]
  split
  · rename_i z; simp [z]
  · rename_i z; simp [z]
@[simp] theorem wp_bindTlst (ts : List T) (vs : List Vl) (Q : Unit → St → Prop) : Wp (bindT (.tup ts) (.v (.lst vs)) s) Q Z = (vs.length = ts.length ∧ Wp (bindTs ts vs s) Q Z) := by
  have e : bindT (.tup ts) (.v (.lst vs)) = (if vs.length = ts.length then bindTs ts vs else bad) := by simp [bindT, Rv.fz]
  rw [e]
  split
  · rename_i z; simp [z]
  · rename_i z; simp [z]
@[simp] theorem wp_bindTs0 (Q : Unit → St → Prop) : Wp (bindTs [] [] s) Q Z = Q () s := by simp [bindTs]
@[simp] theorem wp_bindTs1 (t : T) (ts : List T) (v : Vl) (vs : List Vl) (Q : Unit → St → Prop) : Wp (bindTs (t :: ts) (v :: vs) s) Q Z = Wp (bindT t (.v v) s) (fun _ s' => Wp (bindTs ts vs s') Q Z) Z := by
  rw [bindTs, wp_bind]
@[simp] theorem fz_v (v : Vl) : (Rv.v v).fz = v := rfl
@[simp] theorem fz_ol (v : List Vl) : (Rv.ol v).fz = .lst v := rfl
@[simp] theorem fz_od (v : List (Sum Int Str × Vl)) : (Rv.od v).fz = .dct v := rfl
/-! expressions -/
variable (c : Cfg)
@[simp] theorem v_var (i : Nat) : (sem c (.var i)).v = load i := by simp [sem]
@[simp] theorem b_var (i : Nat) : (sem c (.var i)).b = peek i := by simp [sem]
@[simp] theorem t_var (i : Nat) : (sem c (.var i)).t = tstB (peek i) := by simp [sem]
theorem wp_tstB (m : M Vl) (Q : Bool → St → Prop) : Wp (tstB m s) Q Z = Wp (m s) (fun x s' => ∃ b, truth s'.hp x = some b ∧ Q b s') Z := by
  unfold tstB
  simp
/-- an expression's rules from its value's -/
theorem b_of (m : M Rv) (Q : Vl → St → Prop) : Wp ((D.of m).b s) Q Z = Wp (m s) (fun r s' => Q r.fz s') Z := by
  show Wp ((do let r ← m; pure r.fz : M Vl) s) Q Z = _
  simp
theorem t_of (m : M Rv) (Q : Bool → St → Prop) : Wp ((D.of m).t s) Q Z = Wp (m s) (fun r s' => ∃ b, truth s'.hp r.fz = some b ∧ Q b s') Z := by
  show Wp (tstB (do let r ← m; pure r.fz) s) Q Z = _
  simp [wp_tstB]
/-- a turn of a list comprehension -/
def lcG (elt : E) (t : T) (ifs : Es) (own : List Nat) (v : Vl) : M (Option Vl) := do
  wipeM own
  bindT t (.v v)
  let ok ← semTs c ifs
  if ok then do
    let r ← (sem c elt).v
    pure (some r.fz)
  else pure none
@[simp] theorem v_cst (v : Vl) : (sem c (.cst v)).v = ((pure (.v v) : M Rv)) := by rw [sem] <;> rfl
@[simp] theorem b_cst (v : Vl) : (sem c (.cst v)).b = (do let r ← (sem c (.cst v)).v; pure r.fz) := by rw [sem] <;> rfl
@[simp] theorem t_cst (v : Vl) : (sem c (.cst v)).t = (tstB (sem c (.cst v)).b) := by rw [sem] <;> rfl
@[simp] theorem v_d0  : (sem c (.d0)).v = ((pure (.od []) : M Rv)) := by rw [sem] <;> rfl
@[simp] theorem b_d0  : (sem c (.d0)).b = (do let r ← (sem c (.d0)).v; pure r.fz) := by rw [sem] <;> rfl
@[simp] theorem t_d0  : (sem c (.d0)).t = (tstB (sem c (.d0)).b) := by rw [sem] <;> rfl
@[simp] theorem v_tup (es : Es) : (sem c (.tup es)).v = (do let vs ← semA c es; if vs.length ≤ top then pure (.v (.tup vs)) else bad) := by rw [sem] <;> rfl
@[simp] theorem b_tup (es : Es) : (sem c (.tup es)).b = (do let r ← (sem c (.tup es)).v; pure r.fz) := by rw [sem] <;> rfl
@[simp] theorem t_tup (es : Es) : (sem c (.tup es)).t = (tstB (sem c (.tup es)).b) := by rw [sem] <;> rfl
@[simp] theorem v_lst (es : Es) : (sem c (.lst es)).v = (do let vs ← semA c es; if vs.length ≤ top then pure (.ol vs) else bad) := by rw [sem] <;> rfl
@[simp] theorem b_lst (es : Es) : (sem c (.lst es)).b = (do let r ← (sem c (.lst es)).v; pure r.fz) := by rw [sem] <;> rfl
@[simp] theorem t_lst (es : Es) : (sem c (.lst es)).t = (tstB (sem c (.lst es)).b) := by rw [sem] <;> rfl
@[simp] theorem v_bin (o : Bop) (a b : E) : (sem c (.bin o a b)).v = (do let x ← (sem c a).b; let y ← (sem c b).b; onHp fun h => bop h o x y) := by rw [sem] <;> rfl
@[simp] theorem b_bin (o : Bop) (a b : E) : (sem c (.bin o a b)).b = (do let r ← (sem c (.bin o a b)).v; pure r.fz) := by rw [sem] <;> rfl
@[simp] theorem t_bin (o : Bop) (a b : E) : (sem c (.bin o a b)).t = (tstB (sem c (.bin o a b)).b) := by rw [sem] <;> rfl
@[simp] theorem v_neg (a : E) : (sem c (.neg a)).v = (do let x ← (sem c a).b; match x with | .int i => pure (.v (.int (-i))) | _ => bad) := by rw [sem] <;> rfl
@[simp] theorem b_neg (a : E) : (sem c (.neg a)).b = (do let r ← (sem c (.neg a)).v; pure r.fz) := by rw [sem] <;> rfl
@[simp] theorem t_neg (a : E) : (sem c (.neg a)).t = (tstB (sem c (.neg a)).b) := by rw [sem] <;> rfl
@[simp] theorem v_nt (a : E) : (sem c (.nt a)).v = (do let x ← (sem c a).b; match x with | .bl b => pure (.v (.bl (!b))) | _ => bad) := by rw [sem] <;> rfl
@[simp] theorem b_nt (a : E) : (sem c (.nt a)).b = (do let r ← (sem c (.nt a)).v; pure r.fz) := by rw [sem] <;> rfl
@[simp] theorem t_nt (a : E) : (sem c (.nt a)).t = (do let r ← (sem c a).t; pure (!r)) := by rw [sem]
@[simp] theorem v_cmp (o : Cop) (a b : E) : (sem c (.cmp o a b)).v = (do let x ← (sem c a).b; let y ← (sem c b).b; let r ← onHp fun h => cop h o x y; pure (.v (.bl r))) := by rw [sem] <;> rfl
@[simp] theorem b_cmp (o : Cop) (a b : E) : (sem c (.cmp o a b)).b = (do let r ← (sem c (.cmp o a b)).v; pure r.fz) := by rw [sem] <;> rfl
@[simp] theorem t_cmp (o : Cop) (a b : E) : (sem c (.cmp o a b)).t = (tstB (sem c (.cmp o a b)).b) := by rw [sem] <;> rfl
@[simp] theorem v_isN (a : E) : (sem c (.isN a)).v = (do let x ← (sem c a).b; pure (.v (.bl (isNon x)))) := by rw [sem] <;> rfl
@[simp] theorem b_isN (a : E) : (sem c (.isN a)).b = (do let r ← (sem c (.isN a)).v; pure r.fz) := by rw [sem] <;> rfl
@[simp] theorem t_isN (a : E) : (sem c (.isN a)).t = (tstB (sem c (.isN a)).b) := by rw [sem] <;> rfl
@[simp] theorem v_notN (a : E) : (sem c (.notN a)).v = (do let x ← (sem c a).b; pure (.v (.bl (!isNon x)))) := by rw [sem] <;> rfl
@[simp] theorem b_notN (a : E) : (sem c (.notN a)).b = (do let r ← (sem c (.notN a)).v; pure r.fz) := by rw [sem] <;> rfl
@[simp] theorem t_notN (a : E) : (sem c (.notN a)).t = (tstB (sem c (.notN a)).b) := by rw [sem] <;> rfl
@[simp] theorem v_chain (a : E) (o : Cop) (b : E) (u : Cop) (d : E) : (sem c (.chain a o b u d)).v = (do let x ← (sem c a).b; let y ← (sem c b).b; let r ← onHp fun h => cop h o x y; if r then (do let z ← (sem c d).b; let r ← onHp fun h => cop h u y z; pure (.v (.bl r))) else pure (.v (.bl false))) := by rw [sem] <;> rfl
@[simp] theorem b_chain (a : E) (o : Cop) (b : E) (u : Cop) (d : E) : (sem c (.chain a o b u d)).b = (do let r ← (sem c (.chain a o b u d)).v; pure r.fz) := by rw [sem] <;> rfl
@[simp] theorem t_chain (a : E) (o : Cop) (b : E) (u : Cop) (d : E) : (sem c (.chain a o b u d)).t = (tstB (sem c (.chain a o b u d)).b) := by rw [sem] <;> rfl
@[simp] theorem v_and (a b : E) : (sem c (.and a b)).v = (do let x ← (sem c a).b; match x with | .bl true => (sem c b).v | .bl false => pure (.v (.bl false)) | _ => bad) := by rw [sem] <;> rfl
@[simp] theorem b_and (a b : E) : (sem c (.and a b)).b = (do let r ← (sem c (.and a b)).v; pure r.fz) := by rw [sem] <;> rfl
@[simp] theorem t_and (a b : E) : (sem c (.and a b)).t = (do let r ← (sem c a).t; if r then (sem c b).t else pure false) := by rw [sem]
@[simp] theorem v_or (a b : E) : (sem c (.or a b)).v = (do let x ← (sem c a).b; match x with | .bl true => pure (.v (.bl true)) | .bl false => (sem c b).v | _ => bad) := by rw [sem] <;> rfl
@[simp] theorem b_or (a b : E) : (sem c (.or a b)).b = (do let r ← (sem c (.or a b)).v; pure r.fz) := by rw [sem] <;> rfl
@[simp] theorem t_or (a b : E) : (sem c (.or a b)).t = (do let r ← (sem c a).t; if r then pure true else (sem c b).t) := by rw [sem]
@[simp] theorem v_ife (t a b : E) : (sem c (.ife t a b)).v = (do let r ← (sem c t).t; if r then (sem c a).v else (sem c b).v) := by rw [sem] <;> rfl
@[simp] theorem b_ife (t a b : E) : (sem c (.ife t a b)).b = (do let r ← (sem c (.ife t a b)).v; pure r.fz) := by rw [sem] <;> rfl
@[simp] theorem t_ife (t a b : E) : (sem c (.ife t a b)).t = (do let r ← (sem c t).t; if r then (sem c a).t else (sem c b).t) := by rw [sem]
@[simp] theorem v_idx (a i : E) : (sem c (.idx a i)).v = (do let x ← (sem c a).b; let y ← (sem c i).b; let v ← onHp fun h => idx h x y; pure (.v v)) := by rw [sem] <;> rfl
@[simp] theorem b_idx (a i : E) : (sem c (.idx a i)).b = (do let r ← (sem c (.idx a i)).v; pure r.fz) := by rw [sem] <;> rfl
@[simp] theorem t_idx (a i : E) : (sem c (.idx a i)).t = (tstB (sem c (.idx a i)).b) := by rw [sem] <;> rfl
@[simp] theorem v_slc (a : E) (lo hi : Eo) : (sem c (.slc a lo hi)).v = (do let x ← (sem c a).b; let l ← semO c lo; let u ← semO c hi; onHp fun h => slc h x l u) := by rw [sem] <;> rfl
@[simp] theorem b_slc (a : E) (lo hi : Eo) : (sem c (.slc a lo hi)).b = (do let r ← (sem c (.slc a lo hi)).v; pure r.fz) := by rw [sem] <;> rfl
@[simp] theorem t_slc (a : E) (lo hi : Eo) : (sem c (.slc a lo hi)).t = (tstB (sem c (.slc a lo hi)).b) := by rw [sem] <;> rfl
@[simp] theorem v_rev (a : E) : (sem c (.rev a)).v = (do let x ← (sem c a).b; onHp fun h => rev h x) := by rw [sem] <;> rfl
@[simp] theorem b_rev (a : E) : (sem c (.rev a)).b = (do let r ← (sem c (.rev a)).v; pure r.fz) := by rw [sem] <;> rfl
@[simp] theorem t_rev (a : E) : (sem c (.rev a)).t = (tstB (sem c (.rev a)).b) := by rw [sem] <;> rfl
@[simp] theorem v_call (f : Nat) (es : Es) : (sem c (.call f es)).v = (do let vs ← semA c es; let h ← hp; runF (c.call f vs h)) := by rw [sem] <;> rfl
@[simp] theorem b_call (f : Nat) (es : Es) : (sem c (.call f es)).b = (do let r ← (sem c (.call f es)).v; pure r.fz) := by rw [sem] <;> rfl
@[simp] theorem t_call (f : Nat) (es : Es) : (sem c (.call f es)).t = (tstB (sem c (.call f es)).b) := by rw [sem] <;> rfl
@[simp] theorem v_bi (f : Bi) (es : Es) : (sem c (.bi f es)).v = (do let vs ← semB c es; onHp fun h => bi h f vs) := by rw [sem] <;> rfl
@[simp] theorem b_bi (f : Bi) (es : Es) : (sem c (.bi f es)).b = (do let r ← (sem c (.bi f es)).v; pure r.fz) := by rw [sem] <;> rfl
@[simp] theorem t_bi (f : Bi) (es : Es) : (sem c (.bi f es)).t = (tstB (sem c (.bi f es)).b) := by rw [sem] <;> rfl
@[simp] theorem v_isa (a : E) (ts : List Ty) : (sem c (.isa a ts)).v = (do let x ← (sem c a).b; if isEx x then bad else do let h ← hp; pure (.v (.bl (ts.any fun t => isTy h x t)))) := by rw [sem] <;> rfl
@[simp] theorem b_isa (a : E) (ts : List Ty) : (sem c (.isa a ts)).b = (do let r ← (sem c (.isa a ts)).v; pure r.fz) := by rw [sem] <;> rfl
@[simp] theorem t_isa (a : E) (ts : List Ty) : (sem c (.isa a ts)).t = (tstB (sem c (.isa a ts)).b) := by rw [sem] <;> rfl
@[simp] theorem ex_non : isEx .non = false := rfl
@[simp] theorem ex_bl (b : Bool) : isEx (.bl b) = false := rfl
@[simp] theorem ex_int (b : Int) : isEx (.int b) = false := rfl
@[simp] theorem ex_str (b : Str) : isEx (.str b) = false := rfl
@[simp] theorem ex_tup (b : List Vl) : isEx (.tup b) = false := rfl
@[simp] theorem ex_lst (b : List Vl) : isEx (.lst b) = false := rfl
@[simp] theorem ex_dct (b : List (Sum Int Str × Vl)) : isEx (.dct b) = false := rfl
@[simp] theorem ex_ref (b : Nat) : isEx (.ref b) = false := rfl
def fldM (kn : List Str) (f : Str) (x : Vl) : M Rv := match x with
  | .exn c fs => if kn.contains c then (match fs.lookup f with
    | some v => pure (.v v)
    | none => bad) else bad
  | _ => bad
def isXM (kn cs : List Str) (x : Vl) : M Rv := match x with
  | .exn c _ => if kn.contains c then pure (.v (.bl (cs.contains c))) else bad
  | _ => bad
@[simp] theorem v_fld (a : E) (kn : List Str) (f : Str) : (sem c (.fld a kn f)).v = (do let x ← (sem c a).b; fldM kn f x) := by rw [sem] <;> rfl
@[simp] theorem b_fld (a : E) (kn : List Str) (f : Str) : (sem c (.fld a kn f)).b = (do let r ← (sem c (.fld a kn f)).v; pure r.fz) := by rw [sem] <;> rfl
@[simp] theorem t_fld (a : E) (kn : List Str) (f : Str) : (sem c (.fld a kn f)).t = (tstB (sem c (.fld a kn f)).b) := by rw [sem] <;> rfl
@[simp] theorem v_isX (a : E) (kn cs : List Str) : (sem c (.isX a kn cs)).v = (do let x ← (sem c a).b; isXM kn cs x) := by rw [sem] <;> rfl
@[simp] theorem b_isX (a : E) (kn cs : List Str) : (sem c (.isX a kn cs)).b = (do let r ← (sem c (.isX a kn cs)).v; pure r.fz) := by rw [sem] <;> rfl
@[simp] theorem t_isX (a : E) (kn cs : List Str) : (sem c (.isX a kn cs)).t = (tstB (sem c (.isX a kn cs)).b) := by rw [sem] <;> rfl
def lrgM (x y : Vl) : M Rv := match x, y with
  | .int i, .int j => if inLim i && inLim j && decide ((j - i).toNat ≤ top) then pure (.ol (rangeV i (j - i).toNat)) else bad
  | _, _ => bad
def stpM (k : Nat) (x y : Vl) : M Rv := match y with
  | .int i => if k = 0 then bad else onHp fun h => (lits h x).map fun vs => .ol (stpV vs i k)
  | _ => bad
@[simp] theorem v_lrg (a b : E) : (sem c (.lrg a b)).v = (do let x ← (sem c a).b; let y ← (sem c b).b; lrgM x y) := by rw [sem] <;> rfl
@[simp] theorem b_lrg (a b : E) : (sem c (.lrg a b)).b = (do let r ← (sem c (.lrg a b)).v; pure r.fz) := by rw [sem] <;> rfl
@[simp] theorem t_lrg (a b : E) : (sem c (.lrg a b)).t = (tstB (sem c (.lrg a b)).b) := by rw [sem] <;> rfl
@[simp] theorem v_stp (a b : E) (k : Nat) : (sem c (.stp a b k)).v = (do let x ← (sem c a).b; let y ← (sem c b).b; stpM k x y) := by rw [sem] <;> rfl
@[simp] theorem b_stp (a b : E) (k : Nat) : (sem c (.stp a b k)).b = (do let r ← (sem c (.stp a b k)).v; pure r.fz) := by rw [sem] <;> rfl
@[simp] theorem t_stp (a b : E) (k : Nat) : (sem c (.stp a b k)).t = (tstB (sem c (.stp a b k)).b) := by rw [sem] <;> rfl
@[simp] theorem wp_lrgM (i j : Int) (Q : Rv → St → Prop) : Wp (lrgM (.int i) (.int j) s) Q Z = ((inLim i && inLim j && decide ((j - i).toNat ≤ top)) = true ∧ Q (.ol (rangeV i (j - i).toNat)) s) := by
  unfold lrgM
  dsimp only
  split
  · rename_i z; rw [wp_pure]; simp only [z, true_and]
  · rename_i z; rw [wp_bad]; exact propext ⟨fun q => q.elim, fun q => absurd q.1 z⟩
@[simp] theorem wp_stpM (k : Nat) (i : Int) (x : Vl) (Q : Rv → St → Prop) : Wp (stpM (k + 1) x (.int i) s) Q Z = ∃ vs, lits s.hp x = some vs ∧ Q (.ol (stpV vs i (k + 1))) s := by
  unfold stpM
  dsimp only
  rw [if_neg (by omega), wp_onHp]
  exact propext ⟨fun ⟨a, h1, h2⟩ => by
    obtain ⟨vs, hv, rfl⟩ := Option.map_eq_some_iff.mp h1
    exact ⟨vs, hv, h2⟩, fun ⟨vs, h1, h2⟩ => ⟨_, by rw [h1]; rfl, h2⟩⟩
theorem wp_fldM {kn : List Str} {f x : Str} {fs : List (Str × Vl)} {v : Vl} {Q : Rv → St → Prop} (h1 : kn.contains x = true) (h2 : fs.lookup f = some v) : Wp (fldM kn f (.exn x fs) s) Q Z = Q (.v v) s := by
  have e : fldM kn f (.exn x fs) = pure (.v v) := by unfold fldM; dsimp only; rw [h1, if_pos rfl, h2]
  rw [e, wp_pure]
theorem wp_isXM {kn cs : List Str} {x : Str} {fs : List (Str × Vl)} {Q : Rv → St → Prop} (h1 : kn.contains x = true) : Wp (isXM kn cs (.exn x fs) s) Q Z = Q (.v (.bl (cs.contains x))) s := by
  have e : isXM kn cs (.exn x fs) = pure (.v (.bl (cs.contains x))) := by unfold isXM; dsimp only; rw [h1, if_pos rfl]
  rw [e, wp_pure]
@[simp] theorem v_alloc (e : E) : (sem c (.alloc e)).v = (do let r ← (sem c e).v; match r with | .ol vs => (do let x ← newCell (.lst vs); pure (.v x)) | .od kvs => (do let x ← newCell (.dct kvs); pure (.v x)) | .v _ => bad) := by rw [sem] <;> rfl
@[simp] theorem b_alloc (e : E) : (sem c (.alloc e)).b = (do let r ← (sem c (.alloc e)).v; pure r.fz) := by rw [sem] <;> rfl
@[simp] theorem t_alloc (e : E) : (sem c (.alloc e)).t = (tstB (sem c (.alloc e)).b) := by rw [sem] <;> rfl
@[simp] theorem v_lc (elt : E) (t : T) (it : It) (ifs : Es) (own : List Nat) : (sem c (.lc elt t it ifs own)).v = (do let src ← semI c false it; let vs ← block own (each (lcG c elt t ifs own) src); if vs.length ≤ top then pure (.ol vs) else bad) := by rw [sem] <;> rfl
@[simp] theorem b_lc (elt : E) (t : T) (it : It) (ifs : Es) (own : List Nat) : (sem c (.lc elt t it ifs own)).b = (do let r ← (sem c (.lc elt t it ifs own)).v; pure r.fz) := by rw [sem] <;> rfl
@[simp] theorem t_lc (elt : E) (t : T) (it : It) (ifs : Es) (own : List Nat) : (sem c (.lc elt t it ifs own)).t = (tstB (sem c (.lc elt t it ifs own)).b) := by rw [sem] <;> rfl
/-- a turn of a dict comprehension -/
def dcG (k v : E) (t : T) (own : List Nat) (x : Vl) : M (Option (Sum Int Str × Vl)) := do
  wipeM own
  bindT t (.v x)
  let kv ← (sem c k).b
  let r ← (sem c v).v
  match keyOf kv with
  | some j => pure (some (j, r.fz))
  | none => bad
@[simp] theorem v_dc (k v : E) (t : T) (it : It) (own : List Nat) : (sem c (.dc k v t it own)).v = (do let src ← semI c false it; let ps ← block own (each (dcG c k v t own) src); if ps.length ≤ top then pure (.od (ps.foldl (fun d p => dput p.1 p.2 d) [])) else bad) := by rw [sem] <;> rfl
@[simp] theorem b_dc (k v : E) (t : T) (it : It) (own : List Nat) : (sem c (.dc k v t it own)).b = (do let r ← (sem c (.dc k v t it own)).v; pure r.fz) := by rw [sem] <;> rfl
@[simp] theorem v_isB (a : E) (b : Bool) : (sem c (.isB a b)).v = (do let x ← (sem c a).b; match x with | .bl r => pure (.v (.bl (r == b))) | _ => bad) := by rw [sem] <;> rfl
@[simp] theorem b_isB (a : E) (b : Bool) : (sem c (.isB a b)).b = (do let r ← (sem c (.isB a b)).v; pure r.fz) := by rw [sem] <;> rfl
@[simp] theorem t_isB (a : E) (b : Bool) : (sem c (.isB a b)).t = tstB (sem c (.isB a b)).b := by rw [sem] <;> rfl
@[simp] theorem v_notB (a : E) (b : Bool) : (sem c (.notB a b)).v = (do let x ← (sem c a).b; match x with | .bl r => pure (.v (.bl (!(r == b)))) | _ => bad) := by rw [sem] <;> rfl
@[simp] theorem b_notB (a : E) (b : Bool) : (sem c (.notB a b)).b = (do let r ← (sem c (.notB a b)).v; pure r.fz) := by rw [sem] <;> rfl
@[simp] theorem t_notB (a : E) (b : Bool) : (sem c (.notB a b)).t = tstB (sem c (.notB a b)).b := by rw [sem] <;> rfl
@[simp] theorem a_nil : semA c .nil = pure [] := by rw [semA]
@[simp] theorem a_cons (e : E) (es : Es) : semA c (.cons e es) = (do let r ← (sem c e).v; let vs ← semA c es; pure (r.fz :: vs)) := by rw [semA]
@[simp] theorem bb_nil : semB c .nil = pure [] := by rw [semB]
@[simp] theorem bb_cons (e : E) (es : Es) : semB c (.cons e es) = (do let v ← (sem c e).b; let vs ← semB c es; pure (v :: vs)) := by rw [semB]
@[simp] theorem ts_nil : semTs c .nil = pure true := by rw [semTs]
@[simp] theorem ts_cons (e : E) (es : Es) : semTs c (.cons e es) = (sem c e).t := by rw [semTs]
@[simp] theorem o_no : semO c .no = pure none := by rw [semO]
@[simp] theorem o_some (e : E) : semO c (.some e) = (do
    let v ← (sem c e).b
    match v with
    | .int i => pure (some i)
    | _ => bad) := by rw [semO] <;> rfl
@[simp] theorem i_eF (e : E) : semI c false (.e e) = (do let x ← (sem c e).b; lift (seqOf x)) := by rw [semI] <;> rfl
@[simp] theorem i_eT (e : E) : semI c true (.e e) = (do let x ← (do { let r ← (sem c e).v; pure r.fz }); lift (seqOf x)) := by rw [semI] <;> rfl
@[simp] theorem i_r1 (fr : Bool) (a : E) : semI c fr (.range1 a) = (do
    let x ← (sem c a).b
    match x with
    | .int n => if inLim n then pure (rangeV 0 n.toNat) else bad
    | _ => bad) := by rw [semI] <;> rfl
@[simp] theorem i_r2 (fr : Bool) (a b : E) : semI c fr (.range2 a b) = (do
    let x ← (sem c a).b
    let y ← (sem c b).b
    match x, y with
    | .int i, .int j => if inLim i && inLim j then pure (rangeV i (j - i).toNat) else bad
    | _, _ => bad) := by rw [semI] <;> rfl
def enumO : Vl → Option (List Vl)
  | .lst vs => some (enumV vs 0)
  | _ => none
@[simp] theorem i_enF (e : E) : semI c false (.enum e) = (do let x ← (sem c e).b; lift (enumO x)) := by rw [semI] <;> rfl
@[simp] theorem i_enT (e : E) : semI c true (.enum e) = (do let x ← (do { let r ← (sem c e).v; pure r.fz }); lift (enumO x)) := by rw [semI] <;> rfl
@[simp] theorem i_zipF (a b : E) : semI c false (.zip a b) = (do let x ← (sem c a).b; let y ← (sem c b).b; lift (zipOf x y)) := by rw [semI] <;> rfl
@[simp] theorem i_zipT (a b : E) : semI c true (.zip a b) = (do let x ← (do { let r ← (sem c a).v; pure r.fz }); let y ← (do { let r ← (sem c b).v; pure r.fz }); lift (zipOf x y)) := by rw [semI] <;> rfl
@[simp] theorem wp_tst (m : M Vl) (Q : Bool → St → Prop) : Wp (tstB m s) Q Z = Wp (m s) (fun x s' => ∃ b, truth s'.hp x = some b ∧ Q b s') Z := wp_tstB m Q
@[simp] theorem wp_ite (p : Prop) [Decidable p] (m n : M α) (Q : α → St → Prop) : Wp ((if p then m else n) s) Q Z = if p then Wp (m s) Q Z else Wp (n s) Q Z := by split <;> rfl
@[simp] theorem wp_runF (r : RF) (Q : Rv → St → Prop) : Wp (runF r ⟨env, h⟩) Q Z = WpF r (fun r h' => Q r ⟨env, h'⟩) (fun x h' => Z x ⟨env, h'⟩) := by
  unfold runF Wp WpF
  cases r <;> rfl
@[simp] theorem wp_newCell (x : Cell) (Q : Vl → St → Prop) : Wp (newCell x ⟨env, h⟩) Q Z = Q (.ref h.length) ⟨env, h ++ [x]⟩ := by unfold Wp; rfl
@[simp] theorem wp_wipe (own : List Nat) (Q : Unit → St → Prop) : Wp (wipeM own ⟨env, h⟩) Q Z = Q () ⟨wipeE own env, h⟩ := by unfold Wp; rfl
@[simp] theorem wipe_nil : wipeE [] env = env := rfl
@[simp] theorem wipe_cons (i : Nat) (own : List Nat) : wipeE (i :: own) env = wipeE own (env.set i none) := rfl
theorem wp_block (own : List Nat) (m : M α) (Q : α → St → Prop) : Wp (block own m s) Q Z = (own.all (fun i => plainS (s.env.getD i none)) = true ∧ Wp (m s) (fun a s' => Q a ⟨backE own s.env s'.env, s'.hp⟩) fun _ _ => False) := by
  unfold block
  split
  · rename_i z
    rw [z]
    unfold Wp
    cases m s <;> simp
  · rename_i z
    exact propext ⟨fun q => by unfold Wp at q; exact q.elim, fun q => absurd q.1 z⟩
/-! statements -/
@[simp] theorem den_eq (e : E) : den c e = (sem c e).v := rfl
@[simp] theorem denB_eq (e : E) : denB c e = (sem c e).b := rfl
@[simp] theorem denT_eq (e : E) : denT c e = (sem c e).t := rfl
@[simp] theorem x_asg (t : T) (e : E) : exec c (.asg t e) = (do let r ← (sem c e).v; bindT t r; pure .nx) := by rw [exec] <;> rfl
@[simp] theorem x_putV (o : Nat) (i e : E) : exec c (.put (.var o) i e) = (do let r ← (sem c e).v; let _ ← peek o; let k ← (sem c i).b; putOwn o k r.fz) := by rw [exec] <;> rfl
@[simp] theorem x_app (i : Nat) (e : E) : exec c (.app i e) = (do peekL i; let r ← (sem c e).v; appAt i r.fz) := by rw [exec] <;> rfl
@[simp] theorem x_expr (e : E) : exec c (.expr e) = (do let _ ← (sem c e).v; pure .nx) := by rw [exec] <;> rfl
@[simp] theorem x_if (t : E) (a b : Ss) : exec c (.iff t a b) = (do let r ← (sem c t).t; if r then execs c a else execs c b) := by rw [exec] <;> rfl
@[simp] theorem x_loop (t : T) (it : It) (b : Ss) : exec c (.loop t it b) = (do let src ← semI c true it; walk (fun v => do bindT t (.v v); execs c b) src) := by rw [exec]
@[simp] theorem x_whl (t : E) (b : Ss) : exec c (.whl t b) = whl (sem c t).t (execs c b) c.fuel := by rw [exec] <;> rfl
@[simp] theorem x_ret (e : E) : exec c (.ret e) = retE c e := by rw [exec]
@[simp] theorem x_retN : exec c .retN = pure (.rt (.v .non)) := by rw [exec]
@[simp] theorem x_pass : exec c .pass = pure .nx := by rw [exec]
@[simp] theorem x_brk : exec c .brk = pure .bk := by rw [exec]
@[simp] theorem x_cont : exec c .cont = pure .ct := by rw [exec]
@[simp] theorem r_var (i : Nat) : retE c (.var i) = (do let r ← getS i; setS i none; pure (.rt r)) := rfl
@[simp] theorem x_raise (k : Str) (ns : List Str) (es : Es) (Q : Fl → St → Prop) : Wp (exec c (.raise k ns es) s) Q Z = Wp (semA c es s) (fun vs s' => Z ⟨k, ns.zip vs⟩ s') Z := by
  rw [exec, wp_bind]
  congr 1
  funext vs s'
  exact wp_exc _ _
theorem wp_tryo {b h' : Ss} {cs : List Str} {Q : Fl → St → Prop} (h1 : Wp (execs c b s) Q (fun x s' => if cs.contains x.c = true then Wp (execs c h' s') Q Z else Z x s')) : Wp (exec c (.tryo b cs h') s) Q Z := by
  rw [exec]
  cases e : execs c b s with
  | ok f s' => rw [e, wp_ok] at h1; simp only [e]; rw [wp_ok]; exact h1
  | bad => rw [e, wp_bad0] at h1; exact h1.elim
  | exc x s' =>
    rw [e, wp_exc] at h1
    simp only [e]
    split
    · rename_i z; rw [if_pos z] at h1; exact h1
    · rename_i z; rw [if_neg z] at h1; rw [wp_exc]; exact h1
theorem wp_trya {b : Ss} {cs : List Str} {i j : Nat} {Q : Fl → St → Prop} (h1 : Wp (execs c b s) Q (fun x s' => if cs.contains x.c = true then (j < s'.env.length ∧ i < s'.env.length ∧ Q .nx ⟨(s'.env.set j (some (.v (.exn x.c x.fs)))).set i none, s'.hp⟩) else Z x s')) : Wp (exec c (.trya b cs i j) s) Q Z := by
  rw [exec]
  cases e : execs c b s with
  | ok f s' => rw [e, wp_ok] at h1; simp only [e]; rw [wp_ok]; exact h1
  | bad => rw [e, wp_bad0] at h1; exact h1.elim
  | exc x s' =>
    rw [e, wp_exc] at h1
    simp only [e]
    split
    · rename_i z
      rw [if_pos z] at h1
      obtain ⟨env', h'⟩ := s'
      rw [wp_bind, wp_setS]
      refine ⟨h1.1, ?_⟩
      rw [wp_bind, wp_setS]
      refine ⟨by rw [List.length_set]; exact h1.2.1, ?_⟩
      rw [wp_pure]; exact h1.2.2
    · rename_i z; rw [if_neg z] at h1; rw [wp_exc]; exact h1
def seqF (f : Fl) (m : M Fl) : M Fl := match f with
  | .nx => m
  | f => pure f
@[simp] theorem seqF_nx (m : M Fl) : seqF .nx m = m := rfl
@[simp] theorem seqF_rt (r : Rv) (m : M Fl) : seqF (.rt r) m = pure (.rt r) := rfl
@[simp] theorem seqF_bk (m : M Fl) : seqF .bk m = pure .bk := rfl
@[simp] theorem seqF_ct (m : M Fl) : seqF .ct m = pure .ct := rfl
@[simp] theorem xs_nil : execs c .nil = pure .nx := by rw [execs]
@[simp] theorem xs_cons (st : S) (ss : Ss) : execs c (.cons st ss) = (do let f ← exec c st; seqF f (execs c ss)) := by
  rw [execs]
  congr 1
theorem wp_walk {f : Vl → M Fl} {Q : Fl → St → Prop} (I : List Vl → St → Prop) : ∀ {src : List Vl} {s : St}, I src s → (∀ v rest s, I (v :: rest) s → Wp (f v s) (fun fl s' => match fl with
      | .nx => I rest s'
      | .ct => I rest s'
      | .bk => Q .nx s'
      | .rt r => Q (.rt r) s') Z) → (∀ s, I [] s → Q .nx s) → Wp (walk f src s) Q Z
  | [], s, h0, step, fin => by
    show Wp ((pure .nx : M Fl) s) Q Z
    rw [wp_pure]; exact fin s h0
  | v :: rest, s, h0, step, fin => by
    show Wp ((do
      let r ← f v
      match r with
      | .nx => walk f rest
      | .ct => walk f rest
      | .bk => pure .nx
      | .rt r => pure (.rt r) : M Fl) s) Q Z
    rw [wp_bind]
    refine (step v rest s h0).mono (fun fl s' h => ?_) fun _ _ z => z
    cases fl with
    | nx => exact wp_walk I h step fin
    | ct => exact wp_walk I h step fin
    | bk => show Wp ((pure .nx : M Fl) s') Q Z; rw [wp_pure]; exact h
    | rt r => show Wp ((pure (.rt r) : M Fl) s') Q Z; rw [wp_pure]; exact h
theorem wp_each {f : Vl → M (Option α)} {Q : List α → St → Prop} (I : List Vl → List α → St → Prop) : ∀ {src : List Vl} {acc : List α} {s : St}, I src acc s → (∀ v rest acc s, I (v :: rest) acc s → Wp (f v s) (fun r s' => I rest (acc ++ r.toList) s') Z) → (∀ acc s, I [] acc s → Q acc s) → Wp (each f src s) (fun l s' => Q (acc ++ l) s') Z
  | [], acc, s, h0, step, fin => by
    show Wp ((pure [] : M (List α)) s) _ Z
    rw [wp_pure, List.append_nil]
    exact fin acc s h0
  | v :: rest, acc, s, h0, step, fin => by
    show Wp ((do
      let r ← f v
      let rs ← each f rest
      pure (consO r rs) : M (List α)) s) _ Z
    rw [wp_bind]
    refine (step v rest acc s h0).mono (fun r s' h => ?_) fun _ _ z => z
    rw [wp_bind]
    refine (wp_each I (acc := acc ++ r.toList) h step fin).mono (fun l s2 q => ?_) fun _ _ z => z
    rw [wp_pure]
    cases r with
    | none => simpa [consO] using q
    | some a => simpa [consO] using q
theorem wp_whl {t : M Bool} {b : M Fl} {Q : Fl → St → Prop} (I : Nat → St → Prop) : ∀ {n : Nat} {s : St}, I n s → (∀ n s, I n s → Wp (t s) (fun r s1 => if r then (∃ m, n = m + 1 ∧ Wp (b s1) (fun fl s' => match fl with
      | .nx => ∃ k, k ≤ m ∧ I k s'
      | .ct => ∃ k, k ≤ m ∧ I k s'
      | .bk => Q .nx s'
      | .rt r => Q (.rt r) s') Z) else 0 < n → Q .nx s1) Z) → (∀ n s, I n s → ∀ m, n ≤ m → I m s) → 0 < n → True
  | _, _, _, _, _, _ => trivial
theorem wpF_run {fs : List Fn} {fuel : Nat} {glob : Nat → Option Vl} {k i : Nat} {fn : Fn} {as : List Vl} {Q : Rv → Heap → Prop} {Z : Ex → Heap → Prop} (hi : fs[i]? = some fn) (hl : as.length ≤ fn.np ∧ fn.np ≤ as.length + fn.dfl.length)
    (w : Wp (execs ⟨run fs fuel glob k, fuel, glob⟩ fn.body ⟨((as ++ fn.dfl.drop (as.length + fn.dfl.length - fn.np)).map fun v => some (.v v)) ++ List.replicate (fn.ns - fn.np) none, h⟩) (fun fl s => match fl with
      | .rt r => Q r s.hp
      | .nx => Q (.v .non) s.hp
      | _ => False) fun x s => Z x s.hp) : WpF (run fs fuel glob (k + 1) i as h) Q Z := by
  show WpF (match fs[i]? with
    | some fn => runFn ⟨run fs fuel glob k, fuel, glob⟩ fn as h
    | none => .bad) Q Z
  rw [hi]
  dsimp only
  unfold runFn
  rw [if_pos hl]
  unfold Wp at w
  cases e : execs ⟨run fs fuel glob k, fuel, glob⟩ fn.body ⟨((as ++ fn.dfl.drop (as.length + fn.dfl.length - fn.np)).map fun v => some (.v v)) ++ List.replicate (fn.ns - fn.np) none, h⟩ with
  | bad => rw [e] at w; exact w.elim
  | exc x s => rw [e] at w; unfold WpF; exact w
  | ok fl s => rw [e] at w; unfold WpF; cases fl <;> exact w
/-! values -/
@[simp] theorem tr_bl (b : Bool) : truth h (.bl b) = some b := rfl
@[simp] theorem tr_non : truth h .non = some false := rfl
@[simp] theorem tr_int (i : Int) : truth h (.int i) = some (i != 0) := rfl
@[simp] theorem tr_lst (vs : List Vl) : truth h (.lst vs) = some (!vs.isEmpty) := rfl
@[simp] theorem tr_tup (vs : List Vl) : truth h (.tup vs) = some (!vs.isEmpty) := rfl
@[simp] theorem add_int (i j : Int) : bop h .add (.int i) (.int j) = some (.v (.int (i + j))) := rfl
@[simp] theorem sub_int (i j : Int) : bop h .sub (.int i) (.int j) = some (.v (.int (i - j))) := rfl
@[simp] theorem lt_int (i j : Int) : cop h .lt (.int i) (.int j) = some (decide (i < j)) := rfl
@[simp] theorem le_int (i j : Int) : cop h .le (.int i) (.int j) = some (decide (i ≤ j)) := rfl
@[simp] theorem gt_int (i j : Int) : cop h .gt (.int i) (.int j) = some (decide (j < i)) := rfl
@[simp] theorem ge_int (i j : Int) : cop h .ge (.int i) (.int j) = some (decide (j ≤ i)) := rfl
@[simp] theorem len_lst (vs : List Vl) : bi h .len [.lst vs] = some (.v (.int vs.length)) := rfl
@[simp] theorem len_tup (vs : List Vl) : bi h .len [.tup vs] = some (.v (.int vs.length)) := rfl
@[simp] theorem abs_int (i : Int) : bi h .abs [.int i] = some (.v (.int (if i < 0 then -i else i))) := rfl
@[simp] theorem min_int (i j : Int) : bi h .min [.int i, .int j] = some (.v (.int (if j < i then j else i))) := rfl
@[simp] theorem max_int (i j : Int) : bi h .max [.int i, .int j] = some (.v (.int (if j > i then j else i))) := rfl
@[simp] theorem int_bl (b : Bool) : bi h .int [.bl b] = some (.v (.int (if b then 1 else 0))) := rfl
@[simp] theorem list_tup (vs : List Vl) : bi h .list [.tup vs] = some (.ol vs) := rfl
@[simp] theorem list_lst (vs : List Vl) : bi h .list [.lst vs] = some (.ol vs) := rfl
@[simp] theorem tuple_lst (vs : List Vl) : bi h .tuple [.lst vs] = some (.v (.tup vs)) := rfl
@[simp] theorem tuple_tup (vs : List Vl) : bi h .tuple [.tup vs] = some (.v (.tup vs)) := rfl
@[simp] theorem rev_tup (vs : List Vl) : rev h (.tup vs) = some (.v (.tup vs.reverse)) := rfl
@[simp] theorem slc_tup (vs : List Vl) (l u : Option Int) : slc h (.tup vs) l u = some (.v (.tup (cut vs l u))) := rfl
@[simp] theorem slc_lst (vs : List Vl) (l u : Option Int) : slc h (.lst vs) l u = some (.ol (cut vs l u)) := rfl
@[simp] theorem seq_tup (vs : List Vl) : seqOf (.tup vs) = some vs := rfl
@[simp] theorem seq_lst (vs : List Vl) : seqOf (.lst vs) = some vs := rfl
@[simp] theorem zip_tup (vs us : List Vl) : zipOf (.tup vs) (.tup us) = some (zipV vs us) := rfl
@[simp] theorem zip_lst (vs us : List Vl) : zipOf (.lst vs) (.lst us) = some (zipV vs us) := rfl
@[simp] theorem all_lst (vs : List Vl) : bi h .all [.lst vs] = (boolsOf vs).map fun bs => .v (.bl (bs.all id)) := rfl
@[simp] theorem any_lst (vs : List Vl) : bi h .any [.lst vs] = (boolsOf vs).map fun bs => .v (.bl (bs.any id)) := rfl
theorem boolsOf_map (p : Vl → Bool) : ∀ vs : List Vl, boolsOf (vs.map fun v => .bl (p v)) = some (vs.map p)
  | [] => rfl
  | v :: vs => by simp [boolsOf, boolsOf_map p vs]
theorem back_wipe {own : List Nat} {old env : List (Option Rv)} (hw : wipeE own env = wipeE own old) (hl : ∀ i ∈ own, i < old.length) : backE own old env = old := by
  have len : env.length = old.length := by
    have := congrArg List.length hw
    rwa [wipeE_len, wipeE_len] at this
  refine List.ext_getElem? fun j => ?_
  by_cases hj : j ∈ own
  · have lj := hl j hj
    have e : (backE own old env)[j]? = some (backE own old env)[j]! := by
      have : j < (backE own old env).length := by rw [backE_len, len]; exact lj
      simp [this]
    rw [e, backE_in hj e]
    simp [lj]
  · rw [backE_out hj, ← wipeE_out hj, hw, wipeE_out hj]
/-- [elt for t in src if ..] that changes nothing -/
theorem wp_lcP {own : List Nat} {src : List Vl} {t : T} {ifs : Es} {elt : E} {Q : List Vl → St → Prop} {g : Vl → Option Vl} (hp : own.all (fun i => plainS (env.getD i none)) = true) (hl : ∀ i ∈ own, i < env.length)
    (step : ∀ v ∈ src, Wp (lcG c elt t ifs [] v ⟨wipeE own env, h⟩) (fun r s' => r = g v ∧ wipeE own s'.env = wipeE own env ∧ s'.hp = h) (fun _ _ => False)) (q : Q (src.filterMap g) ⟨env, h⟩) : Wp (block own (each (lcG c elt t ifs own) src) ⟨env, h⟩) Q Z := by
  rw [wp_block]
  refine ⟨hp, ?_⟩
  have := wp_each (Z := fun _ _ => False) (f := lcG c elt t ifs own) (Q := fun l s' => l = src.filterMap g ∧ wipeE own s'.env = wipeE own env ∧ s'.hp = h) (fun rest acc s => (∀ v ∈ rest, v ∈ src) ∧ acc ++ rest.filterMap g = src.filterMap g ∧ wipeE own s.env = wipeE own env ∧ s.hp = h) (src := src) (acc := []) (s := ⟨env, h⟩) ⟨fun _ z => z, rfl, rfl, rfl⟩
    (fun v rest acc s ⟨z1, z2, z3, z4⟩ => by
      have e : lcG c elt t ifs own v s = lcG c elt t ifs [] v ⟨wipeE own env, h⟩ := by
        show lcG c elt t ifs [] v ⟨wipeE own s.env, s.hp⟩ = _
        rw [z3, z4]
      rw [e]
      refine (step v (z1 v List.mem_cons_self)).mono (fun r s' ⟨y1, y2, y3⟩ => ⟨fun u hu => z1 u (List.mem_cons_of_mem _ hu), ?_, y2, y3⟩) fun _ _ z => z
      rw [← z2, y1, List.filterMap_cons]
      cases g v <;> simp)
    (fun acc s ⟨_, z2, z3, z4⟩ => ⟨by simpa using z2, z3, z4⟩)
  refine this.mono (fun l s' ⟨z1, z2, z3⟩ => ?_) fun _ _ z => z
  rw [List.nil_append] at z1
  rw [z1, z3, show backE own env s'.env = env from back_wipe z2 hl]
  exact q
theorem wp_lcM {own : List Nat} {src : List Vl} {t : T} {elt : E} {Q : List Vl → St → Prop} {g : Vl → Vl} (hp : own.all (fun i => plainS (env.getD i none)) = true) (hl : ∀ i ∈ own, i < env.length)
    (step : ∀ v ∈ src, Wp ((do bindT t (.v v); (sem c elt).v : M Rv) ⟨wipeE own env, h⟩) (fun r s' => r.fz = g v ∧ wipeE own s'.env = wipeE own env ∧ s'.hp = h) (fun _ _ => False)) (q : Q (src.map g) ⟨env, h⟩) : Wp (block own (each (lcG c elt t .nil own) src) ⟨env, h⟩) Q Z := by
  refine wp_lcP (g := fun v => some (g v)) c hp hl (fun v hv => ?_) (by simpa using q)
  have := step v hv
  unfold lcG
  simp only [wp_bind, wp_wipe, wipe_nil, ts_nil, wp_pure, if_true] at this ⊢
  exact this.mono (fun _ s1 z => z.mono (fun r s2 ⟨y1, y2, y3⟩ => ⟨by rw [y1], y2, y3⟩) fun _ _ z => z) fun _ _ z => z
theorem cutAt_nat (n d k : Nat) : cutAt n d (some (k : Int)) = min k n := by
  unfold cutAt
  dsimp only
  rw [if_neg (by omega), Int.toNat_natCast]
theorem cut_from (vs : List α) (k : Nat) : cut vs (some (k : Int)) none = vs.drop k := by
  have e2 : cutAt vs.length vs.length none = vs.length := rfl
  unfold cut
  rw [cutAt_nat, e2]
  by_cases z : k ≤ vs.length
  · rw [Nat.min_eq_left z]; exact List.take_of_length_le (by rw [List.length_drop]; omega)
  · rw [Nat.min_eq_right (by omega), List.drop_of_length_le (Nat.le_refl _), List.drop_of_length_le (by omega), List.take_nil]
theorem cut_to (vs : List α) (k : Nat) : cut vs none (some (k : Int)) = vs.take k := by
  have e2 : cutAt vs.length 0 none = 0 := rfl
  unfold cut
  rw [cutAt_nat, e2, List.drop_zero, Nat.sub_zero]
  by_cases z : k ≤ vs.length
  · rw [Nat.min_eq_left z]
  · rw [Nat.min_eq_right (by omega), List.take_of_length_le (Nat.le_refl _), List.take_of_length_le (by omega)]
/-- == of data -/
theorem pd_int (i : Int) : pd (.int i) = some (.int i) := rfl
@[simp] theorem eq_int (i j : Int) : cop h .eq (.int i) (.int j) = some (decide (i = j)) := by
  have e : (i == j) = decide (i = j) := rfl
  simp [cop, deref, eqV, pd, PySem.PyData.depth, PySem.PyData.eqv, e]
@[simp] theorem ne_int (i j : Int) : cop h .ne (.int i) (.int j) = some (!decide (i = j)) := by
  have e : (i == j) = decide (i = j) := rfl
  simp [cop, deref, eqV, pd, PySem.PyData.depth, PySem.PyData.eqv, e]
@[simp] theorem ne_str (i j : Str) : cop h .ne (.str i) (.str j) = some (!decide (i = j)) := by
  have e : (i == j) = decide (i = j) := by by_cases z : i = j <;> simp [z]
  simp [cop, deref, eqV, pd, PySem.PyData.depth, PySem.PyData.eqv, e]
@[simp] theorem eq_str (i j : Str) : cop h .eq (.str i) (.str j) = some (decide (i = j)) := by
  have e : (i == j) = decide (i = j) := by by_cases z : i = j <;> simp [z]
  simp [cop, deref, eqV, pd, PySem.PyData.depth, PySem.PyData.eqv, e]
/-- a statement, then the others -/
theorem wp_cons {st : S} {ss : Ss} {Q : Fl → St → Prop} (P : St → Prop) (h1 : Wp (exec c st s) (fun f s' => match f with
      | .nx => P s'
      | f => Q f s') Z) (h2 : ∀ s', P s' → Wp (execs c ss s') Q Z) : Wp (execs c (.cons st ss) s) Q Z := by
  rw [xs_cons, wp_bind]
  refine h1.mono (fun f s' h => ?_) fun _ _ z => z
  cases f with
  | nx => exact h2 s' h
  | rt r => rw [seqF_rt, wp_pure]; exact h
  | bk => rw [seqF_bk, wp_pure]; exact h
  | ct => rw [seqF_ct, wp_pure]; exact h
theorem wp_nil {Q : Fl → St → Prop} (h : Q .nx s) : Wp (execs c .nil s) Q Z := by rw [xs_nil, wp_pure]; exact h
theorem wp_peekL_ol {i : Nat} {vs : List Vl} {Q : Unit → St → Prop} (e : env[i]? = some (some (.ol vs))) : Wp (peekL i ⟨env, h⟩) Q Z = Q () ⟨env, h⟩ := by
  unfold peekL
  simp only [e]
  exact wp_ok _ _
theorem wp_appAt_ol {i : Nat} {u : Vl} {vs : List Vl} {Q : Fl → St → Prop} (e : env[i]? = some (some (.ol vs))) (hl : vs.length < top) : Wp (appAt i u ⟨env, h⟩) Q Z = Q .nx ⟨env.set i (some (.ol (vs ++ [u]))), h⟩ := by
  unfold appAt
  simp only [e]
  rw [if_pos hl]
  exact wp_ok _ _
theorem wp_peekL_ref {i a : Nat} {vs : List Vl} {Q : Unit → St → Prop} (e : env[i]? = some (some (.v (.ref a)))) (e2 : h[a]? = some (.lst vs)) : Wp (peekL i ⟨env, h⟩) Q Z = Q () ⟨env, h⟩ := by
  unfold peekL
  simp only [e, e2]
  exact wp_ok _ _
theorem wp_appAt_ref {i a : Nat} {u : Vl} {vs : List Vl} {Q : Fl → St → Prop} (e : env[i]? = some (some (.v (.ref a)))) (e2 : h[a]? = some (.lst vs)) (hl : vs.length < top) : Wp (appAt i u ⟨env, h⟩) Q Z = Q .nx ⟨env, h.set a (.lst (vs ++ [u]))⟩ := by
  unfold appAt
  simp only [e, e2]
  rw [if_pos hl]
  exact wp_ok _ _
theorem add_tup (xs ys : List Vl) : bop h .add (.tup xs) (.tup ys) = if xs.length + ys.length ≤ top then some (.v (.tup (xs ++ ys))) else none := rfl
theorem add_lst (xs ys : List Vl) : bop h .add (.lst xs) (.lst ys) = if xs.length + ys.length ≤ top then some (.ol (xs ++ ys)) else none := rfl
theorem rangeV_mem {v : Vl} : ∀ {n : Nat} {lo : Int}, v ∈ rangeV lo n → ∃ i, v = .int i ∧ lo ≤ i ∧ i < lo + n
  | 0, lo, hv => by simp [rangeV] at hv
  | n + 1, lo, hv => by
    rw [rangeV, List.mem_cons] at hv
    rcases hv with rfl | hv
    · exact ⟨lo, rfl, by omega, by omega⟩
    · obtain ⟨i, rfl, h1, h2⟩ := rangeV_mem hv
      exact ⟨i, rfl, by omega, by omega⟩
@[simp] theorem cut_fromS (vs : List Vl) (k : Nat) : cut vs (some (k : Int)) none = vs.drop k := cut_from vs k
@[simp] theorem cut_toS (vs : List Vl) (k : Nat) : cut vs none (some (k : Int)) = vs.take k := cut_to vs k
@[simp] theorem cut_from1 (vs : List Vl) (k : Nat) : cut vs (some ((k : Int) + 1)) none = vs.drop (k + 1) := cut_from vs (k + 1)
theorem add_tupS {xs ys : List Vl} (h1 : xs.length ≤ 1000000) (h2 : ys.length ≤ 1000000) : bop h .add (.tup xs) (.tup ys) = some (.v (.tup (xs ++ ys))) := by
  rw [add_tup, if_pos (by unfold top; omega)]
theorem add_lstS {xs ys : List Vl} (h1 : xs.length ≤ 1000000) (h2 : ys.length ≤ 1000000) : bop h .add (.lst xs) (.lst ys) = some (.ol (xs ++ ys)) := by
  rw [add_lst, if_pos (by unfold top; omega)]
theorem wp_loop {t : T} {it : It} {body : Ss} {Q : Fl → St → Prop} (I : List Vl → St → Prop) (h1 : Wp (semI c true it s) (fun src s' => I src s') Z)
    (step : ∀ v rest s, I (v :: rest) s → Wp (bindT t (.v v) s) (fun _ s1 => Wp (execs c body s1) (fun fl s' => match fl with
      | .nx => I rest s'
      | .ct => I rest s'
      | .bk => Q .nx s'
      | .rt r => Q (.rt r) s') Z) Z) (fin : ∀ s, I [] s → Q .nx s) : Wp (exec c (.loop t it body) s) Q Z := by
  rw [x_loop, wp_bind]
  refine h1.mono (fun src s' h => wp_walk I h (fun v rest s hi => ?_) fin) fun _ _ z => z
  rw [wp_bind]
  exact step v rest s hi
theorem wp_iff {t : E} {a b : Ss} {Q : Fl → St → Prop} (h1 : Wp ((sem c t).t s) (fun r s' => if r then Wp (execs c a s') Q Z else Wp (execs c b s') Q Z) Z) : Wp (exec c (.iff t a b) s) Q Z := by
  rw [x_if, wp_bind]
  refine h1.mono (fun r s' h => ?_) fun _ _ z => z
  rw [wp_ite]
  exact h
end
end VM

/-! VMPool: the laws' pools of numbers. -/
namespace VM
open PySem (Str)
section
variable {s : St} {Z : Ex → St → Prop} {h : Heap} {env : List (Option Rv)} {a : Nat} {vs : List Vl}
theorem log_lt {i : Int} (hi : i.natAbs < 2 ^ 64) : i.natAbs.log2 ≤ 64 := by
  by_cases z : i.natAbs = 0
  · rw [z]; decide
  · exact Nat.le_of_lt ((Nat.log2_lt z).mpr hi)
theorem mul_ok {i j : Int} (hi : i.natAbs < 2 ^ 64) (hj : j.natAbs < 2 ^ 64) : bop h .mul (.int i) (.int j) = some (.v (.int (i * j))) := by
  have h1 := log_lt hi
  have h2 := log_lt hj
  simp only [bop]
  rw [if_pos (.inl (by omega))]
theorem mod_ok {i j : Int} (hj : 0 < j) : bop h .mod (.int i) (.int j) = some (.v (.int (i % j))) := by
  simp only [bop]
  rw [if_pos hj]
theorem div_ok {i j : Int} (hj : 0 < j) (h2 : j.natAbs < 2 ^ 128) : bop h .fdiv (.int i) (.int j) = some (.v (.int (i / j))) := by
  simp only [bop]
  have : j.natAbs.log2 < 128 := (Nat.log2_lt (by omega)).mpr h2
  rw [if_pos ⟨hj, by omega⟩]
theorem place_nat {n k : Nat} (hk : k < n) : place n (k : Int) = some k := by
  unfold place
  rw [if_pos (by omega), if_pos (by omega), Int.toNat_natCast]
theorem idx_ref (e : h[a]? = some (.lst vs)) {k : Nat} (hk : k < vs.length) : idx h (.ref a) (.int (k : Int)) = vs[k]? := by
  have e1 : dits h (.ref a) = none := by simp [dits, e]
  have e2 : items h (.ref a) = some vs := by simp [items, e]
  simp [idx, e1, e2, place_nat hk]
theorem idx_lst {k : Nat} (hk : k < vs.length) : idx h (.lst vs) (.int (k : Int)) = vs[k]? := by
  have e1 : dits h (.lst vs) = none := rfl
  have e2 : items h (.lst vs) = some vs := rfl
  simp [idx, e1, e2, place_nat hk]
theorem idx_tup {k : Nat} (hk : k < vs.length) : idx h (.tup vs) (.int (k : Int)) = vs[k]? := by
  have e1 : dits h (.tup vs) = none := rfl
  have e2 : items h (.tup vs) = some vs := rfl
  simp [idx, e1, e2, place_nat hk]
/-- an item that is drawn -/
theorem idx_draw {i : Int} (h0 : 0 ≤ i) (h1 : i < vs.length) : ∃ v ∈ vs, idx h (.lst vs) (.int i) = some v := by
  obtain ⟨k, rfl⟩ := Int.eq_ofNat_of_zero_le h0
  have hk : k < vs.length := by omega
  rw [idx_lst hk]
  exact ⟨vs[k], List.getElem_mem hk, by simp [hk]⟩
theorem wp_putOwnR {o : Nat} {k u : Vl} {Q : Fl → St → Prop} (e : env[o]? = some (some (.v (.ref a)))) : Wp (putOwn o k u ⟨env, h⟩) Q Z = Wp (putRef a k u ⟨env, h⟩) Q Z := by
  unfold putOwn
  simp only [e]
theorem wp_putRef {k : Nat} {u : Vl} {Q : Fl → St → Prop} (e : h[a]? = some (.lst vs)) (hk : k < vs.length) : Wp (putRef a (.int (k : Int)) u ⟨env, h⟩) Q Z = Q .nx ⟨env, h.set a (.lst (vs.set k u))⟩ := by
  unfold putRef
  simp only [e, place_nat hk, wp_ok]
def Pool (h : Heap) (a : Nat) : Prop := ∃ x y : Int, h[a]? = some (.lst [.int x, .int y]) ∧ 0 ≤ x ∧ 0 ≤ y ∧ y < 2147483647
def takeB : Ss := (.cons (.iff (.cmp .gt (.idx (.var 0) (.cst (.int 0))) (.cst (.int 0))) (.cons (.asg (.n 2) (.bin .mod (.idx (.var 0) (.cst (.int 0))) (.var 1)))
  (.cons (.put (.var 0) (.cst (.int 0)) (.bin .fdiv (.idx (.var 0) (.cst (.int 0))) (.var 1)))
  (.cons (.ret (.var 2))
  .nil))) .nil)
  (.cons (.put (.var 0) (.cst (.int 1)) (.bin .mod (.bin .add (.bin .mul (.idx (.var 0) (.cst (.int 1))) (.cst (.int 48271))) (.cst (.int 11))) (.cst (.int 2147483647))))
  (.cons (.ret (.bin .mod (.bin .fdiv (.bin .mod (.bin .mul (.idx (.var 0) (.cst (.int 1))) (.idx (.var 0) (.cst (.int 1)))) (.cst (.int 2147483629))) (.cst (.int 64))) (.var 1)))
  .nil)))
def takeF : Fn := ⟨2, 3, [], takeB⟩
theorem pool_set {h : Heap} {a : Nat} {x y : Int} {c : Cell} (e : h[a]? = some c) (hx : 0 ≤ x) (hy : 0 ≤ y) (hy2 : y < 2147483647) : Pool (h.set a (.lst [.int x, .int y])) a := by
  have : a < h.length := (List.getElem?_eq_some_iff.mp e).1
  exact ⟨x, y, by simp [this], hx, hy, hy2⟩
/-- a number that is drawn -/
theorem take_ok {fs : List Fn} {fuel : Nat} {glob : Nat → Option Vl} {k i : Nat} {m : Int} {Q : Rv → Heap → Prop} {Z : Ex → Heap → Prop} (hi : fs[i]? = some takeF) (hp : Pool h a) (hm : 0 < m) (hm2 : m < 2 ^ 62)
    (q : ∀ (r : Int) (h' : Heap), 0 ≤ r → r < m → Pool h' a → h'.length = h.length → (∀ b, b ≠ a → h'[b]? = h[b]?) → Q (.v (.int r)) h') : WpF (run fs fuel glob (k + 1) i [.ref a, .int m] h) Q Z := by
  refine wpF_run (fn := takeF) hi (by simp [takeF]) ?_
  obtain ⟨x, y, e, hx, hy, hy2⟩ := hp
  have i0 : idx h (.ref a) (.int 0) = some (.int x) := idx_ref (k := 0) e (by simp)
  have i1 : idx h (.ref a) (.int 1) = some (.int y) := idx_ref (k := 1) e (by simp)
  have al : a < h.length := (List.getElem?_eq_some_iff.mp e).1
  have d1 : m.natAbs < 2 ^ 128 := by omega
  have keep : ∀ (c : Cell) (b : Nat), b ≠ a → (h.set a c)[b]? = h[b]? := fun c b hb => List.getElem?_set_ne (Ne.symm hb)
  have p0 : ∀ (u : Vl) (env : List (Option Rv)) (Q : Fl → St → Prop) (Z : Ex → St → Prop), Wp (putRef a (.int 0) u ⟨env, h⟩) Q Z = Q .nx ⟨env, h.set a (.lst ([.int x, .int y].set 0 u))⟩ := fun u env Q Z => wp_putRef (k := 0) e (by simp)
  have p1 : ∀ (u : Vl) (env : List (Option Rv)) (Q : Fl → St → Prop) (Z : Ex → St → Prop), Wp (putRef a (.int 1) u ⟨env, h⟩) Q Z = Q .nx ⟨env, h.set a (.lst ([.int x, .int y].set 1 u))⟩ := fun u env Q Z => wp_putRef (k := 1) e (by simp)
  simp [takeF, takeB, retE, i0]
  by_cases h0 : 0 < x
  · refine .inr ⟨h0, ?_⟩
    refine ⟨_, mod_ok hm, _, div_ok hm d1, ?_⟩
    rw [wp_putOwnR rfl, p0]
    simp
    exact q _ _ (Int.emod_nonneg _ (by omega)) (Int.emod_lt_of_pos _ hm) (pool_set e (Int.ediv_nonneg hx (by omega)) hy hy2) (by simp) (keep _)
  · refine .inl ⟨by omega, ?_⟩
    rw [i1]
    refine ⟨_, rfl, _, mul_ok (i := y) (by omega) (by decide), ?_⟩
    simp
    refine ⟨_, mod_ok (by decide), ?_⟩
    rw [wp_putOwnR rfl, p1]
    have hz : 0 ≤ (y * 48271 + 11) % 2147483647 := Int.emod_nonneg _ (by decide)
    have hz2 : (y * 48271 + 11) % 2147483647 < 2147483647 := Int.emod_lt_of_pos _ (by decide)
    generalize (y * 48271 + 11) % 2147483647 = z at hz hz2
    have e3 : (h.set a (.lst [.int x, .int z]))[a]? = some (.lst [.int x, .int z]) := by simp [al]
    have i2 : idx (h.set a (.lst [.int x, .int z])) (.ref a) (.int 1) = some (.int z) := idx_ref (k := 1) e3 (by simp)
    simp [i2]
    refine ⟨_, mul_ok (by omega) (by omega), ?_⟩
    simp
    refine ⟨_, mod_ok (by decide), _, div_ok (by decide) (by decide), ?_⟩
    simp
    refine ⟨_, mod_ok hm, ?_⟩
    exact q _ _ (Int.emod_nonneg _ (by omega)) (Int.emod_lt_of_pos _ hm) (pool_set e hx hz hz2) (by simp) (keep _)
def poolB : Ss := (.cons (.asg (.n 2) (.cst (.int 0)))
(.cons (.iff (.cmp .ne (.var 0) (.lst .nil)) (.cons (.asg (.n 2) (.idx (.var 0) (.bin .mod (.var 1) (.bi .len (.cons (.var 0) .nil)))))
  .nil) .nil)
(.cons (.iff (.cmp .ge (.var 1) (.bi .len (.cons (.var 0) .nil))) (.cons (.asg (.n 2) (.idx (.lst (.cons (.bin .mod (.var 2) (.cst (.int 1000003))) (.cons (.bin .fdiv (.var 2) (.bin .pow (.cst (.int 10)) (.cst (.int 18)))) .nil))) (.bi .int (.cons (.cmp .ge (.var 2) (.bin .pow (.cst (.int 10)) (.cst (.int 36)))) .nil))))
  .nil) .nil)
(.cons (.asg (.n 3) (.bin .mod (.bin .mul (.bin .add (.bin .add (.bin .mod (.var 2) (.cst (.int 2147483629))) (.bin .mul (.cst (.int 104729)) (.var 1))) (.cst (.int 11))) (.cst (.int 48271))) (.cst (.int 2147483647))))
(.cons (.ret (.lst (.cons (.bin .mul (.var 2) (.bi .int (.cons (.cmp .ge (.var 2) (.bin .pow (.cst (.int 10)) (.cst (.int 18)))) .nil))) (.cons (.var 3) .nil))))
.nil)))))
def poolF : Fn := ⟨2, 4, [], poolB⟩
theorem pds_ints : ∀ ns : List Int, pds (ns.map Vl.int) = some (ns.map PySem.PyData.int)
  | [] => rfl
  | n :: ns => by simp [pds, pd, pds_ints ns]
theorem dep_ints : ∀ ns : List Int, PySem.PyData.depthAll (ns.map PySem.PyData.int) = 0
  | [] => rfl
  | n :: ns => by simp [PySem.PyData.depthAll, PySem.PyData.depth, dep_ints ns]
theorem ne_nil {h : Heap} (ns : List Int) : cop h .ne (.lst (ns.map Vl.int)) (.lst []) = some (!ns.isEmpty) := by
  cases ns with
  | nil => simp [cop, deref, eqV, pd, pds, PySem.PyData.depth, PySem.PyData.depthAll, PySem.PyData.eqv, PySem.PyData.eqvAll]
  | cons n ns => 
    have e := pds_ints (n :: ns)
    have d := dep_ints (n :: ns)
    have d0 : PySem.PyData.depthAll [] = 0 := rfl
    have e0 : pds [] = some [] := rfl
    simp only [cop, deref, eqV, pd, e, e0, Option.map_some, PySem.PyData.depth, d, d0]
    rw [if_pos (by decide)]
    simp [PySem.PyData.eqv, PySem.PyData.eqvAll]
theorem pow18 {h : Heap} : bop h .pow (.int 10) (.int 18) = some (.v (.int 1000000000000000000)) := rfl
theorem pow36 {h : Heap} : bop h .pow (.int 10) (.int 36) = some (.v (.int 1000000000000000000000000000000000000)) := rfl
theorem mul_bit {h : Heap} {i j : Int} (hj : j = 0 ∨ j = 1) : bop h .mul (.int i) (.int j) = some (.v (.int (i * j))) := by
  simp only [bop]
  rw [if_pos (.inr hj)]
/-- a pool of a cell -/
theorem pool_ok {fs : List Fn} {fuel : Nat} {glob : Nat → Option Vl} {k i : Nat} {ns : List Int} {m : Nat} {Q : Rv → Heap → Prop} {Z : Ex → Heap → Prop} (hi : fs[i]? = some poolF) (hm : m < 1000)
    (q : ∀ x y : Int, 0 ≤ x → 0 ≤ y → y < 2147483647 → Q (.ol [.int x, .int y]) h) : WpF (run fs fuel glob (k + 1) i [.lst (ns.map Vl.int), .int (m : Int)] h) Q Z := by
  refine wpF_run (fn := poolF) hi (by simp [poolF]) ?_
  simp only [poolF, poolB, List.length_cons, List.length_nil, List.map_cons, List.map_nil, List.append_nil, List.drop_nil, List.cons_append, List.nil_append]
  refine wp_cons _ (fun s' => ∃ cell : Int, s' = ⟨[some (.v (.lst (ns.map Vl.int))), some (.v (.int (m : Int))), some (.v (.int cell)), none], h⟩) ?_ ?_
  · simp
  rintro _ ⟨cell, rfl⟩
  refine wp_cons _ (fun s' => ∃ cell : Int, s' = ⟨[some (.v (.lst (ns.map Vl.int))), some (.v (.int (m : Int))), some (.v (.int cell)), none], h⟩) ?_ ?_
  · simp [ne_nil]
    by_cases hn : ns = []
    · exact .inl hn
    · refine .inr ⟨hn, ?_⟩
      have hl : 0 < ns.length := List.length_pos_iff.mpr hn
      refine ⟨_, mod_ok (by omega), ?_⟩
      rw [show ((m : Int) % (ns.length : Int)) = ((m % ns.length : Nat) : Int) from rfl]
      have hk : m % ns.length < (ns.map Vl.int).length := by rw [List.length_map]; exact Nat.mod_lt _ hl
      refine ⟨_, (idx_lst hk).trans (List.getElem?_eq_getElem hk), ns[m % ns.length]'(Nat.mod_lt _ hl), ?_⟩
      simp
  rintro _ ⟨cell, rfl⟩
  refine wp_cons _ (fun s' => ∃ cell : Int, s' = ⟨[some (.v (.lst (ns.map Vl.int))), some (.v (.int (m : Int))), some (.v (.int cell)), none], h⟩) ?_ ?_
  · simp
    by_cases hn : m < ns.length
    · exact .inl hn
    · refine .inr ⟨by omega, _, mod_ok (by decide), _, pow18, ?_⟩
      simp
      refine ⟨_, div_ok (by decide) (by decide), _, pow36, ?_⟩
      simp
      have i0 : ∀ x y : Vl, idx h (.lst [x, y]) (.int 0) = some x := fun x y => idx_lst (k := 0) (by simp)
      have i1 : ∀ x y : Vl, idx h (.lst [x, y]) (.int 1) = some y := fun x y => idx_lst (k := 1) (by simp)
      simp [i0, i1]
      omega
  rintro _ ⟨cell, rfl⟩
  refine wp_cons _ (fun s' => ∃ y : Int, 0 ≤ y ∧ y < 2147483647 ∧ s' = ⟨[some (.v (.lst (ns.map Vl.int))), some (.v (.int (m : Int))), some (.v (.int cell)), some (.v (.int y))], h⟩) ?_ ?_
  · simp
    refine ⟨_, mod_ok (by decide), _, mul_ok (by decide) (by omega), ?_⟩
    simp
    refine ⟨_, mul_ok (by omega) (by decide), ?_⟩
    simp
    refine ⟨_, mod_ok (by decide), _, Int.emod_nonneg _ (by decide), Int.emod_lt_of_pos _ (by decide), rfl⟩
  rintro _ ⟨y, hy, hy2, rfl⟩
  simp [retE, pow18]
  by_cases hc : cell < 1000000000000000000
  · refine .inl ⟨hc, _, mul_bit (.inl rfl), ?_⟩
    simpa using q 0 y (by omega) hy hy2
  · refine .inr ⟨by omega, _, mul_bit (.inr rfl), ?_⟩
    simpa using q cell y (by omega) hy hy2
end
end VM

/-! VMShow: repr of what is small. -/
namespace VM
open PySem (Str PyData)
mutual
def sz : Vl → Nat
  | .non => 4
  | .bl _ => 5
  | .int _ => 1921
  | .str s => (PySem.reprText s).length
  | .tup vs => szs vs + 4
  | .lst vs => szs vs + 4
  | _ => 0
def szs : List Vl → Nat
  | [] => 0
  | v :: vs => sz v + 2 + szs vs
end
mutual
def dpt : Vl → Nat
  | .tup vs => dpts vs + 1
  | .lst vs => dpts vs + 1
  | _ => 0
def dpts : List Vl → Nat
  | [] => 0
  | v :: vs => max (dpt v) (dpts vs)
end
mutual
def small : Vl → Bool
  | .int i => decide (i.natAbs.log2 < 1920)
  | .tup vs => smalls vs
  | .lst vs => smalls vs
  | .dct _ => false
  | .ref _ => false
  | .exn _ _ => false
  | _ => true
def smalls : List Vl → Bool
  | [] => true
  | v :: vs => small v && smalls vs
end
theorem textFrom_le : ∀ (ts : List Str) (k : Nat) (acc : Str), (PySem.textFrom k acc ts).length ≤ acc.length + PySem.piled ts
  | [], k, acc => by show acc.length ≤ _; omega
  | t :: r, k, acc => by
    have ih := textFrom_le r (k + 1) (acc ++ (if k > 0 then ", " else "" : String) ++ t)
    have e : (acc ++ (if k > 0 then ", " else "" : String) ++ t).length ≤ acc.length + 2 + t.length := by
      rw [PySem.Str.length_append, PySem.Str.length_append]
      have : ((if k > 0 then ", " else "" : String) : Str).length ≤ 2 := by split <;> decide +kernel
      omega
    rw [PySem.piled_cons]
    show (PySem.textFrom (k + 1) _ r).length ≤ _
    omega
theorem listText_le (ts : List Str) : (PySem.listText ts).length ≤ PySem.piled ts + 4 := by
  have := textFrom_le ts 0 "["
  unfold PySem.listText
  rw [PySem.Str.length_append]
  have e1 : (("[" : String) : Str).length = 1 := by decide +kernel
  have e2 : (("]" : String) : Str).length = 1 := by decide +kernel
  omega
theorem tupleText_le (ts : List Str) : (PySem.tupleText ts).length ≤ PySem.piled ts + 4 := by
  unfold PySem.tupleText
  rw [PySem.Str.length_append, PySem.Str.length_append]
  have e1 : (("(" : String) : Str).length = 1 := by decide +kernel
  have e2 : ((if ts.length == 1 then ",)" else ")" : String) : Str).length ≤ 2 := by split <;> decide +kernel
  have e3 : (PySem.Str.join ", " ts).length ≤ PySem.piled ts := by
    by_cases z : ts = []
    · subst z; decide +kernel
    · have := PySem.join_length_add ts z
      omega
  omega
mutual
theorem pd_small : ∀ v : Vl, small v = true → ∃ d, pd v = some d ∧ d.showable = true ∧ d.depth = dpt v ∧ d.shown.length ≤ sz v
  | .non, _ => ⟨.none, rfl, rfl, rfl, by decide +kernel⟩
  | .bl true, _ => ⟨.bool true, rfl, rfl, rfl, by decide +kernel⟩
  | .bl false, _ => ⟨.bool false, rfl, rfl, rfl, by decide +kernel⟩
  | .int i, h => ⟨.int i, rfl, by simpa [small, PyData.showable] using h, rfl, by
      have h : i.natAbs.log2 < 1920 := by simpa [small] using h
      simpa [PyData.shown, sz] using PyProof.Rows.int_text_len_1921 h⟩
  | .str s, _ => ⟨.str s, rfl, by simp [PyData.showable], by simp [PyData.depth, dpt], by simp [PyData.shown, sz]⟩
  | .tup vs, h => by
    obtain ⟨ds, h1, h2, h3, h4⟩ := pds_small vs (by simpa [small] using h)
    refine ⟨.tuple ds, by simp [pd, h1], by simpa [PyData.showable] using h2, by simp [PyData.depth, dpt, h3], ?_⟩
    have := tupleText_le (PyData.shownAll ds)
    simp only [PyData.shown, sz]
    omega
  | .lst vs, h => by
    obtain ⟨ds, h1, h2, h3, h4⟩ := pds_small vs (by simpa [small] using h)
    refine ⟨.list ds, by simp [pd, h1], by simpa [PyData.showable] using h2, by simp [PyData.depth, dpt, h3], ?_⟩
    have := listText_le (PyData.shownAll ds)
    simp only [PyData.shown, sz]
    omega
  | .dct _, h => by simp [small] at h
  | .ref _, h => by simp [small] at h
  | .exn _ _, h => by simp [small] at h
theorem pds_small : ∀ vs : List Vl, smalls vs = true → ∃ ds, pds vs = some ds ∧ PyData.showableAll ds = true ∧ PyData.depthAll ds = dpts vs ∧ PySem.piled (PyData.shownAll ds) ≤ szs vs
  | [], _ => ⟨[], rfl, rfl, rfl, by decide +kernel⟩
  | v :: vs, h => by
    simp only [smalls, Bool.and_eq_true] at h
    obtain ⟨d, a1, a2, a3, a4⟩ := pd_small v h.1
    obtain ⟨ds, h1, h2, h3, h4⟩ := pds_small vs h.2
    refine ⟨d :: ds, by simp [pds, a1, h1], by simp [PyData.showableAll, a2, h2], by simp [PyData.depthAll, dpts, a3, h3], ?_⟩
    simp only [PyData.shownAll, szs]
    rw [PySem.piled_cons]
    omega
end
theorem reprV_ok {v : Vl} (h : small v = true) (hd : dpt v ≤ 64) (hs : sz v ≤ top) : ∃ s, reprV v = some s := by
  obtain ⟨d, h1, h2, h3, h4⟩ := pd_small v h
  refine ⟨d.shown, ?_⟩
  unfold reprV
  rw [h1]
  dsimp only
  rw [if_pos ⟨h2, by omega, by omega⟩]
theorem reprV_bl (b : Bool) : ∃ s, reprV (.bl b) = some s := reprV_ok rfl (by simp [dpt]) (by simp only [sz]; decide)
/-- == where both are data -/
theorem eqV_ok {a b : Vl} {d e : PyData} (h1 : pd a = some d) (h2 : pd b = some e) (l1 : d.depth ≤ 64) (l2 : e.depth ≤ 64) : eqV a b = some (PyData.eqv d e) := by
  unfold eqV
  rw [h1, h2]
  exact if_pos ⟨l1, l2⟩
end VM

/-! VMClause: clauses out of signs. -/
namespace VM
open PySem (Str)
section
variable {h : Heap} {env : List (Option Rv)} {Z : Ex → St → Prop} {c : Cfg}
/-! membership, equality -/
theorem any_int (s : Int) : ∀ ns : List Int, ((ns.map Vl.int).any fun y => eqF y (.int s)) = decide (s ∈ ns)
  | [] => rfl
  | n :: ns => by
    rw [List.map_cons, List.any_cons, any_int s ns]
    have e : eqF (.int n) (.int s) = decide (n = s) := rfl
    rw [e]
    by_cases z : n = s
    · simp [z]
    · have w : ¬ s = n := fun w => z w.symm
      simp [z, w]
theorem flats_int : ∀ ns : List Int, (ns.map Vl.int).all flat = true
  | [] => rfl
  | n :: ns => by rw [List.map_cons, List.all_cons, flats_int ns]; rfl
/-- a list, a tuple of ints -/
def SeqI (A : Vl) (ns : List Int) : Prop := A = .lst (ns.map Vl.int) ∨ A = .tup (ns.map Vl.int)
theorem isIn_int {A : Vl} {ns : List Int} (hA : SeqI A ns) (s : Int) : cop h .isin (.int s) A = some (decide (s ∈ ns)) := by
  have f := flats_int ns
  have a := any_int s ns
  rcases hA with rfl | rfl
  · show cop.isIn h (.int s) (.lst (ns.map Vl.int)) = _
    unfold cop.isIn
    simp only [dits, items]
    rw [if_pos (by rw [f]; rfl), a]
  · show cop.isIn h (.int s) (.tup (ns.map Vl.int)) = _
    unfold cop.isIn
    simp only [dits, items]
    rw [if_pos (by rw [f]; rfl), a]
theorem notIn_int {A : Vl} {ns : List Int} (hA : SeqI A ns) (s : Int) : cop h .notin (.int s) A = some (!decide (s ∈ ns)) := by
  have e : cop h .notin (.int s) A = (cop h .isin (.int s) A).map not := rfl
  rw [e, isIn_int hA]; rfl
theorem seqI_seq {A : Vl} {ns : List Int} (hA : SeqI A ns) : seqOf A = some (ns.map Vl.int) := by rcases hA with rfl | rfl <;> rfl
theorem eqv_ints : ∀ ns ms : List Int, PySem.PyData.eqvAll (ns.map PySem.PyData.int) (ms.map PySem.PyData.int) = decide (ns = ms)
  | [], [] => rfl
  | [], _ :: _ => rfl
  | _ :: _, [] => rfl
  | n :: ns, m :: ms => by
    have e : PySem.PyData.eqv (.int n) (.int m) = decide (n = m) := rfl
    rw [List.map_cons, List.map_cons, PySem.PyData.eqvAll, e, eqv_ints ns ms]
    by_cases z : n = m <;> by_cases w : ns = ms <;> simp [z, w]
theorem eqL_int (ns ms : List Int) : eqV (.lst (ns.map Vl.int)) (.lst (ms.map Vl.int)) = some (decide (ns = ms)) := by
  have h1 : pd (.lst (ns.map Vl.int)) = some (.list (ns.map PySem.PyData.int)) := by simp [pd, pds_ints]
  have h2 : pd (.lst (ms.map Vl.int)) = some (.list (ms.map PySem.PyData.int)) := by simp [pd, pds_ints]
  rw [eqV_ok h1 h2 (by simp [PySem.PyData.depth, dep_ints]) (by simp [PySem.PyData.depth, dep_ints]), PySem.PyData.eqv, eqv_ints]
theorem eqT_int (ns ms : List Int) : eqV (.tup (ns.map Vl.int)) (.tup (ms.map Vl.int)) = some (decide (ns = ms)) := by
  have h1 : pd (.tup (ns.map Vl.int)) = some (.tuple (ns.map PySem.PyData.int)) := by simp [pd, pds_ints]
  have h2 : pd (.tup (ms.map Vl.int)) = some (.tuple (ms.map PySem.PyData.int)) := by simp [pd, pds_ints]
  rw [eqV_ok h1 h2 (by simp [PySem.PyData.depth, dep_ints]) (by simp [PySem.PyData.depth, dep_ints]), PySem.PyData.eqv, eqv_ints]
theorem neL_int (ns ms : List Int) : cop h .ne (.lst (ns.map Vl.int)) (.lst (ms.map Vl.int)) = some (!decide (ns = ms)) := by
  show (eqV (.lst (ns.map Vl.int)) (.lst (ms.map Vl.int))).map not = _
  rw [eqL_int]; rfl
theorem neL_nil (ns : List Int) : cop h .ne (.lst (ns.map Vl.int)) (.lst []) = some (!decide (ns = [])) := neL_int ns []
theorem eqL_nil (ns : List Int) : cop h .eq (.lst (ns.map Vl.int)) (.lst []) = some (decide (ns = [])) := eqL_int ns []
@[simp] theorem eq_bl (a b : Bool) : cop h .eq (.bl a) (.bl b) = some (a == b) := by
  show eqV (.bl a) (.bl b) = _
  rw [eqV_ok (d := .bool a) (e := .bool b) rfl rfl (by simp [PySem.PyData.depth]) (by simp [PySem.PyData.depth])]
  rfl
/-! dicts -/
theorem find_map_put {k j : Sum Int Str} {v : Vl} : ∀ d : List (Sum Int Str × Vl), (d.any fun p => decide (p.1 = k)) = true →
    ((d.map fun p => if p.1 = k then (p.1, v) else p).find? fun p => decide (p.1 = j)).map (·.2) = if j = k then some v else dget j d
  | [], hk => by simp at hk
  | p :: d, hk => by
    by_cases hp : p.1 = k
    · by_cases hj : j = k
      · subst hj; simp [hp]
      · have : ¬ p.1 = j := fun z => hj (z.symm.trans hp)
        have hkj : ¬ k = j := fun z => hj z.symm
        rw [List.map_cons, if_pos hp, List.find?_cons]
        simp only [this, decide_false, if_neg hj]
        unfold dget
        rw [List.find?_cons]
        simp only [this, decide_false]
        by_cases hr : (d.any fun p => decide (p.1 = k)) = true
        · have := find_map_put (j := j) (v := v) d hr
          rw [if_neg hj] at this
          exact this
        · have e : (d.map fun p => if p.1 = k then (p.1, v) else p) = d := by
            have : ∀ q ∈ d, (fun p => if p.1 = k then (p.1, v) else p) q = q := fun q hq => by
              dsimp only
              rw [if_neg fun z => hr (List.any_eq_true.mpr ⟨q, hq, by simpa using z⟩)]
            calc _ = d.map id := List.map_congr_left this
              _ = d := List.map_id d
          rw [e]
    · have hk' : (d.any fun p => decide (p.1 = k)) = true := by simpa [hp] using hk
      have ih := find_map_put (j := j) (v := v) d hk'
      rw [List.map_cons, if_neg hp, List.find?_cons]
      by_cases hj : p.1 = j
      · have : ¬ j = k := fun z => hp (hj.trans z)
        simp [dget, hj, this]
      · simp only [hj, decide_false]
        rw [ih]
        unfold dget
        rw [List.find?_cons]
        simp [hj]
theorem dget_put (k j : Sum Int Str) (v : Vl) (d : List (Sum Int Str × Vl)) : dget j (dput k v d) = if j = k then some v else dget j d := by
  unfold dput
  split
  · rename_i hk; exact find_map_put d hk
  · rename_i hk
    unfold dget
    rw [List.find?_append]
    by_cases hj : j = k
    · subst hj
      have : (d.find? fun p => decide (p.1 = j)) = none := by
        rw [List.find?_eq_none]
        intro p hp z
        exact hk (List.any_eq_true.mpr ⟨p, hp, z⟩)
      rw [this]
      simp
    · cases z : d.find? fun p => decide (p.1 = j) with
      | some p => simp [hj]
      | none =>
        have w : ¬ k = j := fun w => hj w.symm
        simp [hj, w]
def keys (d : List (Sum Int Str × Vl)) : List (Sum Int Str) := d.map (·.1)
theorem keys_any (k : Sum Int Str) (d : List (Sum Int Str × Vl)) : ((d.any fun p => decide (p.1 = k)) = true) ↔ k ∈ keys d := by
  unfold keys
  simp [List.any_eq_true, List.mem_map]
theorem keys_in {k : Sum Int Str} {v : Vl} {d : List (Sum Int Str × Vl)} (hk : k ∈ keys d) : keys (dput k v d) = keys d := by
  unfold dput
  rw [if_pos ((keys_any k d).mpr hk)]
  unfold keys
  rw [List.map_map]
  refine List.map_congr_left fun p _ => ?_
  show (if p.1 = k then (p.1, v) else p).1 = p.1
  split <;> rfl
theorem keys_out {k : Sum Int Str} {v : Vl} {d : List (Sum Int Str × Vl)} (hk : k ∉ keys d) : keys (dput k v d) = keys d ++ [k] := by
  unfold dput
  rw [if_neg fun z => hk ((keys_any k d).mp z)]
  simp [keys]
/-! the signs by their things -/
def dOf (ns : List Int) (d : List (Sum Int Str × Vl)) : List (Sum Int Str × Vl) := (ns.map fun i => (Sum.inl (i.natAbs : Int), Vl.int i)).foldl (fun d p => dput p.1 p.2 d) d
structure DInv (ns : List Int) (d : List (Sum Int Str × Vl)) (ks : List Int) : Prop where
  kys : keys d = ks.map Sum.inl
  nd : ks.Nodup
  get : ∀ k v, dget (.inl k) d = some v → ∃ i ∈ ns, v = .int i ∧ (i.natAbs : Int) = k
  all : ∀ i ∈ ns, (i.natAbs : Int) ∈ ks
  mem : ∀ k ∈ ks, ∃ v, dget (.inl k) d = some v
theorem dOf_inv : ∀ (ns done : List Int) (d : List (Sum Int Str × Vl)) (ks : List Int), DInv done d ks → ∃ ks', DInv (done ++ ns) (dOf ns d) ks'
  | [], done, d, ks, I => ⟨ks, by simpa [dOf] using I⟩
  | n :: ns, done, d, ks, I => by
    have step : ∃ ks', DInv (done ++ [n]) (dput (.inl (n.natAbs : Int)) (.int n) d) ks' := by
      by_cases hk : (n.natAbs : Int) ∈ ks
      · refine ⟨ks, ?_, I.nd, fun k v e => ?_, fun i hi => ?_, fun k hk => ?_⟩
        · rw [keys_in (by rw [I.kys]; exact List.mem_map_of_mem hk)]; exact I.kys
        · rw [dget_put] at e
          split at e
          · rename_i z
            cases e
            exact ⟨n, by simp, rfl, by injection z with z; exact z.symm⟩
          · obtain ⟨i, h1, h2⟩ := I.get k v e
            exact ⟨i, List.mem_append_left _ h1, h2⟩
        · rcases List.mem_append.mp hi with hi | hi
          · exact I.all i hi
          · rw [List.mem_singleton.mp hi]; exact hk
        · rw [dget_put]
          split
          · exact ⟨_, rfl⟩
          · exact I.mem k hk
      · refine ⟨ks ++ [(n.natAbs : Int)], ?_, ?_, fun k v e => ?_, fun i hi => ?_, fun k hk => ?_⟩
        · rw [keys_out (by
            rw [I.kys]
            intro z
            obtain ⟨k, h1, h2⟩ := List.mem_map.mp z
            injection h2 with h2
            exact hk (h2 ▸ h1)), I.kys]
          simp
        · rw [List.nodup_append]
          refine ⟨I.nd, by simp, fun a ha b hb z => ?_⟩
          rw [List.mem_singleton] at hb
          subst hb
          exact hk (z ▸ ha)
        · rw [dget_put] at e
          split at e
          · rename_i z
            cases e
            exact ⟨n, by simp, rfl, by injection z with z; exact z.symm⟩
          · obtain ⟨i, h1, h2⟩ := I.get k v e
            exact ⟨i, List.mem_append_left _ h1, h2⟩
        · rcases List.mem_append.mp hi with hi | hi
          · exact List.mem_append_left _ (I.all i hi)
          · rw [List.mem_singleton.mp hi]; simp
        · rw [dget_put]
          split
          · exact ⟨_, rfl⟩
          · rename_i z
            rcases List.mem_append.mp hk with hk | hk
            · exact I.mem k hk
            · exact absurd (congrArg Sum.inl (List.mem_singleton.mp hk)) z
    obtain ⟨ks1, I1⟩ := step
    obtain ⟨ks', I'⟩ := dOf_inv ns (done ++ [n]) (dput (.inl (n.natAbs : Int)) (.int n) d) ks1 I1
    exact ⟨ks', by simpa [dOf] using I'⟩
theorem dOf_ok (ns : List Int) : ∃ ks, DInv ns (dOf ns []) ks := by
  have := dOf_inv ns [] [] [] ⟨rfl, by simp, fun k v e => by simp [dget] at e, fun i hi => by simp at hi, fun k hk => by simp at hk⟩
  simpa using this
theorem keyInts_of : ∀ {d : List (Sum Int Str × Vl)} {ks : List Int}, keys d = ks.map Sum.inl → keyInts d = some ks
  | [], [], _ => rfl
  | [], _ :: _, h => by simp [keys] at h
  | _ :: _, [], h => by simp [keys] at h
  | (k, v) :: d, n :: ks, h => by
    simp only [keys, List.map_cons, List.cons.injEq] at h
    obtain ⟨rfl, h⟩ := h
    simp [keyInts, keyInts_of (d := d) (ks := ks) h]
/-! sorted -/
theorem insI_in (i x : Int) : ∀ l, x ∈ insI i l ↔ x = i ∨ x ∈ l
  | [] => by simp [insI]
  | j :: r => by
    unfold insI
    split
    · simp
    · rw [List.mem_cons, insI_in i x r, List.mem_cons]
      constructor
      · rintro (h | h | h) <;> simp [h]
      · rintro (h | h | h) <;> simp [h]
theorem sortI_in (x : Int) : ∀ l, x ∈ sortI l ↔ x ∈ l
  | [] => by simp [sortI]
  | i :: r => by rw [sortI, insI_in, sortI_in x r, List.mem_cons]
theorem insI_lt {i : Int} : ∀ {l : List Int}, l.Pairwise (· < ·) → i ∉ l → (insI i l).Pairwise (· < ·)
  | [], _, _ => by simp [insI]
  | j :: r, h, hi => by
    have h' := List.pairwise_cons.mp h
    simp only [List.mem_cons, not_or] at hi
    unfold insI
    split
    · rename_i hij
      rw [List.pairwise_cons]
      refine ⟨fun x hx => ?_, h⟩
      rcases List.mem_cons.mp hx with rfl | hx
      · omega
      · have := h'.1 x hx; omega
    · rename_i hij
      rw [List.pairwise_cons]
      refine ⟨fun x hx => ?_, insI_lt h'.2 hi.2⟩
      rcases (insI_in i x r).mp hx with rfl | hx
      · omega
      · exact h'.1 x hx
theorem sortI_lt : ∀ {l : List Int}, l.Nodup → (sortI l).Pairwise (· < ·)
  | [], _ => by simp [sortI]
  | i :: r, h => by
    rw [List.nodup_cons] at h
    exact insI_lt (sortI_lt h.2) fun z => h.1 ((sortI_in i r).mp z)
/-- two lists that rise by things and have the same signs -/
theorem rise_uniq : ∀ {l m : List Int}, l.Pairwise (fun a b => a.natAbs < b.natAbs) → m.Pairwise (fun a b => a.natAbs < b.natAbs) → (∀ x, x ∈ l ↔ x ∈ m) → l = m
  | [], [], _, _, _ => rfl
  | [], b :: m, _, _, h => by have := (h b).mpr (by simp); simp at this
  | a :: l, [], _, _, h => by have := (h a).mp (by simp); simp at this
  | a :: l, b :: m, h1, h2, h => by
    rw [List.pairwise_cons] at h1 h2
    have e : a = b := by
      have ha := (h a).mp (by simp)
      have hb := (h b).mpr (by simp)
      rcases List.mem_cons.mp ha with z | ha
      · exact z
      · rcases List.mem_cons.mp hb with z | hb
        · exact z.symm
        · have := h1.1 b hb
          have := h2.1 a ha
          omega
    subst e
    rw [rise_uniq h1.2 h2.2 fun x => ?_]
    constructor
    · intro hx
      rcases List.mem_cons.mp ((h x).mp (List.mem_cons_of_mem _ hx)) with z | z
      · have := h1.1 x hx; rw [z] at this; omega
      · exact z
    · intro hx
      rcases List.mem_cons.mp ((h x).mpr (List.mem_cons_of_mem _ hx)) with z | z
      · have := h2.1 x hx; rw [z] at this; omega
      · exact z
/-! a comprehension that changes nothing -/
theorem wp_compP {α : Type} {F : List Nat → Vl → M (Option α)} {own : List Nat} {src : List Vl} {Q : List α → St → Prop} {g : Vl → Option α} (hF : ∀ v s, F own v s = F [] v ⟨wipeE own s.env, s.hp⟩) (hp : own.all (fun i => plainS (env.getD i none)) = true) (hl : ∀ i ∈ own, i < env.length)
    (step : ∀ v ∈ src, Wp (F [] v ⟨wipeE own env, h⟩) (fun r s' => r = g v ∧ wipeE own s'.env = wipeE own env ∧ s'.hp = h) (fun _ _ => False)) (q : Q (src.filterMap g) ⟨env, h⟩) : Wp (block own (each (F own) src) ⟨env, h⟩) Q Z := by
  rw [wp_block]
  refine ⟨hp, ?_⟩
  have := wp_each (Z := fun _ _ => False) (f := F own) (Q := fun l s' => l = src.filterMap g ∧ wipeE own s'.env = wipeE own env ∧ s'.hp = h) (fun rest acc s => (∀ v ∈ rest, v ∈ src) ∧ acc ++ rest.filterMap g = src.filterMap g ∧ wipeE own s.env = wipeE own env ∧ s.hp = h) (src := src) (acc := []) (s := ⟨env, h⟩) ⟨fun _ z => z, rfl, rfl, rfl⟩
    (fun v rest acc s ⟨z1, z2, z3, z4⟩ => by
      rw [hF, z3, z4]
      refine (step v (z1 v List.mem_cons_self)).mono (fun r s' ⟨y1, y2, y3⟩ => ⟨fun u hu => z1 u (List.mem_cons_of_mem _ hu), ?_, y2, y3⟩) fun _ _ z => z
      rw [← z2, y1, List.filterMap_cons]
      cases g v <;> simp)
    (fun acc s ⟨_, z2, z3, z4⟩ => ⟨by simpa using z2, z3, z4⟩)
  refine this.mono (fun l s' ⟨z1, z2, z3⟩ => ?_) fun _ _ z => z
  rw [List.nil_append] at z1
  rw [z1, z3, show backE own env s'.env = env from back_wipe z2 hl]
  exact q
theorem wp_dcM {own : List Nat} {src : List Vl} {t : T} {k v : E} {Q : List (Sum Int Str × Vl) → St → Prop} {g : Vl → Sum Int Str × Vl} (hp : own.all (fun i => plainS (env.getD i none)) = true) (hl : ∀ i ∈ own, i < env.length)
    (step : ∀ x ∈ src, Wp (dcG c k v t [] x ⟨wipeE own env, h⟩) (fun r s' => r = some (g x) ∧ wipeE own s'.env = wipeE own env ∧ s'.hp = h) (fun _ _ => False)) (q : Q (src.map g) ⟨env, h⟩) : Wp (block own (each (dcG c k v t own) src) ⟨env, h⟩) Q Z :=
  wp_compP (F := fun own => dcG c k v t own) (g := fun v => some (g v)) (fun _ _ => rfl) hp hl step (by simpa using q)
/-! clause_of -/
def confB (ns : List Int) : Bool := ns.any fun s => decide (-s ∈ ns)
def pickL (ns ts : List Int) : List Int := ts.flatMap fun t => [t, -t].filter fun s => decide (s ∈ ns)
def ones : List Int := (List.range 60).map fun (k : Nat) => (k : Int) + 1
def riseL (ns : List Int) : List Int := pickL ns ones
def clV (ns : List Int) : Vl := if confB ns then .non else .tup ((riseL ns).map Vl.int)
theorem conf_iff {ns : List Int} : confB ns = true ↔ ∃ s ∈ ns, -s ∈ ns := by
  unfold confB
  simp [List.any_eq_true]
theorem ones_mem {t : Int} : t ∈ ones ↔ 1 ≤ t ∧ t ≤ 60 := by
  unfold ones
  rw [List.mem_map]
  constructor
  · rintro ⟨k, hk, rfl⟩
    rw [List.mem_range] at hk
    omega
  · rintro ⟨h1, h2⟩
    exact ⟨(t - 1).toNat, by rw [List.mem_range]; omega, by omega⟩
theorem ones_lt : ones.Pairwise (· < ·) := by decide +kernel
theorem pick_mem {ns ts : List Int} {s : Int} : s ∈ pickL ns ts ↔ s ∈ ns ∧ (s ∈ ts ∨ -s ∈ ts) := by
  unfold pickL
  simp only [List.mem_flatMap, List.mem_filter, List.mem_cons, List.not_mem_nil, or_false, decide_eq_true_eq]
  constructor
  · rintro ⟨t, ht, (rfl | rfl), hs⟩
    · exact ⟨hs, .inl ht⟩
    · exact ⟨hs, .inr (by simpa using ht)⟩
  · rintro ⟨hs, (h | h)⟩
    · exact ⟨s, h, .inl rfl, hs⟩
    · exact ⟨-s, h, .inr (by omega), hs⟩
theorem pick_rise {ns : List Int} (hc : confB ns = false) : ∀ {ts : List Int}, ts.Pairwise (· < ·) → (∀ t ∈ ts, 0 < t) → (pickL ns ts).Pairwise (fun a b => a.natAbs < b.natAbs)
  | [], _, _ => by simp [pickL]
  | t :: ts, h, hp => by
    rw [List.pairwise_cons] at h
    have ih := pick_rise hc h.2 fun u hu => hp u (List.mem_cons_of_mem _ hu)
    have e : pickL ns (t :: ts) = ([t, -t].filter fun s => decide (s ∈ ns)) ++ pickL ns ts := rfl
    rw [e, List.pairwise_append]
    refine ⟨?_, ih, fun a ha b hb => ?_⟩
    · by_cases h1 : t ∈ ns
      · by_cases h2 : -t ∈ ns
        · have := conf_iff.mpr ⟨t, h1, h2⟩
          rw [hc] at this; cases this
        · simp [h1, h2]
      · by_cases h2 : -t ∈ ns <;> simp [h1, h2]
    · rw [List.mem_filter] at ha
      have ha := ha.1
      simp only [List.mem_cons, List.not_mem_nil, or_false] at ha
      have tp := hp t List.mem_cons_self
      obtain ⟨_, hb⟩ := pick_mem.mp hb
      have hb : ∃ u ∈ ts, u = b ∨ u = -b := by
        rcases hb with hb | hb
        · exact ⟨b, hb, .inl rfl⟩
        · exact ⟨-b, hb, .inr rfl⟩
      obtain ⟨u, hu, hub⟩ := hb
      have := h.1 u hu
      omega
def Sgs (ns : List Int) : Prop := ∀ s ∈ ns, 1 ≤ s.natAbs ∧ s.natAbs ≤ 60
theorem rise_mem {ns : List Int} (hs : Sgs ns) {s : Int} : s ∈ riseL ns ↔ s ∈ ns := by
  unfold riseL
  rw [pick_mem]
  refine ⟨fun h => h.1, fun h => ⟨h, ?_⟩⟩
  have := hs s h
  rw [ones_mem, ones_mem]
  omega
theorem rise_rise {ns : List Int} (hc : confB ns = false) : (riseL ns).Pairwise (fun a b => a.natAbs < b.natAbs) := pick_rise hc ones_lt fun t ht => by have := ones_mem.mp ht; omega
def clauseOfB : Ss := (.cons (.asg (.n 1) (.dc (.bi .abs (.cons (.var 2) .nil)) (.var 2) (.n 2) (.e (.var 0)) [2]))
(.cons (.iff (.bi .any (.cons (.lc (.cmp .ne (.idx (.var 1) (.bi .abs (.cons (.var 2) .nil))) (.var 2)) (.n 2) (.e (.var 0)) .nil [2]) .nil)) (.cons (.ret (.cst (.non)))
  .nil) .nil)
(.cons (.ret (.bi .tuple (.cons (.lc (.idx (.var 1) (.var 3)) (.n 3) (.e (.bi .sorted (.cons (.var 1) .nil))) .nil [3]) .nil)))
.nil)))
def clauseOfF : Fn := ⟨1, 4, [], clauseOfB⟩
theorem idx_dct (d : List (Sum Int Str × Vl)) (k : Int) : idx h (.dct d) (.int k) = dget (.inl k) d := by simp [idx, dits, keyOf]
theorem ifabs (i : Int) : (if i < 0 then -i else i) = (i.natAbs : Int) := by split <;> omega
theorem boolsOf_map' {α : Type} (p : α → Bool) : ∀ vs : List α, boolsOf (vs.map fun v => .bl (p v)) = some (vs.map p)
  | [] => rfl
  | v :: vs => by simp [boolsOf, boolsOf_map' p vs]
/-- the sign that a thing has -/
def sgOf (d : List (Sum Int Str × Vl)) (t : Int) : Int := match dget (.inl t) d with
  | some (.int i) => i
  | _ => 0
theorem sg_ok {ns : List Int} {d : List (Sum Int Str × Vl)} {ks : List Int} (I : DInv ns d ks) {t : Int} (ht : t ∈ ks) : dget (.inl t) d = some (.int (sgOf d t)) ∧ sgOf d t ∈ ns ∧ ((sgOf d t).natAbs : Int) = t := by
  obtain ⟨v, e⟩ := I.mem t ht
  obtain ⟨i, h1, rfl, h3⟩ := I.get t v e
  have : sgOf d t = i := by simp [sgOf, e]
  rw [this]
  exact ⟨e, h1, h3⟩
theorem conf_any {ns : List Int} {d : List (Sum Int Str × Vl)} {ks : List Int} (I : DInv ns d ks) (hs : Sgs ns) : (ns.any fun i => !decide (sgOf d (i.natAbs : Int) = i)) = confB ns := by
  cases hc : confB ns with
  | true =>
    obtain ⟨s, h1, h2⟩ := conf_iff.mp hc
    rw [List.any_eq_true]
    have := hs s h1
    by_cases z : sgOf d (s.natAbs : Int) = s
    · refine ⟨-s, h2, ?_⟩
      rw [Int.natAbs_neg, z]
      have : ¬ s = -s := by omega
      simp [this]
    · exact ⟨s, h1, by simp [z]⟩
  | false =>
    rw [List.any_eq_false]
    intro i hi
    obtain ⟨_, h2, h3⟩ := sg_ok I (I.all i hi)
    have : sgOf d (i.natAbs : Int) = i := by
      by_cases z : sgOf d (i.natAbs : Int) = i
      · exact z
      · have e : sgOf d (i.natAbs : Int) = -i := by omega
        have := conf_iff.mpr ⟨i, hi, e ▸ h2⟩
        rw [hc] at this; cases this
    simp [this]
theorem pick_all {ns : List Int} {d : List (Sum Int Str × Vl)} {ks : List Int} (I : DInv ns d ks) (hs : Sgs ns) (hc : confB ns = false) : (sortI ks).map (sgOf d) = riseL ns := by
  refine rise_uniq ?_ (rise_rise hc) fun x => ?_
  · rw [List.pairwise_map]
    refine (sortI_lt I.nd).imp_of_mem fun {a b} ha hb hab => ?_
    have h1 := (sg_ok I ((sortI_in a ks).mp ha)).2.2
    have h2 := (sg_ok I ((sortI_in b ks).mp hb)).2.2
    omega
  · rw [rise_mem hs, List.mem_map]
    constructor
    · rintro ⟨t, ht, rfl⟩
      exact (sg_ok I ((sortI_in t ks).mp ht)).2.1
    · intro hx
      have ht := I.all x hx
      obtain ⟨_, h2, h3⟩ := sg_ok I ht
      refine ⟨(x.natAbs : Int), (sortI_in _ ks).mpr ht, ?_⟩
      by_cases z : sgOf d (x.natAbs : Int) = x
      · exact z
      · have e : sgOf d (x.natAbs : Int) = -x := by omega
        have := conf_iff.mpr ⟨x, hx, e ▸ h2⟩
        rw [hc] at this; cases this
theorem lt_len : ∀ {l : List Int} {lo hi : Int}, l.Pairwise (· < ·) → (∀ t ∈ l, lo < t ∧ t ≤ hi) → (l.length : Int) ≤ max 0 (hi - lo)
  | [], lo, hi, _, _ => by simp; omega
  | t :: l, lo, hi, h, hb => by
    rw [List.pairwise_cons] at h
    have h1 := hb t List.mem_cons_self
    have ih := lt_len (lo := t) (hi := hi) h.2 fun u hu => ⟨h.1 u hu, (hb u (List.mem_cons_of_mem _ hu)).2⟩
    rw [List.length_cons]
    omega
theorem dinv_len {ns : List Int} {d : List (Sum Int Str × Vl)} {ks : List Int} (I : DInv ns d ks) (hs : Sgs ns) : d.length < 64 := by
  have e1 : d.length = ks.length := by
    have := congrArg List.length I.kys
    simpa [keys] using this
  rw [e1]
  have := lt_len (lo := 0) (hi := 60) (sortI_lt I.nd) fun t ht => by
    obtain ⟨_, h2, h3⟩ := sg_ok I ((sortI_in t ks).mp ht)
    have := hs _ h2
    omega
  rw [(sortI_perm ks).length_eq] at this
  omega
theorem clauseOf_ok {fs : List Fn} {fuel : Nat} {glob : Nat → Option Vl} {k i : Nat} {A : Vl} {ns : List Int} {Q : Rv → Heap → Prop} {Z : Ex → Heap → Prop} (hi : fs[i]? = some clauseOfF) (hA : SeqI A ns) (hs : Sgs ns) (hl : ns.length ≤ 1000)
    (q : Q (.v (clV ns)) h) : WpF (run fs fuel glob (k + 1) i [A] h) Q Z := by
  refine wpF_run (fn := clauseOfF) hi (by simp [clauseOfF]) ?_
  simp only [clauseOfF, clauseOfB, List.length_cons, List.length_nil, List.map_cons, List.map_nil, List.append_nil, List.drop_nil, List.cons_append, List.nil_append]
  obtain ⟨ks, I⟩ := dOf_ok ns
  have sq := seqI_seq hA
  refine wp_cons _ (fun s' => s' = ⟨[some (.v A), some (.od (dOf ns [])), none, none], h⟩) ?_ ?_
  · simp [sq]
    refine wp_dcM (g := fun v => match v with | .int i => (Sum.inl (i.natAbs : Int), Vl.int i) | _ => (Sum.inl 0, .non)) (by simp [plainS]) (by simp) (fun v hv => ?_) ?_
    · obtain ⟨n, _, rfl⟩ := List.mem_map.mp hv
      simp [dcG, keyOf, ifabs]
    · simp [List.map_map, Function.comp_def]
      exact ⟨by omega, rfl⟩
  rintro _ rfl
  have dl := dinv_len I hs
  generalize hd : dOf ns [] = d at I dl
  refine wp_cons _ (fun s' => confB ns = false ∧ s' = ⟨[some (.v A), some (.od d), none, none], h⟩) (wp_iff _ ?_) ?_
  · simp [sq]
    refine wp_lcM (g := fun v => match v with | .int i => .bl (!decide (sgOf d (i.natAbs : Int) = i)) | _ => .non) _ (by simp [plainS]) (by simp) (fun v hv => ?_) ?_
    · obtain ⟨n, hn, rfl⟩ := List.mem_map.mp hv
      have e := (sg_ok I (I.all n hn)).1
      simp [ifabs, idx_dct, e]
      exact Classical.em _
    · simp only [List.map_map, Function.comp_def]
      have e := boolsOf_map' (fun i : Int => !decide (sgOf d (i.natAbs : Int) = i)) ns
      have ca := conf_any I hs
      simp only [e]
      refine ⟨by rw [List.length_map]; omega, _, ⟨_, rfl, rfl⟩, ?_⟩
      have e2 : (ns.map fun i => !decide (sgOf d (i.natAbs : Int) = i)).any id = confB ns := by rw [List.any_map]; exact ca
      rw [e2]
      cases hc : confB ns with
      | false => exact .inl ⟨rfl, rfl, trivial⟩
      | true =>
        refine .inr ⟨rfl, ?_⟩
        simp [retE]
        have : clV ns = .non := by simp [clV, hc]
        rw [this] at q
        exact q
  rintro _ ⟨hc, rfl⟩
  simp [retE]
  have es : bi h .sorted [.dct d] = some (.ol ((sortI ks).map Vl.int)) := by simp [bi, dits, dl, keyInts_of I.kys]
  refine ⟨_, es, _, rfl, ?_⟩
  refine wp_lcM (g := fun v => match v with | .int t => .int (sgOf d t) | _ => .non) _ (by simp [plainS]) (by simp) (fun v hv => ?_) ?_
  · obtain ⟨t, ht, rfl⟩ := List.mem_map.mp hv
    have e := (sg_ok I ((sortI_in t ks).mp ht)).1
    simp [idx_dct, e]
  · have e : ((sortI ks).map Vl.int).map (fun v => match v with | .int t => Vl.int (sgOf d t) | _ => .non) = (riseL ns).map Vl.int := by
      rw [← pick_all I hs hc, List.map_map, List.map_map]
      rfl
    have hlen : ((riseL ns).map Vl.int).length ≤ 16777216 := by
      rw [← e, List.length_map, List.length_map, (sortI_perm ks).length_eq]
      have : d.length = ks.length := by
        have := congrArg List.length I.kys
        simpa [keys] using this
      omega
    rw [e]
    have : clV ns = .tup ((riseL ns).map Vl.int) := by simp [clV, hc]
    rw [this] at q
    exact ⟨hlen, q⟩
end
end VM

/-! VMDraw: signs and clauses that a law draws. -/
namespace VM
open PySem (Str)
section
variable {h : Heap} {a k i j : Nat} {fs : List Fn} {fuel : Nat} {glob : Nat → Option Vl} {Q : Rv → Heap → Prop} {Z : Ex → Heap → Prop} {m l : Int}
def signB (j : Nat) : Ss := (.cons (.asg (.n 2) (.bin .add (.cst (.int 1)) (.call j (.cons (.var 0) (.cons (.var 1) .nil)))))
  (.cons (.ret (.idx (.lst (.cons (.var 2) (.cons (.bin .sub (.cst (.int 0)) (.var 2)) .nil))) (.call j (.cons (.var 0) (.cons (.cst (.int 2)) .nil)))))
  .nil))
def signF (j : Nat) : Fn := ⟨2, 3, [], signB j⟩
theorem sign_ok (hi : fs[i]? = some (signF j)) (hj : fs[j]? = some takeF) (hp : Pool h a) (hm : 0 < m) (hm2 : m < 2 ^ 62) (q : ∀ (s : Int) h', 1 ≤ s.natAbs → (s.natAbs : Int) ≤ m → Pool h' a → h'.length = h.length → Q (.v (.int s)) h') :
    WpF (run fs fuel glob (k + 2) i [.ref a, .int m] h) Q Z := by
  refine wpF_run (fn := signF j) hi (by simp [signF]) ?_
  simp [signF, signB, retE]
  refine take_ok hj hp hm hm2 fun r h1 r1 r2 p1 l1 _ => ?_
  simp
  refine take_ok hj p1 (by decide) (by decide) fun b h2 b1 b2 p2 l2 _ => ?_
  simp
  obtain ⟨u, hu, e⟩ := idx_draw (h := h2) (vs := [.int (1 + r), .int (-(1 + r))]) b1 (by simpa using b2)
  refine ⟨u, e, ?_⟩
  simp only [List.mem_cons, List.not_mem_nil, or_false] at hu
  rcases hu with rfl | rfl <;> exact q _ _ (by omega) (by omega) p2 (by omega)
def clauseB_0 (j : Nat) : Ss := (.cons (.iff (.and (.cmp .lt (.bi .len (.cons (.var 3) .nil)) (.var 2)) (.cmp .eq (.call j (.cons (.var 0) (.cons (.cst (.int 3)) .nil))) (.cst (.int 0)))) (.cons (.app 3 (.idx (.lst (.cons (.var 4) (.cons (.bin .sub (.cst (.int 0)) (.var 4)) .nil))) (.call j (.cons (.var 0) (.cons (.cst (.int 2)) .nil)))))
  .nil) .nil)
  .nil)
def clauseB (j : Nat) : Ss := (.cons (.asg (.n 3) (.lst .nil))
  (.cons (.loop (.n 4) (.range2 (.cst (.int 1)) (.bin .add (.var 1) (.cst (.int 1)))) (clauseB_0 j))
  (.cons (.ret (.bi .tuple (.cons (.var 3) .nil)))
  .nil)))
def clauseF (j : Nat) : Fn := ⟨3, 5, [], clauseB j⟩
/-- a clause: its signs rise by things, of the first m things -/
structure Cl (m : Int) (ns : List Int) : Prop where
  rise : ns.Pairwise fun a b => a.natAbs < b.natAbs
  sgs : ∀ s ∈ ns, 1 ≤ s.natAbs ∧ (s.natAbs : Int) ≤ m
def ClI (A L : Vl) (m : Int) (a n : Nat) (rest : List Vl) (s : St) : Prop := ∃ (ns : List Int) (x : Option Rv) (h : Heap) (t : Int), s = ⟨[some (.v (.ref a)), some (.v A), some (.v L), some (.ol (ns.map Vl.int)), x], h⟩ ∧ Cl (t - 1) ns ∧ 1 ≤ t ∧ (rest = rangeV t (m + 1 - t).toNat ∧ t ≤ m + 1) ∧ (ns.length : Int) < t ∧ Pool h a ∧ h.length = n
theorem clause_ok (hi : fs[i]? = some (clauseF j)) (hj : fs[j]? = some takeF) (hp : Pool h a) (hm : 0 ≤ m) (hm2 : m ≤ 1000) (q : ∀ (ns : List Int) h', Cl m ns → Pool h' a → h'.length = h.length → Q (.v (.tup (ns.map Vl.int))) h') :
    WpF (run fs fuel glob (k + 2) i [.ref a, .int m, .int l] h) Q Z := by
  refine wpF_run (fn := clauseF j) hi (by simp [clauseF]) ?_
  simp only [clauseF, clauseB, List.length_cons, List.length_nil, List.map_cons, List.map_nil, List.append_nil, List.drop_nil, List.cons_append, List.nil_append]
  refine wp_cons _ (fun s' => s' = ⟨[some (.v (.ref a)), some (.v (.int m)), some (.v (.int l)), some (.ol []), none], h⟩) ?_ ?_
  · simp
  rintro _ rfl
  refine wp_cons _ (ClI (.int m) (.int l) m a h.length []) ?_ ?_
  · refine wp_loop _ (ClI (.int m) (.int l) m a h.length) ?_ ?_ ?_
    · simp
      refine ⟨by simp [inLim, lim62]; omega, [], none, h, 1, rfl, ⟨by simp, by simp⟩, by omega, ⟨by congr 2; omega, by omega⟩, by simp, hp, rfl⟩
    · rintro v rest s ⟨ns, x, h1, t, rfl, c1, c2, ⟨c3, c4⟩, c5, p1, l1⟩
      have hlt : t ≤ m := by
        by_cases z : t ≤ m
        · exact z
        · rw [show (m + 1 - t).toNat = 0 by omega] at c3
          cases c3
      obtain ⟨n, hn⟩ : ∃ n, (m + 1 - t).toNat = n + 1 := ⟨(m - t).toNat, by omega⟩
      rw [hn, rangeV] at c3
      obtain ⟨rfl, c6⟩ := List.cons.inj c3
      have c3 : rest = rangeV (t + 1) (m + 1 - (t + 1)).toNat := by rw [c6]; congr 1; omega
      have more : Cl (t + 1 - 1) ns := ⟨c1.rise, fun s hs => by have := c1.sgs s hs; omega⟩
      simp only [wp_bindT, List.set_cons_succ, List.set_cons_zero, List.length_cons, List.length_nil]
      refine ⟨by omega, ?_⟩
      simp only [clauseB_0]
      refine wp_cons _ (ClI (.int m) (.int l) m a h.length rest) (wp_iff _ ?_) fun s hs => wp_nil _ hs
      simp
      by_cases hl : (ns.length : Int) < l
      · refine .inr ⟨hl, ?_⟩
        refine take_ok hj p1 (by decide) (by decide) fun r h2 r1 r2 p2 l2 _ => ?_
        simp
        by_cases hr : r = 0
        · refine .inr ⟨hr, ?_⟩
          rw [wp_peekL_ol rfl]
          simp
          refine take_ok hj p2 (by decide) (by decide) fun b h3 b1 b2 p3 l3 _ => ?_
          simp
          obtain ⟨u, hu, e⟩ := idx_draw (h := h3) (vs := [.int t, .int (-t)]) b1 (by simpa using b2)
          refine ⟨u, e, ?_⟩
          simp only [List.mem_cons, List.not_mem_nil, or_false] at hu
          obtain ⟨w, rfl, hw⟩ : ∃ w : Int, u = .int w ∧ (w.natAbs : Int) = t := by
            rcases hu with rfl | rfl
            · exact ⟨t, rfl, by omega⟩
            · exact ⟨-t, rfl, by omega⟩
          rw [wp_appAt_ol rfl (by rw [List.length_map]; unfold top; omega)]
          simp
          refine ⟨ns ++ [w], some (.v (.int t)), h3, t + 1, by simp, ⟨?_, fun s hs => ?_⟩, by omega, ⟨c3, by omega⟩, by rw [List.length_append, List.length_singleton]; omega, p3, by omega⟩
          · rw [List.pairwise_append]
            refine ⟨c1.rise, by simp, fun x hx y hy => ?_⟩
            rw [List.mem_singleton] at hy
            have := c1.sgs x hx
            subst hy
            omega
          · rcases List.mem_append.mp hs with hs | hs
            · have := c1.sgs s hs; omega
            · rw [List.mem_singleton.mp hs]; omega
        · exact .inl ⟨hr, ns, _, h2, t + 1, rfl, more, by omega, ⟨c3, by omega⟩, by omega, p2, by omega⟩
      · exact .inl ⟨by omega, ns, _, h1, t + 1, rfl, more, by omega, ⟨c3, by omega⟩, by omega, p1, by omega⟩
    · exact fun s hs => hs
  rintro _ ⟨ns, x, h1, t, rfl, c1, c2, ⟨c3, c4⟩, c5, p1, l1⟩
  have ht : t = m + 1 := by
    have := congrArg List.length c3
    rw [rangeV_len] at this
    simp at this
    omega
  subst ht
  simp [retE]
  exact q ns h1 (by rwa [show m + 1 - 1 = m by omega] at c1) p1 l1
end
end VM

/-! VMSays: fillings, and what they say. -/
namespace VM
open PySem (Str)
section
variable {h : Heap} {a k i j : Nat} {fs : List Fn} {fuel : Nat} {glob : Nat → Option Vl} {Q : Rv → Heap → Prop} {Z : Ex → Heap → Prop} {m l : Int} {fl : List Bool} {ns : List Int}
def flV (fl : List Bool) : Vl := .tup (fl.map Vl.bl)
def tupI (ns : List Int) : Vl := .tup (ns.map Vl.int)
def say (fl : List Bool) (s : Int) : Bool := (fl.getD (s.natAbs - 1) false) == decide (0 < s)
def saysB : Ss := (.cons (.ret (.cmp .eq (.idx (.var 1) (.bin .sub (.bi .abs (.cons (.var 0) .nil)) (.cst (.int 1)))) (.cmp .gt (.var 0) (.cst (.int 0)))))
  .nil)
def saysF : Fn := ⟨2, 2, [], saysB⟩
theorem says_ok {s : Int} (hi : fs[i]? = some saysF) (h1 : 1 ≤ s.natAbs) (h2 : s.natAbs ≤ fl.length) (q : Q (.v (.bl (say fl s))) h) : WpF (run fs fuel glob (k + 1) i [.int s, flV fl] h) Q Z := by
  refine wpF_run (fn := saysF) hi (by simp [saysF]) ?_
  have hk : s.natAbs - 1 < (fl.map Vl.bl).length := by rw [List.length_map]; omega
  have e : idx h (flV fl) (.int ((s.natAbs : Int) - 1)) = some (.bl (fl.getD (s.natAbs - 1) false)) := by
    rw [show (s.natAbs : Int) - 1 = ((s.natAbs - 1 : Nat) : Int) by omega]
    unfold flV
    rw [idx_tup hk]
    have : s.natAbs - 1 < fl.length := by omega
    simp [this]
  simp [saysF, saysB, retE, ifabs, e]
  unfold say at q
  cases hb : fl.getD (s.natAbs - 1) false <;> by_cases hs : 0 < s <;> simp [hb, hs] at q ⊢ <;> grind
/-! a clause holds -/
def holdsB (j : Nat) : Ss := (.cons (.ret (.bi .any (.cons (.lc (.call j (.cons (.var 2) (.cons (.var 1) .nil))) (.n 2) (.e (.var 0)) .nil [2]) .nil)))
  .nil)
def holdsF (j : Nat) : Fn := ⟨2, 3, [], holdsB j⟩
theorem holds_ok (hi : fs[i]? = some (holdsF j)) (hj : fs[j]? = some saysF) (hc : ∀ s ∈ ns, 1 ≤ s.natAbs ∧ s.natAbs ≤ fl.length) (hl : ns.length ≤ 1000) (q : Q (.v (.bl (ns.any (say fl)))) h) : WpF (run fs fuel glob (k + 2) i [tupI ns, flV fl] h) Q Z := by
  refine wpF_run (fn := holdsF j) hi (by simp [holdsF]) ?_
  simp [holdsF, holdsB, retE, tupI]
  refine wp_lcM (g := fun v => match v with | .int s => .bl (say fl s) | _ => .non) _ (by simp [plainS]) (by simp) (fun v hv => ?_) ?_
  · obtain ⟨s, hs, rfl⟩ := List.mem_map.mp hv
    simp
    exact says_ok hj (hc s hs).1 (hc s hs).2 (by simp)
  · have e : (ns.map Vl.int).map (fun v => match v with | .int s => Vl.bl (say fl s) | _ => .non) = ns.map fun s => .bl (say fl s) := by rw [List.map_map]; rfl
    rw [e]
    refine ⟨by rw [List.length_map]; omega, ?_⟩
    have e2 := boolsOf_map' (say fl) ns
    refine ⟨_, ⟨_, e2, rfl⟩, ?_⟩
    rw [List.any_map]
    exact q
/-! .. as the law says it -/
def holdB (j : Nat) : Ss := (.cons (.ret (.cmp .eq (.lc (.var 2) (.n 2) (.e (.var 0)) (.cons (.cmp .eq (.lc (.var 3) (.n 3) (.e (.var 2)) (.cons (.call j (.cons (.var 3) (.cons (.var 1) .nil))) .nil) [3]) (.lst .nil)) .nil) [2]) (.lst .nil)))
  .nil)
def holdF (j : Nat) : Fn := ⟨2, 4, [], holdB j⟩
theorem pds_tups : ∀ cls : List (List Int), pds (cls.map tupI) = some (cls.map fun ns => PySem.PyData.tuple (ns.map PySem.PyData.int))
  | [] => rfl
  | ns :: cls => by simp [pds, pd, tupI, pds_ints, pds_tups cls]
theorem dep_tups : ∀ cls : List (List Int), PySem.PyData.depthAll (cls.map fun ns => PySem.PyData.tuple (ns.map PySem.PyData.int)) ≤ 1
  | [] => by simp [PySem.PyData.depthAll]
  | ns :: cls => by
    have := dep_tups cls
    simp only [List.map_cons, PySem.PyData.depthAll, PySem.PyData.depth, dep_ints]
    omega
theorem eqTs_nil (cls : List (List Int)) : cop h .eq (.lst (cls.map tupI)) (.lst []) = some cls.isEmpty := by
  show eqV (.lst (cls.map tupI)) (.lst []) = _
  have d := dep_tups cls
  rw [eqV_ok (d := .list (cls.map fun ns => PySem.PyData.tuple (ns.map PySem.PyData.int))) (e := .list []) (by simp [pd, pds_tups]) rfl (by simp only [PySem.PyData.depth]; omega) (by simp [PySem.PyData.depth, PySem.PyData.depthAll])]
  cases cls <;> rfl
def sayV (fl : List Bool) (vs : List Vl) : Bool := vs.any fun v => match v with
  | .int s => say fl s
  | _ => false
theorem sayV_ints (fl : List Bool) (ns : List Int) : sayV fl (ns.map Vl.int) = ns.any (say fl) := by
  unfold sayV
  rw [List.any_map]
  rfl
theorem filt_nil (fl : List Bool) (ns : List Int) : decide (ns.filter (say fl) = []) = !ns.any (say fl) := by
  by_cases z : ns.any (say fl) = true
  · have : ¬ ns.filter (say fl) = [] := by
      rw [List.any_eq_true] at z
      obtain ⟨s, s1, s2⟩ := z
      intro w
      have : s ∈ ns.filter (say fl) := List.mem_filter.mpr ⟨s1, s2⟩
      rw [w] at this
      cases this
    simp only [this, z]
    rfl
  · have : ns.filter (say fl) = [] := by
      rw [List.filter_eq_nil_iff]
      intro s hs w
      exact z (List.any_eq_true.mpr ⟨s, hs, w⟩)
    have z : ns.any (say fl) = false := by simpa using z
    simp only [this, z]
    rfl
theorem fm_says (fl : List Bool) : ∀ ns : List Int, (ns.map Vl.int).filterMap (fun v => match v with | .int s => if say fl s then some (Vl.int s) else none | _ => none) = (ns.filter (say fl)).map Vl.int
  | [] => rfl
  | s :: ns => by
    rw [List.map_cons, List.filterMap_cons, List.filter_cons]
    cases hs : say fl s <;> simp [hs, fm_says fl ns]
theorem fm_hold (fl : List Bool) : ∀ cls : List (List Int), (cls.map tupI).filterMap (fun v => match v with | .tup vs => if sayV fl vs then none else some v | _ => none) = (cls.filter fun ns => !ns.any (say fl)).map tupI
  | [] => rfl
  | ns :: cls => by
    rw [List.map_cons, List.filterMap_cons, List.filter_cons, fm_hold fl cls]
    have e : sayV fl (ns.map Vl.int) = ns.any (say fl) := sayV_ints fl ns
    cases hs : ns.any (say fl) <;> simp [tupI, e, hs]
theorem hold_ok {cls : List (List Int)} (hi : fs[i]? = some (holdF j)) (hj : fs[j]? = some saysF) (hc : ∀ ns ∈ cls, (∀ s ∈ ns, 1 ≤ s.natAbs ∧ s.natAbs ≤ fl.length) ∧ ns.length ≤ 1000) (hl : cls.length ≤ 1000)
    (q : Q (.v (.bl (cls.all fun ns => ns.any (say fl)))) h) : WpF (run fs fuel glob (k + 2) i [.lst (cls.map tupI), flV fl] h) Q Z := by
  refine wpF_run (fn := holdF j) hi (by simp [holdF]) ?_
  simp [holdF, holdB, retE]
  refine wp_lcP (g := fun v => match v with | .tup vs => if sayV fl vs then none else some v | _ => none) _ (by simp [plainS]) (by simp) (fun v hv => ?_) ?_
  · obtain ⟨ns, hns, rfl⟩ := List.mem_map.mp hv
    obtain ⟨h1, h2⟩ := hc ns hns
    simp [lcG, tupI, sayV_ints]
    refine wp_lcP (g := fun v => match v with | .int s => if say fl s then some (.int s) else none | _ => none) _ (by simp [plainS]) (by simp) (fun v hv => ?_) ?_
    · obtain ⟨s, hs, rfl⟩ := List.mem_map.mp hv
      simp [lcG]
      refine says_ok hj (h1 s hs).1 (h1 s hs).2 ?_
      cases say fl s <;> simp
    · rw [fm_says]
      have ln : ((ns.filter (say fl)).map Vl.int).length ≤ 16777216 := by
        rw [List.length_map]
        have := List.length_filter_le (say fl) ns
        omega
      refine ⟨ln, ?_⟩
      rw [eqL_nil, filt_nil]
      cases hz : ns.any (say fl) with
      | true => refine .inl ⟨rfl, ?_⟩; simpa using hz
      | false => refine .inr ⟨rfl, ?_⟩; simpa [tupI] using hz
  · rw [fm_hold]
    have ln : ((cls.filter fun ns => !ns.any (say fl)).map tupI).length ≤ 16777216 := by
      rw [List.length_map]
      have := List.length_filter_le (fun ns => !ns.any (say fl)) cls
      omega
    refine ⟨ln, ?_⟩
    rw [eqTs_nil]
    have e : (cls.filter fun ns => !ns.any (say fl)).isEmpty = cls.all fun ns => ns.any (say fl) := by
      rw [Bool.eq_iff_iff, List.isEmpty_iff, List.filter_eq_nil_iff, List.all_eq_true]
      simp
    rw [e]
    cases hz : cls.all (fun ns => ns.any (say fl)) with
    | false => rw [hz] at q; exact .inl ⟨rfl, q⟩
    | true => rw [hz] at q; exact .inr ⟨rfl, q⟩
/-! all fillings of so many things -/
def fillB : Ss := (.cons (.ret (.lc (.bi .tuple (.cons (.lc (.cmp .eq (.bin .band (.bin .shr (.var 1) (.bin .sub (.bin .sub (.var 0) (.cst (.int 1))) (.var 2))) (.cst (.int 1))) (.cst (.int 1))) (.n 2) (.range1 (.var 0)) .nil [2]) .nil)) (.n 1) (.range1 (.bin .shl (.cst (.int 1)) (.var 0))) .nil [1]))
  .nil)
def fillF : Fn := ⟨1, 3, [], fillB⟩
theorem rangeV_map : ∀ (n : Nat) (lo : Int), rangeV lo n = (List.range n).map fun (k : Nat) => Vl.int (lo + k)
  | 0, _ => rfl
  | n + 1, lo => by
    rw [rangeV, rangeV_map n (lo + 1), List.range_succ_eq_map, List.map_cons, List.map_map]
    congr 1
    · simp
    · refine List.map_congr_left fun k _ => ?_
      simp [Function.comp]
      omega
/-- the n-th filling of so many things -/
def nthFl (size : Nat) (n : Int) : List Bool := (List.range size).map fun (k : Nat) => decide (PySem.Builtin.bitAnd (n / 2 ^ ((size : Int) - 1 - (k : Int)).toNat) 1 = 1)
def allFl (size : Nat) : List (List Bool) := (List.range (2 ^ size)).map fun (n : Nat) => nthFl size (n : Int)
theorem fill_ok {size : Nat} (hi : fs[i]? = some fillF) (hs : size ≤ 12) (q : Q (.ol ((allFl size).map flV)) h) : WpF (run fs fuel glob (k + 1) i [.int (size : Int)] h) Q Z := by
  refine wpF_run (fn := fillF) hi (by simp [fillF]) ?_
  have e0 : bop h .shl (.int 1) (.int (size : Int)) = some (.v (.int ((2 ^ size : Nat) : Int))) := by
    simp only [bop]
    rw [if_pos (by omega)]
    simp
  have b2 : (2 : Nat) ^ size ≤ 2 ^ 12 := Nat.pow_le_pow_right (by decide) hs
  have c2 : (2 : Int) ^ size = ((2 ^ size : Nat) : Int) := by simp
  have p2 : (2 : Int) ^ size ≤ 4096 := by rw [c2]; omega
  have p3 : (0 : Int) ≤ 2 ^ size := by rw [c2]; exact Int.natCast_nonneg _
  have p4 : ((2 : Int) ^ size).toNat = 2 ^ size := by rw [c2]; omega
  simp [fillF, fillB, retE, e0]
  refine ⟨by simp [inLim, lim62]; omega, ?_⟩
  simp only [p4]
  refine wp_lcM (g := fun v => match v with | .int n => flV (nthFl size n) | _ => .non) _ (by simp [plainS]) (by simp) (fun v hv => ?_) ?_
  · obtain ⟨n, rfl, n1, n2⟩ := rangeV_mem hv
    simp
    refine ⟨by simp [inLim, lim62]; omega, ?_⟩
    refine wp_lcM (g := fun v => match v with | .int k => .bl (decide (PySem.Builtin.bitAnd (n / 2 ^ ((size : Int) - 1 - k).toNat) 1 = 1)) | _ => .non) _ (by simp [plainS]) (by simp) (fun v hv => ?_) ?_
    · obtain ⟨k, rfl, k1, k2⟩ := rangeV_mem hv
      have e1 : ∀ h, bop h .shr (.int n) (.int ((size : Int) - 1 - k)) = some (.v (.int (n / 2 ^ ((size : Int) - 1 - k).toNat))) := fun h => by
        simp only [bop]
        rw [if_pos (by omega)]
      have e2 : ∀ (h : Heap) (z : Int), bop h .band (.int z) (.int 1) = some (.v (.int (PySem.Builtin.bitAnd z 1))) := fun h z => rfl
      simp [e1, e2]
      exact (Classical.em _).symm
    · have e3 : (rangeV 0 size).map (fun v => match v with | .int k => Vl.bl (decide (PySem.Builtin.bitAnd (n / 2 ^ ((size : Int) - 1 - k).toNat) 1 = 1)) | _ => .non) = (nthFl size n).map Vl.bl := by
        rw [rangeV_map, List.map_map, nthFl, List.map_map]
        refine List.map_congr_left fun k _ => ?_
        simp
      rw [e3]
      have : ((nthFl size n).map Vl.bl).length ≤ 16777216 := by
        rw [List.length_map]
        simp [nthFl]
        omega
      refine ⟨this, ?_⟩
      simp [flV]
  · have e6 : (rangeV 0 (2 ^ size)).map (fun v => match v with | .int n => flV (nthFl size n) | _ => .non) = (allFl size).map flV := by
      rw [rangeV_map, List.map_map, allFl, List.map_map]
      refine List.map_congr_left fun k _ => ?_
      simp
    have e7 : ((allFl size).map flV).length ≤ 16777216 := by
      rw [List.length_map]
      simp only [allFl, List.length_map, List.length_range]
      omega
    rw [e6]
    exact ⟨e7, q⟩
end
end VM

/-! VMMeet: two clauses meet in a thing. -/
namespace VM
open PySem (Str)
/-! plain -/
/-- what two clauses meet in -/
def leftL (one other : List Int) (t : Int) : List Int := one.filter (fun s => !decide (s = t)) ++ other.filter (fun s => !decide (s = -t))
def meetL (one other : List Int) (t : Int) : Option (List Int) := if t ∈ one ∧ -t ∈ other then (if confB (leftL one other t) then none else some (riseL (leftL one other t))) else none
def metV (one other : List Int) : Vl → Option (List Int)
  | .int t => if 1 ≤ t ∧ t ≤ 60 then meetL one other t else none
  | _ => none
theorem left_sgs {one other : List Int} (h1 : Sgs one) (h2 : Sgs other) (t : Int) : Sgs (leftL one other t) := fun s hs => by
  unfold leftL at hs
  rcases List.mem_append.mp hs with hs | hs
  · exact h1 s (List.mem_filter.mp hs).1
  · exact h2 s (List.mem_filter.mp hs).1
theorem left_mem {one other : List Int} {t s : Int} : s ∈ leftL one other t ↔ (s ∈ one ∧ s ≠ t) ∨ (s ∈ other ∧ s ≠ -t) := by
  unfold leftL
  rw [List.mem_append, List.mem_filter, List.mem_filter]
  simp
/-- rising, the same signs: the one clause -/
theorem rise_of {ns l : List Int} (hs : Sgs ns) (hc : confB ns = false) (hr : l.Pairwise fun a b => a.natAbs < b.natAbs) (hm : ∀ x, x ∈ l ↔ x ∈ ns) : l = riseL ns :=
  rise_uniq hr (rise_rise hc) fun x => by rw [hm x, rise_mem hs]
theorem conf_same {ns ms : List Int} (h : ∀ x, x ∈ ns ↔ x ∈ ms) : confB ns = confB ms := by
  rw [Bool.eq_iff_iff, conf_iff, conf_iff]
  constructor
  · rintro ⟨s, h1, h2⟩; exact ⟨s, (h _).mp h1, (h _).mp h2⟩
  · rintro ⟨s, h1, h2⟩; exact ⟨s, (h _).mpr h1, (h _).mpr h2⟩
/-- the law's own putting together: the second's signs behind the first's -/
def addL (t : Int) (l : List Int) : List Int → List Int
  | [] => l
  | s :: r => addL t (if s ≠ -t ∧ s ∉ l then l ++ [s] else l) r
theorem addL_mem {t x : Int} : ∀ {r l : List Int}, x ∈ addL t l r ↔ x ∈ l ∨ (x ∈ r ∧ x ≠ -t)
  | [], l => by simp [addL]
  | s :: r, l => by
    rw [addL, addL_mem]
    by_cases z : s ≠ -t ∧ s ∉ l
    · rw [if_pos z, List.mem_append, List.mem_singleton, List.mem_cons]
      constructor
      · rintro ((h | rfl) | ⟨h1, h2⟩)
        · exact .inl h
        · exact .inr ⟨.inl rfl, z.1⟩
        · exact .inr ⟨.inr h1, h2⟩
      · rintro (h | ⟨rfl | h, h2⟩)
        · exact .inl (.inl h)
        · exact .inl (.inr rfl)
        · exact .inr ⟨h, h2⟩
    · rw [if_neg z, List.mem_cons]
      constructor
      · rintro (h | ⟨h1, h2⟩)
        · exact .inl h
        · exact .inr ⟨.inr h1, h2⟩
      · rintro (h | ⟨rfl | h, h2⟩)
        · exact .inl h
        · exact .inl (Classical.byContradiction fun w => z ⟨h2, w⟩)
        · exact .inr ⟨h, h2⟩
theorem addL_nodup {t : Int} : ∀ {r l : List Int}, l.Nodup → (addL t l r).Nodup
  | [], l, h => h
  | s :: r, l, h => by
    rw [addL]
    refine addL_nodup ?_
    split
    · rename_i z
      rw [List.nodup_append]
      exact ⟨h, by simp, fun a ha b hb e => by rw [List.mem_singleton] at hb; subst hb; subst e; exact z.2 ha⟩
    · exact h
theorem addL_len {t : Int} : ∀ {r l : List Int}, (addL t l r).length ≤ l.length + r.length
  | [], l => by simp [addL]
  | s :: r, l => by
    rw [addL]
    rw [List.length_cons]
    by_cases z : s ≠ -t ∧ s ∉ l
    · rw [if_pos z]
      have := addL_len (t := t) (r := r) (l := l ++ [s])
      rw [List.length_append, List.length_singleton] at this
      omega
    · rw [if_neg z]
      have := addL_len (t := t) (r := r) (l := l)
      omega
def keyS (s : Int) : Int × Int := ((s.natAbs : Int), s)
theorem sortS_rise {l : List Int} (hn : l.Nodup) (hc : confB l = false) : (sortP keyS l).Pairwise fun a b => a.natAbs < b.natAbs := by
  obtain ⟨h1, h2⟩ := sortP_ok keyS l
  have hnd : (sortP keyS l).Nodup := h2.perm.nodup_iff.mpr hn
  have h3 : (sortP keyS l).Pairwise fun a b => a ≠ b := hnd
  refine (h1.and h3).imp_of_mem fun {a b} ha hb hab => ?_
  have e := SrtO.lexB_no.mp hab.1
  have hab2 := hab.2
  simp only [keyS] at e
  have ha' := h2.perm.mem_iff.mp ha
  have hb' := h2.perm.mem_iff.mp hb
  have nb : b ≠ -a := fun z => by
    have : confB l = true := conf_iff.mpr ⟨a, ha', by rw [← z]; exact hb'⟩
    rw [hc] at this; cases this
  omega
theorem sortS_mem {l : List Int} (x : Int) : x ∈ sortP keyS l ↔ x ∈ l := (sortP_ok keyS l).2.perm.mem_iff
theorem sortS_len (l : List Int) : (sortP keyS l).length = l.length := (sortP_ok keyS l).2.perm.length_eq
def prV (s : Int) : Vl := .tup [.int (s.natAbs : Int), .int s]
theorem insP_map {α β : Type} (f : α → β) (k : β → Int × Int) (x : α) : ∀ l : List α, insP k (f x) (l.map f) = (insP (fun a => k (f a)) x l).map f
  | [] => rfl
  | y :: l => by
    rw [List.map_cons, insP, insP]
    split
    · rfl
    · rw [List.map_cons, insP_map f k x l]
theorem sortP_map {α β : Type} (f : α → β) (k : β → Int × Int) (l : List α) : sortP k (l.map f) = (sortP (fun a => k (f a)) l).map f := by
  have key : ∀ (l : List α) (acc : List α), (l.map f).foldl (fun acc x => insP k x acc) (acc.map f) = (l.foldl (fun acc x => insP (fun a => k (f a)) x acc) acc).map f := by
    intro l
    induction l with
    | nil => intro acc; rfl
    | cons x l ih => intro acc; rw [List.map_cons, List.foldl_cons, List.foldl_cons, insP_map]; exact ih _
  exact key l []
section
variable {h : Heap} {a k i j : Nat} {fs : List Fn} {fuel : Nat} {glob : Nat → Option Vl} {Q : Rv → Heap → Prop} {Z : Ex → Heap → Prop}
theorem sorted_prs (l : List Int) : bi h .sorted [.lst (l.map prV)] = some (.ol ((sortP keyS l).map prV)) := by
  have e : sortP keyP (l.map prV) = (sortP keyS l).map prV := sortP_map prV keyP l
  cases l with
  | nil => rfl
  | cons x r =>
    have h1 : intsOf ((x :: r).map prV) = none := rfl
    have h2 : ((x :: r).map prV).all (fun v => (pairOf v).isSome) = true := by rw [List.all_map]; exact List.all_eq_true.mpr fun _ _ => rfl
    simp only [bi, dits, lits]
    rw [h1]
    dsimp only
    rw [if_pos h2, e]
/-! is_whole, is_within -/
def wholeB : Ss := (.cons (.ret (.and (.isa (.var 0) [.int]) (.nt (.isa (.var 0) [.bool]))))
  .nil)
def wholeF : Fn := ⟨1, 1, [], wholeB⟩
def wholeV : Vl → Bool
  | .int _ => true
  | _ => false
theorem whole_ok {v : Vl} (hi : fs[i]? = some wholeF) (hx : isEx v = false) (q : Q (.v (.bl (wholeV v))) h) : WpF (run fs fuel glob (k + 1) i [v] h) Q Z := by
  refine wpF_run (fn := wholeF) hi (by simp [wholeF]) ?_
  cases v <;> first | (cases hx; done) | (simp [wholeF, wholeB, retE, isTy]; exact q)
def isWithinB (w : Nat) : Ss := (.cons (.ret (.and (.call w (.cons (.var 0) .nil)) (.chain (.var 1) .le (.var 0) .le (.var 2))))
  .nil)
def isWithinF (w : Nat) : Fn := ⟨3, 3, [], isWithinB w⟩
def inW (lo hi : Int) : Vl → Bool
  | .int t => decide (lo ≤ t) && decide (t ≤ hi)
  | _ => false
theorem isWithin_ok {v : Vl} {lo up : Int} (hi : fs[i]? = some (isWithinF j)) (hj : fs[j]? = some wholeF) (hx : isEx v = false) (q : Q (.v (.bl (inW lo up v))) h) : WpF (run fs fuel glob (k + 2) i [v, .int lo, .int up] h) Q Z := by
  refine wpF_run (fn := isWithinF j) hi (by simp [isWithinF]) ?_
  simp [isWithinF, isWithinB, retE]
  refine whole_ok hj hx ?_
  cases v with
  | int t =>
    simp [wholeV]
    by_cases h1 : lo ≤ t
    · by_cases h2 : t ≤ up
      · refine .inr ⟨h1, .inr ?_⟩
        simpa [inW, h1, h2] using q
      · refine .inr ⟨h1, .inl ⟨by omega, ?_⟩⟩
        simpa [inW, h1, h2] using q
    · refine .inl ⟨by omega, ?_⟩
      simpa [inW, h1] using q
  | _ => simp [wholeV]; exact q
/-! met -/
def metB (w c : Nat) : Ss := (.cons (.iff (.or (.nt (.call w (.cons (.var 2) (.cons (.cst (.int 1)) (.cons (.cst (.int 60)) .nil))))) (.or (.cmp .notin (.var 2) (.var 0)) (.cmp .notin (.neg (.var 2)) (.var 1)))) (.cons (.raise "NoMeeting" ["thing"] (.cons (.var 2) .nil))
    .nil) .nil)
  (.cons (.asg (.n 3) (.bin .add (.lc (.var 5) (.n 5) (.e (.var 0)) (.cons (.cmp .ne (.var 5) (.var 2)) .nil) [5]) (.lc (.var 5) (.n 5) (.e (.var 1)) (.cons (.cmp .ne (.var 5) (.neg (.var 2))) .nil) [5])))
  (.cons (.asg (.n 4) (.call c (.cons (.var 3) .nil)))
  (.cons (.iff (.isN (.var 4)) (.cons (.raise "NoMeeting" ["thing"] (.cons (.var 2) .nil))
    .nil) .nil)
  (.cons (.ret (.var 4))
  .nil)))))
def metF (w c : Nat) : Fn := ⟨3, 6, [], metB w c⟩
def keepZ (p : Int → Bool) : Vl → Option Vl
  | .int s => if p s then some (.int s) else none
  | _ => none
theorem keepZ_map (p : Int → Bool) : ∀ ns : List Int, (ns.map Vl.int).filterMap (keepZ p) = (ns.filter p).map Vl.int
  | [] => rfl
  | s :: ns => by
    rw [List.map_cons, List.filterMap_cons, List.filter_cons]
    cases hs : p s <;> simp [hs, keepZ, keepZ_map p ns]
theorem filt_len (p : Int → Bool) (ns : List Int) (hl : ns.length ≤ 1000) : ((ns.filter p).map Vl.int).length ≤ 16777216 := by
  rw [List.length_map]
  have := List.length_filter_le p ns
  omega
def noMeet (v : Vl) : Ex := ⟨"NoMeeting", [("thing", v)]⟩
theorem met_ok {A B v : Vl} {one other : List Int} {w c u : Nat} (hi : fs[i]? = some (metF w c)) (hw : fs[w]? = some (isWithinF u)) (hu : fs[u]? = some wholeF) (hc : fs[c]? = some clauseOfF) (hA : SeqI A one) (hB : SeqI B other) (sA : Sgs one) (sB : Sgs other)
    (lA : one.length ≤ 400) (lB : other.length ≤ 400) (hx : isEx v = false) (q1 : ∀ r, metV one other v = some r → Q (.v (tupI r)) h) (q2 : metV one other v = none → Z (noMeet v) h) : WpF (run fs fuel glob (k + 3) i [A, B, v] h) Q Z := by
  refine wpF_run (fn := metF w c) hi (by simp [metF]) ?_
  simp only [metF, metB, List.length_cons, List.length_nil, List.map_cons, List.map_nil, List.append_nil, List.drop_nil, List.cons_append, List.nil_append]
  refine wp_cons _ (fun s' => ∃ t : Int, v = .int t ∧ 1 ≤ t ∧ t ≤ 60 ∧ t ∈ one ∧ -t ∈ other ∧ s' = ⟨[some (.v A), some (.v B), some (.v (.int t)), none, none, none], h⟩) (wp_iff _ ?_) ?_
  · simp
    refine isWithin_ok hw hu hx ?_
    simp
    by_cases hin : inW 1 60 v = true
    · cases v with
      | int t =>
        have hin : (decide (1 ≤ t) && decide (t ≤ 60)) = true := hin
        simp only [Bool.and_eq_true, decide_eq_true_eq] at hin
        have e : inW 1 60 (.int t) = true := by simp [inW, hin]
        have em : metV one other (.int t) = meetL one other t := if_pos hin
        rw [e]
        simp [notIn_int hA, notIn_int hB]
        have no : ¬ (t ∈ one ∧ -t ∈ other) → Z (noMeet (.int t)) h := fun z => q2 (by rw [em]; exact if_neg z)
        have fin : Z { c := "NoMeeting", fs := [("thing", Vl.int t)] } h ↔ Z (noMeet (.int t)) h := Iff.rfl
        by_cases h1 : t ∈ one
        · by_cases h2 : -t ∈ other
          · simp [h1, h2, hin]
          · simp [h1, h2]; exact fin.mpr (no fun z => h2 z.2)
        · simp [h1]; exact fin.mpr (no fun z => h1 z.1)
      | _ => cases hin
    · have e : inW 1 60 v = false := by simpa using hin
      rw [e]
      simp
      have : metV one other v = none := by
        cases v with
        | int t =>
          have : ¬ (1 ≤ t ∧ t ≤ 60) := fun z => by simp [inW, z] at e
          exact if_neg this
        | _ => rfl
      exact q2 this
  rintro _ ⟨t, rfl, t1, t2, m1, m2, rfl⟩
  have em : metV one other (.int t) = if confB (leftL one other t) then none else some (riseL (leftL one other t)) := by
    show (if 1 ≤ t ∧ t ≤ 60 then meetL one other t else none) = _
    rw [if_pos ⟨t1, t2⟩]
    exact if_pos ⟨m1, m2⟩
  rw [em] at q1 q2
  have sl := left_sgs sA sB t
  have ll : (leftL one other t).length ≤ 1000 := by
    unfold leftL
    have := List.length_filter_le (fun s => !decide (s = t)) one
    have := List.length_filter_le (fun s => !decide (s = -t)) other
    rw [List.length_append]; omega
  refine wp_cons _ (fun s' => s' = ⟨[some (.v A), some (.v B), some (.v (.int t)), some (.ol ((leftL one other t).map Vl.int)), none, none], h⟩) ?_ ?_
  · simp [seqI_seq hA]
    refine wp_lcP (g := keepZ fun s => !decide (s = t)) _ (by simp [plainS]) (by simp) (fun v hv => ?_) ?_
    · obtain ⟨s, hs, rfl⟩ := List.mem_map.mp hv
      simp [lcG, keepZ]
      by_cases z : s = t <;> simp [z]
    · rw [keepZ_map]
      refine ⟨filt_len _ _ (by omega), ?_⟩
      simp [seqI_seq hB]
      refine wp_lcP (g := keepZ fun s => !decide (s = -t)) _ (by simp [plainS]) (by simp) (fun v hv => ?_) ?_
      · obtain ⟨s, hs, rfl⟩ := List.mem_map.mp hv
        simp [lcG, keepZ]
        by_cases z : s = -t <;> simp [z]
      · rw [keepZ_map]
        refine ⟨filt_len _ _ (by omega), ?_⟩
        have a1 := List.length_filter_le (fun s => !decide (s = t)) one
        have a2 := List.length_filter_le (fun s => !decide (s = -t)) other
        refine ⟨_, add_lstS (by rw [List.length_map]; omega) (by rw [List.length_map]; omega), ?_⟩
        rw [wp_bindT]
        refine ⟨by simp, ?_⟩
        rw [← List.map_append]
        rfl
  rintro _ rfl
  refine wp_cons _ (fun s' => ∃ x3, s' = ⟨[some (.v A), some (.v B), some (.v (.int t)), x3, some (.v (clV (leftL one other t))), none], h⟩) ?_ ?_
  · simp
    refine clauseOf_ok hc (.inl rfl) sl ll ?_
    simp
  rintro _ ⟨x3, rfl⟩
  refine wp_cons _ (fun s' => confB (leftL one other t) = false ∧ s' = ⟨[some (.v A), some (.v B), some (.v (.int t)), x3, some (.v (clV (leftL one other t))), none], h⟩) (wp_iff _ ?_) ?_
  · cases hc : confB (leftL one other t) with
    | true =>
      have e : clV (leftL one other t) = .non := by simp [clV, hc]
      simp [e, isNon]
      exact q2 (by rw [hc]; rfl)
    | false =>
      have e : clV (leftL one other t) = tupI (riseL (leftL one other t)) := by simp [clV, hc, tupI]
      simp [e, isNon, tupI]
  rintro _ ⟨hc, rfl⟩
  have e : clV (leftL one other t) = tupI (riseL (leftL one other t)) := by simp [clV, hc, tupI]
  simp [e]
  exact q1 _ (by rw [hc]; rfl)
/-! the law's own meeting -/
def lawMeetB_0 : Ss := (.cons (.iff (.and (.cmp .ne (.var 4) (.bin .sub (.cst (.int 0)) (.var 2))) (.cmp .notin (.var 4) (.var 3))) (.cons (.app 3 (.var 4))
    .nil) .nil)
  .nil)
def lawMeetB : Ss := (.cons (.iff (.or (.cmp .notin (.var 2) (.var 0)) (.cmp .notin (.bin .sub (.cst (.int 0)) (.var 2)) (.var 1))) (.cons (.ret (.cst (.non)))
    .nil) .nil)
  (.cons (.asg (.n 3) (.lc (.var 4) (.n 4) (.e (.var 0)) (.cons (.cmp .ne (.var 4) (.var 2)) .nil) [4]))
  (.cons (.loop (.n 4) (.e (.var 1)) lawMeetB_0)
  (.cons (.iff (.cmp .ne (.lc (.var 4) (.n 4) (.e (.var 3)) (.cons (.cmp .isin (.bin .sub (.cst (.int 0)) (.var 4)) (.var 3)) .nil) [4]) (.lst .nil)) (.cons (.ret (.cst (.non)))
    .nil) .nil)
  (.cons (.ret (.bi .tuple (.cons (.lc (.var 4) (.tup [.n 5, .n 4]) (.e (.bi .sorted (.cons (.lc (.tup (.cons (.bi .abs (.cons (.var 4) .nil)) (.cons (.var 4) .nil))) (.n 4) (.e (.var 3)) .nil [4]) .nil))) .nil [5, 4]) .nil)))
  .nil)))))
def lawMeetF : Fn := ⟨3, 6, [], lawMeetB⟩
def lmeetV (one other : List Int) (t : Int) : Vl := match meetL one other t with
  | some r => tupI r
  | none => .non
def MtI (A B : Vl) (t : Int) (one other : List Int) (h : Heap) (rest : List Vl) (s : St) : Prop := ∃ (l r : List Int) (x : Option Rv), plainS x = true ∧ rest = r.map Vl.int ∧ addL t l r = addL t (one.filter fun s => !decide (s = t)) other ∧ l.length + r.length ≤ 900 ∧ s = ⟨[some (.v A), some (.v B), some (.v (.int t)), some (.ol (l.map Vl.int)), x, none], h⟩
def prG : Vl → Vl
  | .int s => prV s
  | _ => .non
def prS : Vl → Vl
  | .tup [_, s] => s
  | _ => .non
theorem lmeet_ok {A B : Vl} {one other : List Int} {t : Int} (hi : fs[i]? = some lawMeetF) (hA : SeqI A one) (hB : SeqI B other) (sA : Sgs one) (sB : Sgs other) (nd : one.Nodup) (lA : one.length ≤ 400) (lB : other.length ≤ 400)
    (q : Q (.v (lmeetV one other t)) h) : WpF (run fs fuel glob (k + 1) i [A, B, .int t] h) Q Z := by
  refine wpF_run (fn := lawMeetF) hi (by simp [lawMeetF]) ?_
  simp only [lawMeetF, lawMeetB, List.length_cons, List.length_nil, List.map_cons, List.map_nil, List.append_nil, List.drop_nil, List.cons_append, List.nil_append]
  refine wp_cons _ (fun s' => t ∈ one ∧ -t ∈ other ∧ s' = ⟨[some (.v A), some (.v B), some (.v (.int t)), none, none, none], h⟩) (wp_iff _ ?_) ?_
  · simp [notIn_int hA, notIn_int hB]
    have no : ¬ (t ∈ one ∧ -t ∈ other) → Q (.v .non) h := fun z => by
      have : lmeetV one other t = .non := by unfold lmeetV meetL; rw [if_neg z]
      rw [this] at q; exact q
    by_cases h1 : t ∈ one
    · by_cases h2 : -t ∈ other
      · simp [h1, h2]
      · simp [h1, h2, retE]; exact no fun z => h2 z.2
    · simp [h1, retE]; exact no fun z => h1 z.1
  rintro _ ⟨m1, m2, rfl⟩
  have fl := List.length_filter_le (fun s => !decide (s = t)) one
  refine wp_cons _ (MtI A B t one other h (other.map Vl.int)) ?_ ?_
  · simp [seqI_seq hA]
    refine wp_lcP (g := keepZ fun s => !decide (s = t)) _ (by simp [plainS]) (by simp) (fun v hv => ?_) ?_
    · obtain ⟨s, hs, rfl⟩ := List.mem_map.mp hv
      simp [lcG, keepZ]
      by_cases z : s = t <;> simp [z]
    · rw [keepZ_map]
      refine ⟨filt_len _ _ (by omega), ?_⟩
      rw [wp_bindT]
      exact ⟨by simp, _, other, none, rfl, rfl, rfl, by omega, rfl⟩
  rintro _ ⟨l0, r0, x0, px, e0, e1, e2, rfl⟩
  have er : r0 = other := by
    have : ∀ {a b : List Int}, a.map Vl.int = b.map Vl.int → a = b := fun {a b} z => by
      have z2 := congrArg (List.map fun v => match v with | Vl.int i => i | _ => 0) z
      rw [List.map_map, List.map_map] at z2
      simpa [Function.comp_def] using z2
    exact (this e0).symm
  subst er
  refine wp_cons _ (MtI A B t one r0 h []) ?_ ?_
  · refine wp_loop _ (MtI A B t one r0 h) ?_ ?_ ?_
    · simp [seqI_seq hB]
      exact ⟨l0, r0, x0, px, rfl, e1, e2, rfl⟩
    · rintro v rest s ⟨l, r, x, px, e3, e4, e5, rfl⟩
      cases r with
      | nil => cases e3
      | cons s r =>
        obtain ⟨rfl, rfl⟩ := List.cons.inj e3
        simp only [wp_bindT, List.set_cons_succ, List.set_cons_zero, List.length_cons, List.length_nil]
        refine ⟨by omega, ?_⟩
        simp only [lawMeetB_0]
        rw [addL] at e4
        simp only [List.length_cons] at e5
        refine wp_cons _ (MtI A B t one r0 h (r.map Vl.int)) (wp_iff _ ?_) fun s hs => wp_nil _ hs
        have sl : SeqI (.lst (l.map Vl.int)) l := .inl rfl
        simp
        by_cases z1 : s = -t
        · refine .inl ⟨z1, l, r, _, rfl, rfl, ?_, by omega, rfl⟩
          rw [if_neg fun z => z.1 z1] at e4; exact e4
        · refine .inr ⟨z1, ?_⟩
          simp [notIn_int sl]
          by_cases z2 : s ∈ l
          · simp [z2]
            refine ⟨l, r, _, rfl, rfl, ?_, by omega, rfl⟩
            rw [if_neg fun z => z.2 z2] at e4; exact e4
          · simp [z2]
            rw [wp_peekL_ol rfl]
            simp
            rw [wp_appAt_ol rfl (by rw [List.length_map]; unfold top; omega)]
            simp
            refine ⟨l ++ [s], r, some (.v (.int s)), rfl, rfl, ?_, by rw [List.length_append, List.length_singleton]; omega, by simp⟩
            rw [if_pos ⟨z1, z2⟩] at e4; exact e4
    · exact fun s hs => hs
  rintro _ ⟨l, r, x, px2, e3, e4, e5, rfl⟩
  have er : r = [] := by cases r with
    | nil => rfl
    | cons _ _ => cases e3
  subst er
  rw [addL] at e4
  -- the signs that are left
  have hm : ∀ x, x ∈ l ↔ x ∈ leftL one r0 t := fun x => by
    rw [e4, addL_mem, left_mem, List.mem_filter]
    simp
  have hn : l.Nodup := by rw [e4]; exact addL_nodup (nd.filter _)
  have hcf : confB l = confB (leftL one r0 t) := conf_same hm
  have sl : SeqI (.lst (l.map Vl.int)) l := .inl rfl
  have hl : l.length ≤ 900 := by simpa using e5
  have ev : lmeetV one r0 t = if confB l then .non else tupI (riseL (leftL one r0 t)) := by
    unfold lmeetV meetL
    rw [if_pos ⟨m1, m2⟩, hcf]
    split
    · rename_i z; split at z <;> simp_all
    · rename_i z; split at z <;> simp_all
  refine wp_cons _ (fun s' => confB l = false ∧ s' = ⟨[some (.v A), some (.v B), some (.v (.int t)), some (.ol (l.map Vl.int)), x, none], h⟩) (wp_iff _ ?_) ?_
  · simp
    refine wp_lcP (g := keepZ fun s => decide (-s ∈ l)) _ (by simpa [plainS] using px2) (by simp) (fun v hv => ?_) ?_
    · obtain ⟨s, hs, rfl⟩ := List.mem_map.mp hv
      simp [lcG, keepZ, isIn_int sl]
      by_cases z : -s ∈ l <;> simp [z]
    · rw [keepZ_map]
      refine ⟨filt_len _ _ (by omega), ?_⟩
      rw [neL_nil]
      have e : (!decide ((l.filter fun s => decide (-s ∈ l)) = [])) = confB l := by
        cases hc : confB l with
        | true =>
          obtain ⟨s, h1, h2⟩ := conf_iff.mp hc
          have : ¬ (l.filter fun s => decide (-s ∈ l)) = [] := fun z => by
            have : s ∈ l.filter fun s => decide (-s ∈ l) := List.mem_filter.mpr ⟨h1, by simpa using h2⟩
            rw [z] at this; cases this
          rw [decide_eq_false this]; rfl
        | false =>
          have : (l.filter fun s => decide (-s ∈ l)) = [] := by
            rw [List.filter_eq_nil_iff]
            intro s hs z
            have := conf_iff.mpr ⟨s, hs, by simpa using z⟩
            rw [hc] at this; cases this
          rw [decide_eq_true this]; rfl
      rw [e]
      cases hc : confB l with
      | false => exact .inl ⟨rfl, rfl, rfl⟩
      | true =>
        refine .inr ⟨rfl, ?_⟩
        simp [retE]
        rw [ev, hc] at q
        exact q
  rintro _ ⟨hc, rfl⟩
  have sx : ∀ s ∈ l, 1 ≤ s.natAbs ∧ s.natAbs ≤ 60 := fun s hs => left_sgs sA sB t s ((hm s).mp hs)
  have fin : sortP keyS l = riseL (leftL one r0 t) := rise_of (left_sgs sA sB t) (by rw [← hcf]; exact hc) (sortS_rise hn hc) fun x => by rw [sortS_mem, hm]
  simp [retE]
  refine wp_lcM (g := prG) _ (by simpa [plainS] using px2) (by simp) (fun v hv => ?_) ?_
  · obtain ⟨s, hs, rfl⟩ := List.mem_map.mp hv
    simp [prG, prV, ifabs]
  · have e6 : (l.map Vl.int).map prG = l.map prV := by rw [List.map_map]; rfl
    rw [e6]
    refine ⟨by rw [List.length_map]; omega, ?_⟩
    refine ⟨_, sorted_prs l, ?_⟩
    simp
    refine wp_lcM (g := prS) _ (by simpa [plainS] using px2) (by simp) (fun v hv => ?_) ?_
    · obtain ⟨s, hs, rfl⟩ := List.mem_map.mp hv
      simp [prV, prS]
    · have e7 : ((sortP keyS l).map prV).map prS = (sortP keyS l).map Vl.int := by rw [List.map_map]; rfl
      rw [e7]
      refine ⟨by rw [List.length_map, sortS_len]; omega, ?_⟩
      simp
      rw [ev, hc, ← fin] at q
      exact q
/-! what both hold, what they meet in holds -/
theorem meet_sound {one other r : List Int} {t : Int} {fl : List Bool} (sA : Sgs one) (sB : Sgs other) (hr : metV one other (.int t) = some r) (h1 : one.any (say fl) = true) (h2 : other.any (say fl) = true) : r.any (say fl) = true := by
  have hr : (if 1 ≤ t ∧ t ≤ 60 then meetL one other t else none) = some r := hr
  split at hr
  · rename_i ht
    unfold meetL at hr
    split at hr
    · split at hr
      · cases hr
      · rename_i hc
        cases hr
        have hm : ∀ s, s ∈ riseL (leftL one other t) ↔ s ∈ leftL one other t := fun s => rise_mem (left_sgs sA sB t)
        rw [List.any_eq_true] at h1 h2 ⊢
        obtain ⟨s1, m1, e1⟩ := h1
        obtain ⟨s2, m2, e2⟩ := h2
        by_cases z1 : s1 = t
        · by_cases z2 : s2 = -t
          · subst z1 z2
            unfold say at e1 e2
            have n1 : (-s1).natAbs = s1.natAbs := by omega
            rw [n1] at e2
            rw [beq_iff_eq] at e1 e2
            rw [e1] at e2
            have a1 : decide (0 < s1) = true := decide_eq_true (by omega)
            have a2 : decide (0 < -s1) = false := decide_eq_false (by omega)
            rw [a1, a2] at e2
            cases e2
          · exact ⟨s2, (hm s2).mpr (left_mem.mpr (.inr ⟨m2, z2⟩)), e2⟩
        · exact ⟨s1, (hm s1).mpr (left_mem.mpr (.inl ⟨m1, z1⟩)), e1⟩
    · cases hr
  · cases hr
theorem metV_sgs {one other r : List Int} {v : Vl} (hr : metV one other v = some r) : Sgs r ∧ r.length ≤ 120 := by
  have key : ∀ ns : List Int, Sgs (riseL ns) ∧ (riseL ns).length ≤ 120 := fun ns => by
    refine ⟨fun s hs => ?_, ?_⟩
    · obtain ⟨_, h⟩ := pick_mem.mp hs
      rw [ones_mem, ones_mem] at h
      omega
    · have pl : ∀ ts : List Int, (pickL ns ts).length ≤ 2 * ts.length := fun ts => by
        induction ts with
        | nil => simp [pickL]
        | cons t ts ih =>
          have e : pickL ns (t :: ts) = ([t, -t].filter fun s => decide (s ∈ ns)) ++ pickL ns ts := rfl
          have := List.length_filter_le (fun s => decide (s ∈ ns)) [t, -t]
          rw [e, List.length_append, List.length_cons]
          simp at this
          omega
      have := pl ones
      have l : ones.length = 60 := by simp [ones]
      unfold riseL
      omega
  cases v with
  | int t =>
    have hr : (if 1 ≤ t ∧ t ≤ 60 then meetL one other t else none) = some r := hr
    split at hr
    · unfold meetL at hr
      split at hr
      · split at hr
        · cases hr
        · cases hr; exact key _
      · cases hr
    · cases hr
  | _ => cases hr
theorem small_ints : ∀ {ns : List Int}, Sgs ns → smalls (ns.map Vl.int) = true ∧ dpts (ns.map Vl.int) = 0 ∧ szs (ns.map Vl.int) = 1923 * ns.length
  | [], _ => ⟨rfl, rfl, rfl⟩
  | n :: ns, h => by
    obtain ⟨h1, h2, h3⟩ := small_ints (ns := ns) fun s hs => h s (List.mem_cons_of_mem _ hs)
    have hn := h n List.mem_cons_self
    have : n.natAbs.log2 < 1920 := by
      have : n.natAbs.log2 < 60 := (Nat.log2_lt (by omega)).mpr (by omega)
      omega
    refine ⟨by simp [smalls, small, this, h1], by simp [dpts, dpt, h2], by simp only [List.map_cons, szs, sz, h3, List.length_cons]; omega⟩
/-! tuples of ints -/
theorem neT_int (ns ms : List Int) : cop h .ne (.tup (ns.map Vl.int)) (.tup (ms.map Vl.int)) = some (!decide (ns = ms)) := by
  show (eqV (.tup (ns.map Vl.int)) (.tup (ms.map Vl.int))).map not = _
  rw [eqT_int]; rfl
theorem idx_drawT {vs : List Vl} {i : Int} (h0 : 0 ≤ i) (h1 : i < vs.length) : ∃ v ∈ vs, idx h (.tup vs) (.int i) = some v := by
  obtain ⟨n, rfl⟩ := Int.eq_ofNat_of_zero_le h0
  have hn : n < vs.length := by omega
  refine ⟨vs[n], List.getElem_mem hn, ?_⟩
  have := idx_tup (h := h) hn
  rw [this]
  simp [hn]
/-- signs of the first nine things, each once -/
structure Gd (m : Int) (ns : List Int) : Prop where
  nd : ns.Nodup
  sg : ∀ s ∈ ns, 1 ≤ s.natAbs ∧ (s.natAbs : Int) ≤ m
  ln : ns.length ≤ 60
theorem Gd.sgs {m : Int} {ns : List Int} (g : Gd m ns) (hm : m ≤ 60) : Sgs ns := fun s hs => by have := g.sg s hs; omega
theorem Cl.gd {m : Int} {ns : List Int} (c : Cl m ns) (hm : m ≤ 60) : Gd m ns := by
  refine ⟨c.rise.imp fun {a b} h e => by subst e; omega, c.sgs, ?_⟩
  have h2 : (ns.map fun s => (s.natAbs : Int)).Pairwise (· < ·) := by
    rw [List.pairwise_map]
    exact c.rise.imp fun {a b} h => by omega
  have := lt_len (lo := 0) (hi := 60) h2 fun t ht => by
    obtain ⟨s, hs, rfl⟩ := List.mem_map.mp ht
    have := c.sgs s hs
    omega
  rw [List.length_map] at this
  omega
end
end VM

set_option maxHeartbeats 1000000
/-! VMRows: rows in which clauses meet. -/
namespace VM
open PySem (Str)
def isToldB (w : Nat) : Ss := (.cons (.ret (.and (.cmp .eq (.bi .len (.cons (.var 0) .nil)) (.cst (.int 2))) (.and (.cmp .eq (.idx (.var 0) (.cst (.int 0))) (.cst (.str "told"))) (.call w (.cons (.idx (.var 0) (.cst (.int 1))) (.cons (.cst (.int 0)) (.cons (.bin .sub (.var 1) (.cst (.int 1))) .nil)))))))
  .nil)
def isToldF (w : Nat) : Fn := ⟨2, 2, [], isToldB w⟩
def isMetB (w : Nat) : Ss := (.cons (.ret (.and (.cmp .eq (.bi .len (.cons (.var 0) .nil)) (.cst (.int 4))) (.and (.cmp .eq (.idx (.var 0) (.cst (.int 0))) (.cst (.str "met"))) (.and (.call w (.cons (.idx (.var 0) (.cst (.int 1))) (.cons (.cst (.int 0)) (.cons (.bin .sub (.var 1) (.cst (.int 1))) .nil)))) (.call w (.cons (.idx (.var 0) (.cst (.int 2))) (.cons (.cst (.int 0)) (.cons (.bin .sub (.var 1) (.cst (.int 1))) .nil))))))))
  .nil)
def isMetF (w : Nat) : Fn := ⟨2, 2, [], isMetB w⟩
def rowClauseB (td im mt : Nat) : Ss := (.cons (.iff (.or (.nt (.isa (.var 1) [.tuple])) (.or (.cmp .eq (.var 1) (.tup .nil)) (.nt (.isa (.idx (.var 1) (.cst (.int 0))) [.str])))) (.cons (.ret (.cst (.non)))
    .nil) .nil)
  (.cons (.iff (.call td (.cons (.var 1) (.cons (.bi .len (.cons (.var 0) .nil)) .nil))) (.cons (.ret (.idx (.var 0) (.idx (.var 1) (.cst (.int 1)))))
    .nil) .nil)
  (.cons (.iff (.nt (.call im (.cons (.var 1) (.cons (.bi .len (.cons (.var 2) .nil)) .nil)))) (.cons (.ret (.cst (.non)))
    .nil) .nil)
  (.cons (.tryo (.cons (.asg (.n 3) (.call mt (.cons (.idx (.var 2) (.idx (.var 1) (.cst (.int 1)))) (.cons (.idx (.var 2) (.idx (.var 1) (.cst (.int 2)))) (.cons (.idx (.var 1) (.cst (.int 3))) .nil)))))
    .nil) ["NoMeeting"] (.cons (.asg (.n 3) (.cst (.non)))
    .nil))
  (.cons (.ret (.var 3))
  .nil)))))
def rowClauseF (td im mt : Nat) : Fn := ⟨3, 4, [], rowClauseB td im mt⟩
def rowClausesB_0 (rc : Nat) : Ss := (.cons (.asg (.n 5) (.call rc (.cons (.var 0) (.cons (.var 4) (.cons (.var 2) .nil)))))
  (.cons (.iff (.isN (.var 5)) (.cons (.raise "NoRows" ["number"] (.cons (.var 3) .nil))
    .nil) .nil)
  (.cons (.app 2 (.var 5))
  .nil)))
def rowClausesB (rc : Nat) : Ss := (.cons (.iff (.or (.nt (.isa (.var 1) [.list])) (.cmp .eq (.var 1) (.lst .nil))) (.cons (.raise "NoRows" ["number"] (.cons (.cst (.non)) .nil))
    .nil) .nil)
  (.cons (.asg (.n 2) (.alloc (.lst .nil)))
  (.cons (.loop (.tup [.n 3, .n 4]) (.enum (.var 1)) (rowClausesB_0 rc))
  (.cons (.ret (.var 2))
  .nil))))
def rowClausesF (rc : Nat) : Fn := ⟨2, 6, [], rowClausesB rc⟩
def lawRowsB_0 (lw lm : Nat) : Ss := (.cons (.asg (.n 5) (.cst (.non)))
  (.cons (.iff (.and (.isa (.var 4) [.tuple]) (.and (.cmp .eq (.bi .len (.cons (.var 4) .nil)) (.cst (.int 2))) (.and (.cmp .eq (.idx (.var 4) (.cst (.int 0))) (.cst (.str "told"))) (.call lw (.cons (.idx (.var 4) (.cst (.int 1))) .nil))))) (.cons (.iff (.and (.cmp .le (.cst (.int 0)) (.idx (.var 4) (.cst (.int 1)))) (.cmp .lt (.idx (.var 4) (.cst (.int 1))) (.bi .len (.cons (.var 0) .nil)))) (.cons (.asg (.n 5) (.idx (.var 0) (.idx (.var 4) (.cst (.int 1)))))
      .nil) .nil)
    .nil) .nil)
  (.cons (.iff (.and (.isa (.var 4) [.tuple]) (.and (.cmp .eq (.bi .len (.cons (.var 4) .nil)) (.cst (.int 4))) (.cmp .eq (.idx (.var 4) (.cst (.int 0))) (.cst (.str "met"))))) (.cons (.iff (.and (.cmp .eq (.lc (.var 6) (.n 6) (.e (.slc (.var 4) (.some (.cst (.int 1))) .no)) (.cons (.nt (.call lw (.cons (.var 6) .nil))) .nil) [6]) (.lst .nil)) (.cmp .lt (.cst (.int 0)) (.idx (.var 4) (.cst (.int 3))))) (.cons (.iff (.and (.cmp .le (.cst (.int 0)) (.idx (.var 4) (.cst (.int 1)))) (.and (.cmp .lt (.idx (.var 4) (.cst (.int 1))) (.var 3)) (.and (.cmp .le (.cst (.int 0)) (.idx (.var 4) (.cst (.int 2)))) (.cmp .lt (.idx (.var 4) (.cst (.int 2))) (.var 3))))) (.cons (.asg (.n 5) (.call lm (.cons (.idx (.var 2) (.idx (.var 4) (.cst (.int 1)))) (.cons (.idx (.var 2) (.idx (.var 4) (.cst (.int 2)))) (.cons (.idx (.var 4) (.cst (.int 3))) .nil)))))
        .nil) .nil)
      .nil) .nil)
    .nil) .nil)
  (.cons (.iff (.isN (.var 5)) (.cons (.ret (.lst (.cons (.cst (.str "no")) (.cons (.var 3) .nil))))
    .nil) .nil)
  (.cons (.app 2 (.var 5))
  .nil)))))
def lawRowsB (lw lm : Nat) : Ss := (.cons (.iff (.or (.nt (.isa (.var 1) [.list])) (.cmp .eq (.var 1) (.lst .nil))) (.cons (.ret (.lst (.cons (.cst (.str "no")) (.cons (.cst (.non)) .nil))))
    .nil) .nil)
  (.cons (.asg (.n 2) (.lst .nil))
  (.cons (.loop (.tup [.n 3, .n 4]) (.enum (.var 1)) (lawRowsB_0 lw lm))
  (.cons (.ret (.var 2))
  .nil))))
def lawRowsF (lw lm : Nat) : Fn := ⟨2, 7, [], lawRowsB lw lm⟩
def drawnB_0 (tk lm : Nat) : Ss := (.cons (.iff (.cmp .ne (.var 3) (.lst .nil)) (.cons (.asg (.n 8) (.call tk (.cons (.var 0) (.cons (.bi .len (.cons (.var 3) .nil)) .nil))))
    (.cons (.asg (.n 9) (.call tk (.cons (.var 0) (.cons (.bi .len (.cons (.var 3) .nil)) .nil))))
    (.cons (.asg (.n 10) (.lc (.var 11) (.n 11) (.e (.idx (.var 3) (.var 8))) (.cons (.and (.cmp .gt (.var 11) (.cst (.int 0))) (.cmp .isin (.bin .sub (.cst (.int 0)) (.var 11)) (.idx (.var 3) (.var 9)))) .nil) [11]))
    (.cons (.asg (.n 10) (.lc (.var 11) (.n 11) (.e (.var 10)) (.cons (.notN (.call lm (.cons (.idx (.var 3) (.var 8)) (.cons (.idx (.var 3) (.var 9)) (.cons (.var 11) .nil))))) .nil) [11]))
    (.cons (.iff (.cmp .ne (.var 10) (.lst .nil)) (.cons (.asg (.n 5) (.tup (.cons (.cst (.str "met")) (.cons (.var 8) (.cons (.var 9) (.cons (.idx (.var 10) (.call tk (.cons (.var 0) (.cons (.bi .len (.cons (.var 10) .nil)) .nil)))) .nil))))))
      (.cons (.asg (.n 6) (.call lm (.cons (.idx (.var 3) (.var 8)) (.cons (.idx (.var 3) (.var 9)) (.cons (.idx (.var 5) (.cst (.int 3))) .nil)))))
      .nil)) .nil)
    .nil))))) .nil)
  .nil)
def drawnB_1 (tk lm : Nat) : Ss := (.cons (.asg (.n 5) (.tup (.cons (.cst (.str "told")) (.cons (.call tk (.cons (.var 0) (.cons (.bi .len (.cons (.var 1) .nil)) .nil))) .nil))))
  (.cons (.asg (.n 6) (.idx (.var 1) (.idx (.var 5) (.cst (.int 1)))))
  (.cons (.loop (.n 7) (.range1 (.cst (.int 4))) (drawnB_0 tk lm))
  (.cons (.app 2 (.var 5))
  (.cons (.app 3 (.var 6))
  .nil)))))
def drawnB (tk lm : Nat) : Ss := (.cons (.asg (.n 2) (.lst .nil))
  (.cons (.asg (.n 3) (.lst .nil))
  (.cons (.loop (.n 4) (.range1 (.bin .add (.cst (.int 1)) (.call tk (.cons (.var 0) (.cons (.cst (.int 12)) .nil))))) (drawnB_1 tk lm))
  (.cons (.ret (.var 2))
  .nil))))
def drawnF (tk lm : Nat) : Fn := ⟨2, 12, [], drawnB tk lm⟩
def bentB (tk : Nat) : Ss := (.cons (.asg (.n 2) (.call tk (.cons (.var 0) (.cons (.bi .len (.cons (.var 1) .nil)) .nil))))
  (.cons (.asg (.n 3) (.idx (.var 1) (.var 2)))
  (.cons (.asg (.n 4) (.call tk (.cons (.var 0) (.cons (.bi .len (.cons (.var 3) .nil)) .nil))))
  (.cons (.asg (.n 5) (.idx (.lst (.cons (.cst (.non)) (.cons (.cst (.bl true)) (.cons (.neg (.cst (.int 1))) (.cons (.cst (.int 99)) (.cons (.cst (.int 0)) (.cons (.cst (.int 1)) (.cons (.cst (.str "told")) (.cons (.cst (.str "met")) (.cons (.tup (.cons (.cst (.int 1)) .nil)) (.cons (.cst (.int 2)) .nil))))))))))) (.call tk (.cons (.var 0) (.cons (.cst (.int 10)) .nil)))))
  (.cons (.asg (.n 6) (.bin .add (.bin .add (.slc (.var 3) .no (.some (.var 4))) (.tup (.cons (.var 5) .nil))) (.slc (.var 3) (.some (.bin .add (.var 4) (.cst (.int 1)))) .no)))
  (.cons (.asg (.n 7) (.lst (.cons (.bin .add (.bin .add (.slc (.var 1) .no (.some (.var 2))) (.lst (.cons (.var 6) .nil))) (.slc (.var 1) (.some (.bin .add (.var 2) (.cst (.int 1)))) .no)) (.cons (.bin .add (.slc (.var 1) .no (.some (.var 2))) (.slc (.var 1) (.some (.bin .add (.var 2) (.cst (.int 1)))) .no)) (.cons (.rev (.var 1)) .nil)))))
  (.cons (.app 7 (.bin .add (.bin .add (.slc (.var 1) .no (.some (.var 2))) (.lst (.cons (.bi .list (.cons (.var 3) .nil)) .nil))) (.slc (.var 1) (.some (.var 2)) .no)))
  (.cons (.asg (.n 7) (.bin .add (.var 7) (.lst (.cons (.bin .add (.bin .add (.slc (.var 1) .no (.some (.var 2))) (.lst (.cons (.var 5) .nil))) (.slc (.var 1) (.some (.var 2)) .no)) (.cons (.bi .tuple (.cons (.var 1) .nil)) (.cons (.bin .add (.var 1) (.lst (.cons (.bin .add (.var 3) (.tup (.cons (.cst (.int 0)) .nil))) .nil))) (.cons (.bin .add (.var 1) (.lst (.cons (.slc (.var 3) .no (.some (.neg (.cst (.int 1))))) .nil))) .nil)))))))
  (.cons (.ret (.idx (.var 7) (.call tk (.cons (.var 0) (.cons (.cst (.int 8)) .nil)))))
  .nil)))))))))
def bentF (tk : Nat) : Fn := ⟨2, 8, [], bentB tk⟩

/-! plain -/
structure Dt (v : Vl) : Prop where
  sm : small v = true
  dp : dpt v ≤ 5
theorem Dt.pd {v : Vl} (h : Dt v) : ∃ d, VM.pd v = some d ∧ d.depth ≤ 5 := by
  obtain ⟨d, h1, _, h3, _⟩ := pd_small v h.sm
  exact ⟨d, h1, by rw [h3]; exact h.dp⟩
theorem Dt.ne {v : Vl} (h : Dt v) : isEx v = false := by
  cases v <;> first | rfl | (have := h.sm; simp [small] at this)
def isStr (s : Str) : Vl → Bool
  | .str z => decide (z = s)
  | _ => false
theorem smalls_mem {v : Vl} : ∀ {vs : List Vl}, smalls vs = true → v ∈ vs → small v = true
  | [], _, h => by cases h
  | u :: vs, hs, h => by
    simp only [smalls, Bool.and_eq_true] at hs
    rcases List.mem_cons.mp h with rfl | h
    · exact hs.1
    · exact smalls_mem hs.2 h
theorem dpts_mem {v : Vl} : ∀ {vs : List Vl}, v ∈ vs → dpt v ≤ dpts vs
  | [], h => by cases h
  | u :: vs, h => by
    simp only [dpts]
    rcases List.mem_cons.mp h with rfl | h
    · omega
    · have := dpts_mem h; omega
theorem Dt.tup {vs : List Vl} (h : Dt (.tup vs)) : ∀ v ∈ vs, Dt v := fun v hv => by
  obtain ⟨h1, h2⟩ := h
  simp only [small, dpt] at h1 h2
  exact ⟨smalls_mem h1 hv, by have := dpts_mem hv; omega⟩
theorem Dt.lst {vs : List Vl} (h : Dt (.lst vs)) : ∀ v ∈ vs, Dt v := fun v hv => by
  obtain ⟨h1, h2⟩ := h
  simp only [small, dpt] at h1 h2
  exact ⟨smalls_mem h1 hv, by have := dpts_mem hv; omega⟩
section
variable {h : Heap}
theorem eq_strD {v : Vl} (hv : Dt v) (s : Str) : cop h .eq v (.str s) = some (isStr s v) := by
  obtain ⟨d, h1, h2⟩ := hv.pd
  have e : cop h .eq v (.str s) = eqV v (.str s) := by
    cases v <;> first | rfl | (have := hv.sm; simp [small] at this)
  rw [e, eqV_ok h1 (e := .str s) rfl (by omega) (by simp [PySem.PyData.depth])]
  cases v with
  | str z =>
    simp only [VM.pd] at h1
    cases h1
    have : PySem.PyData.eqv (.str z) (.str s) = (z == s) := rfl
    rw [this]
    show some (z == s) = some (decide (z = s))
    congr 1
  | tup vs =>
    simp only [VM.pd] at h1
    obtain ⟨ds, _, rfl⟩ := Option.map_eq_some_iff.mp h1
    rfl
  | lst vs =>
    simp only [VM.pd] at h1
    obtain ⟨ds, _, rfl⟩ := Option.map_eq_some_iff.mp h1
    rfl
  | non => simp only [VM.pd] at h1; cases h1; rfl
  | bl b => simp only [VM.pd] at h1; cases h1; cases b <;> rfl
  | int i => simp only [VM.pd] at h1; cases h1; rfl
  | _ => have := hv.sm; simp [small] at this
theorem eq_nilT {vs : List Vl} (hv : Dt (.tup vs)) : cop h .eq (.tup vs) (.tup []) = some vs.isEmpty := by
  obtain ⟨d, h1, h2⟩ := hv.pd
  show eqV (.tup vs) (.tup []) = _
  rw [eqV_ok h1 (e := .tuple []) rfl (by omega) (by simp [PySem.PyData.depth, PySem.PyData.depthAll])]
  simp only [VM.pd] at h1
  obtain ⟨ds, e1, rfl⟩ := Option.map_eq_some_iff.mp h1
  cases vs with
  | nil => simp only [pds] at e1; cases e1; rfl
  | cons v vs =>
    simp only [pds] at e1
    split at e1
    · cases e1; rfl
    · cases e1
theorem eq_nilL {vs : List Vl} (hv : Dt (.lst vs)) : cop h .eq (.lst vs) (.lst []) = some vs.isEmpty := by
  obtain ⟨d, h1, h2⟩ := hv.pd
  show eqV (.lst vs) (.lst []) = _
  rw [eqV_ok h1 (e := .list []) rfl (by omega) (by simp [PySem.PyData.depth, PySem.PyData.depthAll])]
  simp only [VM.pd] at h1
  obtain ⟨ds, e1, rfl⟩ := Option.map_eq_some_iff.mp h1
  cases vs with
  | nil => simp only [pds] at e1; cases e1; rfl
  | cons v vs =>
    simp only [pds] at e1
    split at e1
    · cases e1; rfl
    · cases e1
end
/-- a list that is looked at: by its content, or a cell -/
def ListAt (h : Heap) (D : Vl) (L : List Vl) : Prop := D = .lst L ∨ ∃ a, D = .ref a ∧ h[a]? = some (.lst L)
section
variable {h : Heap} {D : Vl} {L : List Vl}
theorem ListAt.len (x : ListAt h D L) : bi h .len [D] = some (.v (.int L.length)) := by
  rcases x with rfl | ⟨a, rfl, e⟩
  · rfl
  · simp [bi, dits, items, e]
theorem ListAt.idx (x : ListAt h D L) {k : Nat} (hk : k < L.length) : VM.idx h D (.int (k : Int)) = L[k]? := by
  rcases x with rfl | ⟨a, rfl, e⟩
  · exact idx_lst hk
  · exact idx_ref e hk
end
/-- the clause of a row -/
def toldV1 (cls : List (List Int)) : Vl → Option (List Int)
  | .int i => if 0 ≤ i ∧ i < cls.length then cls[i.toNat]? else none
  | _ => none
def metV1 (ahead : List (List Int)) (a b v : Vl) : Option (List Int) := if inW 0 ((ahead.length : Int) - 1) a && inW 0 ((ahead.length : Int) - 1) b then (match a, b with
  | .int a, .int b => metV ((ahead[a.toNat]?.getD [])) ((ahead[b.toNat]?.getD [])) v
  | _, _ => none) else none
def rowV (cls ahead : List (List Int)) : Vl → Option (List Int)
  | .tup [.str s, v] => if s = "told" then toldV1 cls v else none
  | .tup [.str s, a, b, v] => if s = "met" then metV1 ahead a b v else none
  | _ => none
def rowsV (cls : List (List Int)) : List (List Int) → List Vl → Sum Nat (List (List Int))
  | acc, [] => .inr acc
  | acc, r :: rest => match rowV cls acc r with
    | none => .inl acc.length
    | some c => rowsV cls (acc ++ [c]) rest
def thingV (cls : List (List Int)) : Vl → Sum Vl (List (List Int))
  | .lst (r :: rs) => match rowsV cls [] (r :: rs) with
    | .inl n => .inl (.int (n : Int))
    | .inr f => .inr f
  | _ => .inl .non
def optV : Option (List Int) → Vl
  | none => .non
  | some r => tupI r
theorem met_gd {one other r : List Int} {v : Vl} (hr : metV one other v = some r) : Gd 60 r := by
  have key : ∀ ns : List Int, confB ns = false → Gd 60 (riseL ns) := fun ns hc => by
    refine Cl.gd (m := 60) ⟨rise_rise hc, fun s hs => ?_⟩ (by omega)
    obtain ⟨_, h⟩ := pick_mem.mp hs
    rw [ones_mem, ones_mem] at h
    omega
  cases v with
  | int t =>
    have hr : (if 1 ≤ t ∧ t ≤ 60 then meetL one other t else none) = some r := hr
    split at hr
    · unfold meetL at hr
      split at hr
      · split at hr
        · cases hr
        · rename_i hc
          cases hr; exact key _ (by simpa using hc)
      · cases hr
    · cases hr
  | _ => cases hr
def AllG (cls : List (List Int)) : Prop := ∀ c ∈ cls, Gd 60 c
theorem AllG.getD {cls : List (List Int)} (g : AllG cls) (k : Nat) : Gd 60 ((cls[k]?.getD [])) := by
  cases e : cls[k]? with
  | none => exact ⟨by simp, (fun s hs => by simp at hs), by simp⟩
  | some c => exact g c (List.mem_of_getElem? e)
theorem rowV_gd {cls ahead : List (List Int)} {row : Vl} {r : List Int} (g : AllG cls) (hr : rowV cls ahead row = some r) : Gd 60 r := by
  unfold rowV at hr
  split at hr
  · split at hr
    · unfold toldV1 at hr
      split at hr
      · split at hr
        · exact g r (List.mem_of_getElem? hr)
        · cases hr
      · cases hr
    · cases hr
  · split at hr
    · unfold metV1 at hr
      split at hr
      · split at hr
        · exact met_gd hr
        · cases hr
      · cases hr
    · cases hr
  · cases hr
section
variable {h : Heap} {a k i : Nat} {fs : List Fn} {fuel : Nat} {glob : Nat → Option Vl} {Q : Rv → Heap → Prop} {Z : Ex → Heap → Prop} {w u : Nat}
def isToldV (s : Str) (many : Int) : List Vl → Bool
  | [v] => decide (s = "told") && inW 0 (many - 1) v
  | _ => false
def isMetV (s : Str) (many : Int) : List Vl → Bool
  | [a, b, _] => decide (s = "met") && (inW 0 (many - 1) a && inW 0 (many - 1) b)
  | _ => false
theorem isTold_ok {s : Str} {rest : List Vl} {many : Int} (hi : fs[i]? = some (isToldF w)) (hw : fs[w]? = some (isWithinF u)) (hu : fs[u]? = some wholeF) (hd : ∀ v ∈ rest, Dt v) (hl : rest.length ≤ 1000)
    (q : Q (.v (.bl (isToldV s many rest))) h) : WpF (run fs fuel glob (k + 3) i [.tup (.str s :: rest), .int many] h) Q Z := by
  refine wpF_run (fn := isToldF w) hi (by simp [isToldF]) ?_
  have i0 : ∀ h, idx h (.tup (.str s :: rest)) (.int 0) = some (.str s) := fun h => idx_tup (k := 0) (by simp)
  match rest, hd, hl, q with
  | [v], hd, hl, q =>
    have i1 : ∀ h, idx h (.tup [.str s, v]) (.int 1) = some v := fun h => idx_tup (k := 1) (by simp)
    simp [isToldF, isToldB, retE, i0, i1]
    by_cases hs : s = "told"
    · refine .inr ⟨hs, ?_⟩
      refine isWithin_ok hw hu (hd v (by simp)).ne ?_
      simpa [isToldV, isMetV, hs] using q
    · refine .inl ⟨hs, ?_⟩
      simpa [isToldV, isMetV, hs] using q
  | [], hd, hl, q => simp [isToldF, isToldB, retE]; exact q
  | _ :: _ :: r, hd, hl, q =>
    simp [isToldF, isToldB, retE]
    refine .inl ⟨by omega, q⟩
theorem isMet_ok {s : Str} {rest : List Vl} {many : Int} (hi : fs[i]? = some (isMetF w)) (hw : fs[w]? = some (isWithinF u)) (hu : fs[u]? = some wholeF) (hd : ∀ v ∈ rest, Dt v) (hl : rest.length ≤ 1000)
    (q : Q (.v (.bl (isMetV s many rest))) h) : WpF (run fs fuel glob (k + 3) i [.tup (.str s :: rest), .int many] h) Q Z := by
  refine wpF_run (fn := isMetF w) hi (by simp [isMetF]) ?_
  have i0 : ∀ h, idx h (.tup (.str s :: rest)) (.int 0) = some (.str s) := fun h => idx_tup (k := 0) (by simp)
  match rest, hd, hl, q with
  | [x, y, v], hd, hl, q =>
    have i1 : ∀ h, idx h (.tup [.str s, x, y, v]) (.int 1) = some x := fun h => idx_tup (k := 1) (by simp)
    have i2 : ∀ h, idx h (.tup [.str s, x, y, v]) (.int 2) = some y := fun h => idx_tup (k := 2) (by simp)
    simp [isMetF, isMetB, retE, i0, i1, i2]
    by_cases hs : s = "met"
    · refine .inr ⟨hs, ?_⟩
      refine isWithin_ok hw hu (hd x (by simp)).ne ?_
      cases hx : inW 0 (many - 1) x with
      | false => simpa [isMetV, hs, hx] using q
      | true =>
        simp [i2]
        refine isWithin_ok hw hu (hd y (by simp)).ne ?_
        simpa [isMetV, hs, hx] using q
    · refine .inl ⟨hs, ?_⟩
      simpa [isToldV, isMetV, hs] using q
  | [], hd, hl, q => simp [isMetF, isMetB, retE]; exact q
  | [_], hd, hl, q => simp [isMetF, isMetB, retE]; exact q
  | [_, _], hd, hl, q => simp [isMetF, isMetB, retE]; exact q
  | _ :: _ :: _ :: _ :: r, hd, hl, q =>
    simp [isMetF, isMetB, retE]
    refine .inl ⟨by omega, q⟩
theorem inW_int {lo up : Int} {v : Vl} (hv : inW lo up v = true) : ∃ t, v = .int t ∧ lo ≤ t ∧ t ≤ up := by
  cases v with
  | int t =>
    have hv : (decide (lo ≤ t) && decide (t ≤ up)) = true := hv
    simp only [Bool.and_eq_true, decide_eq_true_eq] at hv
    exact ⟨t, rfl, hv⟩
  | _ => cases hv
theorem told_in {cls : List (List Int)} {v : Vl} (hv : inW 0 ((cls.length : Int) - 1) v = true) : ∃ n : Nat, v = .int (n : Int) ∧ n < cls.length ∧ toldV1 cls v = some ((cls[n]?.getD [])) := by
  obtain ⟨t, rfl, t1, t2⟩ := inW_int hv
  obtain ⟨n, rfl⟩ := Int.eq_ofNat_of_zero_le t1
  have hn : n < cls.length := by omega
  refine ⟨n, rfl, hn, ?_⟩
  show (if 0 ≤ (n : Int) ∧ (n : Int) < cls.length then cls[((n : Int)).toNat]? else none) = _
  rw [if_pos ⟨by omega, by omega⟩, Int.toNat_natCast]
  simp [hn]
theorem told_out {cls : List (List Int)} {v : Vl} (hv : inW 0 ((cls.length : Int) - 1) v = false) : toldV1 cls v = none := by
  cases v with
  | int t =>
    show (if 0 ≤ t ∧ t < cls.length then cls[t.toNat]? else none) = none
    rw [if_neg]
    intro z
    have hv : (decide (0 ≤ t) && decide (t ≤ (cls.length : Int) - 1)) = false := hv
    have : (decide (0 ≤ t) && decide (t ≤ (cls.length : Int) - 1)) = true := by
      simp only [Bool.and_eq_true, decide_eq_true_eq]; omega
    rw [hv] at this; cases this
  | _ => rfl
theorem get_tup {ns : List (List Int)} {n : Nat} (hn : n < ns.length) : (ns.map tupI)[n]? = some (tupI ((ns[n]?.getD []))) := by simp [hn]
def metRow (ahead : List (List Int)) (s : Str) : List Vl → Option (List Int)
  | [a, b, v] => if s = "met" then metV1 ahead a b v else none
  | _ => none
/-- behind the look for told rows -/
def RcS (C D : Vl) (cls ahead : List (List Int)) (s : Str) (rest : List Vl) (h : Heap) (s' : St) : Prop := rowV cls ahead (.tup (.str s :: rest)) = metRow ahead s rest ∧ s' = ⟨[some (.v C), some (.v (.tup (.str s :: rest))), some (.v D), none], h⟩
def RcM (C D : Vl) (ahead : List (List Int)) (s : Str) (rest : List Vl) (h : Heap) (s' : St) : Prop := ∃ (a b : Nat) (v : Vl), rest = [.int (a : Int), .int (b : Int), v] ∧ s = "met" ∧ a < ahead.length ∧ b < ahead.length ∧ s' = ⟨[some (.v C), some (.v (.tup (.str s :: rest))), some (.v D), none], h⟩
theorem rowClause_ok {C D row : Vl} {cls ahead : List (List Int)} {td im mt c : Nat} (hi : fs[i]? = some (rowClauseF td im mt)) (htd : fs[td]? = some (isToldF w)) (him : fs[im]? = some (isMetF w)) (hmt : fs[mt]? = some (metF w c)) (hw : fs[w]? = some (isWithinF u)) (hu : fs[u]? = some wholeF) (hc : fs[c]? = some clauseOfF)
    (hC : ListAt h C (cls.map tupI)) (hD : ListAt h D (ahead.map tupI)) (g1 : AllG cls) (g2 : AllG ahead) (hr : Dt row) (hrl : ∀ vs, row = .tup vs → vs.length ≤ 1000) (q : Q (.v (optV (rowV cls ahead row))) h) : WpF (run fs fuel glob (k + 4) i [C, row, D] h) Q Z := by
  refine wpF_run (fn := rowClauseF td im mt) hi (by simp [rowClauseF]) ?_
  simp only [rowClauseF, rowClauseB, List.length_cons, List.length_nil, List.map_cons, List.map_nil, List.append_nil, List.drop_nil, List.cons_append, List.nil_append]
  refine wp_cons _ (fun s' => ∃ s rest, row = .tup (.str s :: rest) ∧ s' = ⟨[some (.v C), some (.v row), some (.v D), none], h⟩) (wp_iff _ ?_) ?_
  · have nt : rowV cls ahead row = none → Q (.v .non) h := fun z => by rw [z] at q; exact q
    simp [hr.ne]
    cases row with
    | tup vs =>
      simp [isTy, eq_nilT hr]
      match vs, hr, nt with
      | [], hr, nt => simp [retE]; exact nt rfl
      | v0 :: rest, hr, nt =>
        have i0 : ∀ h, idx h (.tup (v0 :: rest)) (.int 0) = some v0 := fun h => idx_tup (k := 0) (by simp)
        have hv := hr.tup v0 (by simp)
        simp [i0, hv.ne]
        cases v0 with
        | str s => simp [isTy]
        | exn _ _ => have := hv.sm; simp [small] at this
        | _ =>
          simp [isTy, retE, lits, dits]
          try exact nt rfl
    | exn _ _ => have := hr.ne; cases this
    | _ => simp [isTy, retE]; exact nt rfl
  rintro _ ⟨s, rest, rfl, rfl⟩
  have hrest : ∀ v ∈ rest, Dt v := fun v hv => hr.tup v (by simp [hv])
  have ln : rest.length ≤ 1000 := by have := hrl _ rfl; simp at this; omega
  refine wp_cons _ (RcS C D cls ahead s rest h) (wp_iff _ ?_) ?_
  · simp [hC.len]
    refine isTold_ok htd hw hu hrest ln ?_
    have fin : rowV cls ahead (.tup (.str s :: rest)) = metRow ahead s rest → RcS C D cls ahead s rest h ⟨[some (.v C), some (.v (.tup (.str s :: rest))), some (.v D), none], h⟩ := fun e => ⟨e, rfl⟩
    match rest, hrest, q, fin with
    | [], _, q, fin => simp [isToldV]; exact fin rfl
    | [v], hrest, q', fin =>
      have i1 : ∀ h, idx h (.tup [.str s, v]) (.int 1) = some v := fun h => idx_tup (k := 1) (by simp)
      by_cases hs : s = "told"
      · cases hin : inW 0 ((cls.length : Int) - 1) v with
        | true =>
          obtain ⟨n, rfl, n1, n2⟩ := told_in hin
          have e : rowV cls ahead (.tup [.str s, .int (n : Int)]) = some ((cls[n]?.getD [])) := by simp only [rowV]; rw [if_pos hs]; exact n2
          rw [e] at q'
          have e2 := hC.idx (k := n) (by rw [List.length_map]; exact n1)
          rw [get_tup n1] at e2
          have et : isToldV s cls.length [.int (n : Int)] = true := by simp only [isToldV]; rw [decide_eq_true hs, hin]; rfl
          simp [et, retE, i1, e2]
          simpa [optV] using q'
        | false =>
          have et : isToldV s cls.length [v] = false := by simp only [isToldV]; rw [hin, Bool.and_false]
          simp [et]
          refine fin ?_
          simp only [rowV, metRow]
          rw [if_pos hs]; exact told_out hin
      · have et : isToldV s cls.length [v] = false := by simp only [isToldV]; rw [decide_eq_false hs, Bool.false_and]
        simp [et]
        refine fin ?_
        simp only [rowV, metRow]
        rw [if_neg hs]
    | [v1, v2], _, q, fin => simp [isToldV]; exact fin rfl
    | [v1, v2, v3], _, q, fin => simp [isToldV]; exact fin rfl
    | v1 :: v2 :: v3 :: v4 :: r, _, q, fin => simp [isToldV]; exact fin rfl
  rintro _ ⟨er, rfl⟩
  rw [er] at q
  refine wp_cons _ (RcM C D ahead s rest h) (wp_iff _ ?_) ?_
  · simp [hD.len]
    refine isMet_ok him hw hu hrest ln ?_
    match rest, hrest, q with
    | [], _, q => simp [isMetV, retE]; exact q
    | [v], _, q => simp [isMetV, retE]; exact q
    | [v, v2], _, q => simp [isMetV, retE]; exact q
    | [x, y, v], hrest, q =>
      simp only [metRow] at q
      by_cases hs : s = "met"
      · rw [if_pos hs] at q
        cases hx : inW 0 ((ahead.length : Int) - 1) x with
        | true =>
          cases hy : inW 0 ((ahead.length : Int) - 1) y with
          | true =>
            obtain ⟨t, rfl, t1, t2⟩ := inW_int hx
            obtain ⟨t', rfl, t1', t2'⟩ := inW_int hy
            obtain ⟨n, rfl⟩ := Int.eq_ofNat_of_zero_le t1
            obtain ⟨m, rfl⟩ := Int.eq_ofNat_of_zero_le t1'
            have fin : RcM C D ahead s [.int (n : Int), .int (m : Int), v] h ⟨[some (.v C), some (.v (.tup [.str s, .int (n : Int), .int (m : Int), v])), some (.v D), none], h⟩ := ⟨n, m, v, rfl, hs, by omega, by omega, rfl⟩
            have e : (decide (s = ("met" : Str)) && (inW 0 ((ahead.length : Int) - 1) (Vl.int (n : Int)) && inW 0 ((ahead.length : Int) - 1) (Vl.int (m : Int)))) = true := by
              rw [decide_eq_true hs]
              have hx2 : inW 0 ((ahead.length : Int) - 1) (Vl.int (n : Int)) = true := hx
              have hy2 : inW 0 ((ahead.length : Int) - 1) (Vl.int (m : Int)) = true := hy
              rw [hx2, hy2]; rfl
            have e : isMetV s ahead.length [.int (n : Int), .int (m : Int), v] = true := e
            simp [e]
            exact fin
          | false =>
            have e : metV1 ahead x y v = none := by unfold metV1; rw [hx, hy]; rfl
            rw [e] at q
            have et : isMetV s ahead.length [x, y, v] = false := by simp only [isMetV]; rw [hy, Bool.and_false, Bool.and_false]
            simp [et, retE]; exact q
        | false =>
          have e : metV1 ahead x y v = none := by unfold metV1; rw [hx]; rfl
          rw [e] at q
          have et : isMetV s ahead.length [x, y, v] = false := by simp only [isMetV]; rw [hx, Bool.false_and, Bool.and_false]
          simp [et, retE]; exact q
      · rw [if_neg hs] at q
        have et : isMetV s ahead.length [x, y, v] = false := by simp only [isMetV]; rw [decide_eq_false hs, Bool.false_and]
        simp [et, retE]; exact q
    | _ :: _ :: _ :: _ :: r, _, q => simp [isMetV, retE]; exact q
  rintro _ ⟨x, y, v, rfl, hs, x1, y1, rfl⟩
  have hv := hrest v (by simp)
  have i1 : ∀ h, idx h (.tup [.str s, .int (x : Int), .int (y : Int), v]) (.int 1) = some (.int (x : Int)) := fun h => idx_tup (k := 1) (by simp)
  have i2 : ∀ h, idx h (.tup [.str s, .int (x : Int), .int (y : Int), v]) (.int 2) = some (.int (y : Int)) := fun h => idx_tup (k := 2) (by simp)
  have i3 : ∀ h, idx h (.tup [.str s, .int (x : Int), .int (y : Int), v]) (.int 3) = some v := fun h => idx_tup (k := 3) (by simp)
  have j1 := hD.idx (k := x) (by rw [List.length_map]; exact x1)
  have j2 := hD.idx (k := y) (by rw [List.length_map]; exact y1)
  rw [get_tup x1] at j1
  rw [get_tup y1] at j2
  have ga := g2.getD x
  have gb := g2.getD y
  have em : metV1 ahead (.int (x : Int)) (.int (y : Int)) v = metV ((ahead[x]?.getD [])) ((ahead[y]?.getD [])) v := by
    unfold metV1
    rw [if_pos]
    · dsimp only
      rw [Int.toNat_natCast, Int.toNat_natCast]
    · simp only [inW, Bool.and_eq_true, decide_eq_true_eq]; omega
  have q : Q (.v (optV (metV ((ahead[x]?.getD [])) ((ahead[y]?.getD [])) v))) h := by
    simp only [metRow] at q
    rw [if_pos hs, em] at q; exact q
  refine wp_cons _ (fun s' => s' = ⟨[some (.v C), some (.v (.tup [.str s, .int (x : Int), .int (y : Int), v])), some (.v D), some (.v (optV (metV ((ahead[x]?.getD [])) ((ahead[y]?.getD [])) v)))], h⟩) (wp_tryo _ ?_) ?_
  · simp [i1, i2, i3, j1, j2]
    refine met_ok hmt hw hu hc (.inr rfl) (.inr rfl) (ga.sgs (by omega)) (gb.sgs (by omega)) (by have := ga.ln; omega) (by have := gb.ln; omega) hv.ne (fun r hr => ?_) fun hr => ?_
    · simp [hr, optV]
    · simp [noMeet, hr, optV]
  rintro _ rfl
  simp
  exact q
/-- a heap with more behind it -/
theorem listAt_more {C : Vl} {L : List Vl} (x : ListAt h C L) (m : List Cell) : ListAt (h ++ m) C L := by
  rcases x with rfl | ⟨a, rfl, e⟩
  · exact .inl rfl
  · exact .inr ⟨a, rfl, by rw [List.getElem?_append_left (List.getElem?_eq_some_iff.mp e).1]; exact e⟩
end
end VM

set_option maxHeartbeats 2000000
/-! VMRows2: lists of rows, the program's and a law's own. -/
namespace VM
open PySem (Str)
/-! kinds of things -/
structure At (v : Vl) : Prop where
  sm : small v = true
  dp : dpt v ≤ 1
  sz : VM.sz v ≤ 1930
structure Pt (v : Vl) : Prop where
  sm : small v = true
  dp : dpt v ≤ 3
  sz : VM.sz v ≤ 20000
  tl : ∀ ws, v = .tup ws → ws.length ≤ 1000
structure Tg (v : Vl) : Prop where
  sm : small v = true
  dp : dpt v ≤ 4
  sz : VM.sz v ≤ 600000
  el : ∀ vs, v = .lst vs → vs.length ≤ 100 ∧ ∀ r ∈ vs, Pt r
structure Lk (v : Vl) : Prop where
  ne : isEx v = false
  nr : ∀ a, v ≠ .ref a
  el : ∀ vs, v = .lst vs → Dt v ∧ vs.length ≤ 100 ∧ ∀ r ∈ vs, ∀ ws, r = .tup ws → ws.length ≤ 1000
theorem smalls_of : ∀ {vs : List Vl}, (∀ v ∈ vs, small v = true) → smalls vs = true
  | [], _ => rfl
  | v :: vs, h => by simp only [smalls, Bool.and_eq_true]; exact ⟨h v (by simp), smalls_of fun u hu => h u (by simp [hu])⟩
theorem dpts_of {n : Nat} : ∀ {vs : List Vl}, (∀ v ∈ vs, dpt v ≤ n) → dpts vs ≤ n
  | [], _ => by simp [dpts]
  | v :: vs, h => by
    have h1 := h v (by simp)
    have h2 := dpts_of (vs := vs) fun u hu => h u (by simp [hu])
    simp only [dpts]; omega
theorem szs_of {n : Nat} : ∀ {vs : List Vl}, (∀ v ∈ vs, VM.sz v ≤ n) → szs vs ≤ (n + 2) * vs.length
  | [], _ => by simp [szs]
  | v :: vs, h => by
    have h1 := h v (by simp)
    have h2 := szs_of (vs := vs) fun u hu => h u (by simp [hu])
    simp only [szs, List.length_cons, Nat.mul_add]; omega
theorem szs_len : ∀ vs : List Vl, 2 * vs.length ≤ szs vs
  | [] => by simp
  | v :: vs => by have := szs_len vs; simp only [szs, List.length_cons]; omega
theorem At.pt {v : Vl} (h : At v) : Pt v := ⟨h.sm, by have := h.dp; omega, by have := h.sz; omega, fun ws e => by
  subst e
  have := h.sz
  have := szs_len ws
  simp only [VM.sz] at *; omega⟩
theorem at_int {i : Int} (h : i.natAbs < 2 ^ 64) : At (.int i) := by
  refine ⟨?_, by simp [dpt], by simp [VM.sz]⟩
  have := log_lt h
  have : i.natAbs.log2 < 1920 := by omega
  simpa [small] using this
theorem pt_tup {ws : List Vl} (h : ∀ w ∈ ws, At w) (hl : ws.length ≤ 10) : Pt (.tup ws) := by
  have h1 := smalls_of fun v hv => (h v hv).sm
  have h2 := dpts_of fun v hv => (h v hv).dp
  have h3 := szs_of fun v hv => (h v hv).sz
  refine ⟨by simpa [small] using h1, by simp only [dpt]; omega, ?_, fun us e => by cases e; omega⟩
  simp only [VM.sz]
  have := Nat.mul_le_mul_left (1930 + 2) hl
  omega
theorem pt_lst {ws : List Vl} (h : ∀ w ∈ ws, At w) (hl : ws.length ≤ 10) : Pt (.lst ws) := by
  have h1 := smalls_of fun v hv => (h v hv).sm
  have h2 := dpts_of fun v hv => (h v hv).dp
  have h3 := szs_of fun v hv => (h v hv).sz
  refine ⟨by simpa [small] using h1, by simp only [dpt]; omega, ?_, fun us e => by cases e⟩
  simp only [VM.sz]
  have := Nat.mul_le_mul_left (1930 + 2) hl
  omega
theorem tg_lst {ws : List Vl} (h : ∀ w ∈ ws, Pt w) (hl : ws.length ≤ 29) : Tg (.lst ws) := by
  have h1 := smalls_of fun v hv => (h v hv).sm
  have h2 := dpts_of fun v hv => (h v hv).dp
  have h3 := szs_of fun v hv => (h v hv).sz
  refine ⟨by simpa [small] using h1, by simp only [dpt]; omega, ?_, fun us e => by cases e; exact ⟨by omega, h⟩⟩
  simp only [VM.sz]
  have := Nat.mul_le_mul_left (20000 + 2) hl
  omega
theorem tg_tup {ws : List Vl} (h : ∀ w ∈ ws, Pt w) (hl : ws.length ≤ 29) : Tg (.tup ws) := by
  have h1 := smalls_of fun v hv => (h v hv).sm
  have h2 := dpts_of fun v hv => (h v hv).dp
  have h3 := szs_of fun v hv => (h v hv).sz
  refine ⟨by simpa [small] using h1, by simp only [dpt]; omega, ?_, fun us e => by cases e⟩
  simp only [VM.sz]
  have := Nat.mul_le_mul_left (20000 + 2) hl
  omega
theorem Tg.dt {v : Vl} (h : Tg v) : Dt v := ⟨h.sm, by have := h.dp; omega⟩
theorem Tg.lk {v : Vl} (h : Tg v) : Lk v := ⟨h.dt.ne, fun a e => by subst e; have := h.sm; simp [small] at this, fun vs e => ⟨h.dt, (h.el vs e).1, fun r hr => ((h.el vs e).2 r hr).tl⟩⟩
theorem dt_lst {l : List Vl} (h : ∀ v ∈ l, small v = true ∧ dpt v ≤ 4) : Dt (.lst l) := by
  have h1 := smalls_of fun v hv => (h v hv).1
  have h2 := dpts_of fun v hv => (h v hv).2
  exact ⟨by simpa [small] using h1, by simp only [dpt]; omega⟩
theorem gd_small {ns : List Int} (g : Gd 60 ns) : small (tupI ns) = true ∧ dpt (tupI ns) = 1 ∧ VM.sz (tupI ns) ≤ 115384 := by
  obtain ⟨h1, h2, h3⟩ := small_ints (g.sgs (by omega))
  have := g.ln
  refine ⟨by simpa [tupI, small] using h1, by simp only [tupI, dpt, h2], ?_⟩
  simp only [tupI, VM.sz, h3]; omega
theorem dt_cls {acc : List (List Int)} (g : AllG acc) : Dt (.lst (acc.map tupI)) := dt_lst fun v hv => by
  obtain ⟨ns, hn, rfl⟩ := List.mem_map.mp hv
  obtain ⟨h1, h2, _⟩ := gd_small (g ns hn)
  exact ⟨h1, by omega⟩
section
variable {h : Heap}
theorem ne_nilL {vs : List Vl} (hv : Dt (.lst vs)) : cop h .ne (.lst vs) (.lst []) = some (!vs.isEmpty) := by
  have e : cop h .ne (.lst vs) (.lst []) = (cop h .eq (.lst vs) (.lst [])).map not := rfl
  rw [e, eq_nilL hv]; rfl
end
theorem AllG.snoc {acc : List (List Int)} {c : List Int} (g : AllG acc) (gc : Gd 60 c) : AllG (acc ++ [c]) := fun x hx => by
  rcases List.mem_append.mp hx with hx | hx
  · exact g x hx
  · rw [List.mem_singleton.mp hx]; exact gc
section
variable {h : Heap} {a k i : Nat} {fs : List Fn} {fuel : Nat} {glob : Nat → Option Vl} {Q : Rv → Heap → Prop} {Z : Ex → Heap → Prop} {w u : Nat}
/-! the program's -/
def RcI (C T : Vl) (cls : List (List Int)) (vs : List Vl) (h : Heap) (rest : List Vl) (s : St) : Prop := ∃ (acc : List (List Int)) (rs : List Vl) (x3 x4 x5 : Option Rv), rest = enumV rs (acc.length : Int) ∧ AllG acc ∧ (∀ r ∈ rs, r ∈ vs) ∧ rowsV cls acc rs = rowsV cls [] vs ∧ acc.length + rs.length = vs.length ∧ s = ⟨[some (.v C), some (.v T), some (.v (.ref h.length)), x3, x4, x5], h ++ [.lst (acc.map tupI)]⟩
theorem rowClauses_ok {C T : Vl} {cls : List (List Int)} {rc td im mt c : Nat} (hi : fs[i]? = some (rowClausesF rc)) (hrc : fs[rc]? = some (rowClauseF td im mt)) (htd : fs[td]? = some (isToldF w)) (him : fs[im]? = some (isMetF w)) (hmt : fs[mt]? = some (metF w c)) (hw : fs[w]? = some (isWithinF u)) (hu : fs[u]? = some wholeF) (hc : fs[c]? = some clauseOfF)
    (hC : ListAt h C (cls.map tupI)) (g : AllG cls) (hT : Lk T)
    (q1 : ∀ n m, thingV cls T = .inl n → Z ⟨"NoRows", [("number", n)]⟩ (h ++ m)) (q2 : ∀ f, thingV cls T = .inr f → AllG f → f.length ≤ 100 → Q (.v (.ref h.length)) (h ++ [.lst (f.map tupI)])) : WpF (run fs fuel glob (k + 5) i [C, T] h) Q Z := by
  refine wpF_run (fn := rowClausesF rc) hi (by simp [rowClausesF]) ?_
  simp only [rowClausesF, rowClausesB, List.length_cons, List.length_nil, List.map_cons, List.map_nil, List.append_nil, List.drop_nil, List.cons_append, List.nil_append]
  refine wp_cons _ (fun s' => ∃ r rs, T = .lst (r :: rs) ∧ s' = ⟨[some (.v C), some (.v T), none, none, none, none], h⟩) (wp_iff _ ?_) ?_
  · have no : (∀ r rs, T ≠ .lst (r :: rs)) → Z ⟨"NoRows", [("number", .non)]⟩ h := fun z => by
      have e : thingV cls T = .inl .non := by
        unfold thingV; split
        · rename_i r rs; exact absurd rfl (z r rs)
        · rfl
      have := q1 .non [] e
      rwa [List.append_nil] at this
    simp [hT.ne]
    cases T with
    | lst vs =>
      obtain ⟨d, l, _⟩ := hT.el vs rfl
      simp [isTy, lits, eq_nilL d]
      cases vs with
      | nil => simp; exact no (by simp)
      | cons r rs => simp
    | ref a => exact absurd rfl (hT.nr a)
    | exn _ _ => have := hT.ne; cases this
    | _ => simp [isTy, lits]; exact no (by simp)
  rintro _ ⟨r, rs, rfl, rfl⟩
  obtain ⟨dT, lT, wT⟩ := hT.el _ rfl
  refine wp_cons _ (fun s' => s' = ⟨[some (.v C), some (.v (.lst (r :: rs))), some (.v (.ref h.length)), none, none, none], h ++ [.lst []]⟩) ?_ ?_
  · simp
  rintro _ rfl
  refine wp_cons _ (RcI C (.lst (r :: rs)) cls (r :: rs) h []) ?_ ?_
  · refine wp_loop _ (RcI C (.lst (r :: rs)) cls (r :: rs) h) ?_ ?_ fun s hs => hs
    · simp [enumO]
      exact ⟨[], r :: rs, none, none, none, rfl, (fun c hc => by cases hc), fun _ z => z, rfl, by simp, rfl⟩
    · rintro v rest s ⟨acc, rs', x3, x4, x5, e, ga, hm, hv, hl, rfl⟩
      cases rs' with
      | nil => simp [enumV] at e
      | cons r' rs' =>
      simp only [enumV, List.cons.injEq] at e
      obtain ⟨rfl, rfl⟩ := e
      simp
      simp only [rowClausesB_0]
      have hr := dT.lst r' (hm r' (by simp))
      refine wp_cons _ (fun s' => s' = ⟨[some (.v C), some (.v (.lst (r :: rs))), some (.v (.ref h.length)), some (.v (.int acc.length)), some (.v r'), some (.v (optV (rowV cls acc r')))], h ++ [.lst (acc.map tupI)]⟩) ?_ ?_
      · simp
        refine rowClause_ok hrc htd him hmt hw hu hc (listAt_more hC _) (.inr ⟨h.length, rfl, by simp⟩) g ga hr (wT r' (hm r' (by simp))) ?_
        simp
      rintro _ rfl
      cases hrv : rowV cls acc r' with
      | none =>
        refine wp_cons _ (fun _ => False) (wp_iff _ ?_) fun _ z => z.elim
        have e1 : rowsV cls acc (r' :: rs') = .inl acc.length := by simp only [rowsV, hrv]
        have e2 : thingV cls (.lst (r :: rs)) = .inl (.int (acc.length : Int)) := by simp only [thingV]; rw [← hv, e1]
        simp [optV, isNon]
        exact q1 _ _ e2
      | some cl =>
        have gc := rowV_gd g hrv
        refine wp_cons _ (fun s' => s' = ⟨[some (.v C), some (.v (.lst (r :: rs))), some (.v (.ref h.length)), some (.v (.int acc.length)), some (.v r'), some (.v (tupI cl))], h ++ [.lst (acc.map tupI)]⟩) (wp_iff _ ?_) ?_
        · simp [optV, isNon, tupI]
        rintro _ rfl
        have e2 : (h ++ [Cell.lst (acc.map tupI)])[h.length]? = some (.lst (acc.map tupI)) := by simp
        refine wp_cons _ (RcI C (.lst (r :: rs)) cls (r :: rs) h (enumV rs' ((acc.length : Int) + 1))) ?_ fun s hs => wp_nil _ hs
        rw [x_app, wp_bind, wp_peekL_ref rfl e2]
        simp
        rw [wp_appAt_ref rfl e2 (by rw [List.length_map]; simp only [List.length_cons] at hl lT; unfold top; omega)]
        refine ⟨acc ++ [cl], rs', some (.v (.int acc.length)), some (.v r'), some (.v (tupI cl)), by simp, ga.snoc gc, fun x hx => hm x (by simp [hx]), ?_, by simp only [List.length_append, List.length_nil, List.length_cons] at hl ⊢; omega, by simp⟩
        rw [← hv]
        simp only [rowsV, hrv]
  rintro _ ⟨acc, rs', x3, x4, x5, e, ga, hm, hv, hl, rfl⟩
  cases rs' with
  | cons r' rs' => simp [enumV] at e
  | nil =>
  have e2 : thingV cls (.lst (r :: rs)) = .inr acc := by
    simp only [thingV]; rw [← hv]; rfl
  simp [retE]
  exact q2 acc e2 ga (by simp only [List.length_nil] at hl; omega)
/-! a law's own -/
def dueL : Sum Vl (List (List Int)) → List Vl
  | .inl n => [.str "no", n]
  | .inr f => f.map tupI
def tRow (cls : List (List Int)) : Vl → Option (List Int)
  | .tup [v0, v] => if isStr "told" v0 then toldV1 cls v else none
  | _ => none
def mRow (acc : List (List Int)) : Vl → Option (List Int)
  | .tup [v0, x, y, v] => if isStr "met" v0 then metV1 acc x y v else none
  | _ => none
theorem row2 {cls acc : List (List Int)} (v0 v : Vl) : rowV cls acc (.tup [v0, v]) = tRow cls (.tup [v0, v]) := by
  cases v0 <;> simp [rowV, tRow, isStr]
theorem row4 {cls acc : List (List Int)} (v0 x y v : Vl) : rowV cls acc (.tup [v0, x, y, v]) = mRow acc (.tup [v0, x, y, v]) := by
  cases v0 <;> simp [rowV, mRow, isStr]
theorem metV1_int {acc : List (List Int)} {x y t : Int} : metV1 acc (.int x) (.int y) (.int t) = if 0 ≤ x ∧ x < acc.length ∧ 0 ≤ y ∧ y < acc.length then metV (acc[x.toNat]?.getD []) (acc[y.toNat]?.getD []) (.int t) else none := by
  unfold metV1
  by_cases z : 0 ≤ x ∧ x < acc.length ∧ 0 ≤ y ∧ y < acc.length
  · rw [if_pos z, if_pos]
    simp only [inW, Bool.and_eq_true, decide_eq_true_eq]; omega
  · rw [if_neg z, if_neg]
    simp only [inW, Bool.and_eq_true, decide_eq_true_eq]; omega
theorem metV1_odd {acc : List (List Int)} {x y v : Vl} (h : ¬ (wholeV x = true ∧ wholeV y = true ∧ wholeV v = true)) : metV1 acc x y v = none := by
  unfold metV1
  cases x <;> cases y <;> simp [inW, wholeV] at h ⊢
  cases v <;> simp [wholeV] at h <;> simp [metV]
theorem lmeet_opt (one other : List Int) (t : Int) : lmeetV one other t = optV (meetL one other t) := by
  unfold lmeetV optV
  cases meetL one other t <;> rfl
theorem whole_int {v : Vl} (h : wholeV v = true) : ∃ t, v = .int t := by
  cases v <;> simp [wholeV] at h <;> exact ⟨_, rfl⟩
theorem met_wide {one other : List Int} {t : Int} (g : Gd 60 one) (ht : 0 < t) : metV one other (.int t) = meetL one other t := by
  show (if 1 ≤ t ∧ t ≤ 60 then meetL one other t else none) = _
  by_cases z : t ≤ 60
  · rw [if_pos ⟨by omega, z⟩]
  · rw [if_neg (by omega)]
    unfold meetL
    rw [if_neg]
    rintro ⟨h1, _⟩
    have := g.sg t h1
    omega
theorem met_low {one other : List Int} {t : Int} (ht : ¬ 0 < t) : metV one other (.int t) = none := by
  show (if 1 ≤ t ∧ t ≤ 60 then meetL one other t else none) = _
  rw [if_neg (by omega)]
def LrS (C T : Vl) (acc : List (List Int)) (n : Int) (row : Vl) (o : Option (List Int)) (h : Heap) (s : St) : Prop := ∃ x6 : Option Rv, plainS x6 = true ∧ s = ⟨[some (.v C), some (.v T), some (.ol (acc.map tupI)), some (.v (.int n)), some (.v row), some (.v (optV o)), x6], h⟩
def keepV (p : Vl → Bool) (v : Vl) : Option Vl := if p v then some v else none
theorem lawRow1 {C T row : Vl} {cls acc : List (List Int)} {n : Int} {lw lm : Nat} {c : Cfg} {Q : Fl → St → Prop} {Z : Ex → St → Prop} {s : St} (hlw : ∀ v h (Q : Rv → Heap → Prop) Z, isEx v = false → Q (.v (.bl (wholeV v))) h → WpF (c.call lw [v] h) Q Z) (hC : ListAt h C (cls.map tupI)) (hr : Dt row) (hl : ∀ ws, row = .tup ws → ws.length ≤ 1000)
    (hs : LrS C T acc n row none h s) (q : ∀ s, LrS C T acc n row (tRow cls row) h s → Q .nx s) :
    Wp (exec c (.iff (.and (.isa (.var 4) [.tuple]) (.and (.cmp .eq (.bi .len (.cons (.var 4) .nil)) (.cst (.int 2))) (.and (.cmp .eq (.idx (.var 4) (.cst (.int 0))) (.cst (.str "told"))) (.call lw (.cons (.idx (.var 4) (.cst (.int 1))) .nil))))) (.cons (.iff (.and (.cmp .le (.cst (.int 0)) (.idx (.var 4) (.cst (.int 1)))) (.cmp .lt (.idx (.var 4) (.cst (.int 1))) (.bi .len (.cons (.var 0) .nil)))) (.cons (.asg (.n 5) (.idx (.var 0) (.idx (.var 4) (.cst (.int 1)))))
      .nil) .nil)
    .nil) .nil) s) Q Z := by
  obtain ⟨x6, p6, rfl⟩ := hs
  have keep : tRow cls row = none → Q .nx ⟨[some (.v C), some (.v T), some (.ol (acc.map tupI)), some (.v (.int n)), some (.v row), some (.v .non), x6], h⟩ := fun e => q _ ⟨x6, p6, by rw [e]; rfl⟩
  refine wp_iff _ ?_
  simp [hr.ne, optV]
  cases row with
  | tup ws =>
    have dw := hr.tup
    match ws, dw, keep, q with
    | [], _, keep, q => simp [isTy]; exact keep rfl
    | [_], _, keep, q => simp [isTy]; exact keep rfl
    | _ :: _ :: _ :: r, _, keep, q => simp [isTy]; exact .inl ⟨by omega, keep rfl⟩
    | [v0, v], dw, keep, q =>
      have i0 : ∀ h, idx h (.tup [v0, v]) (.int 0) = some v0 := fun h => idx_tup (k := 0) (by simp)
      have i1 : ∀ h, idx h (.tup [v0, v]) (.int 1) = some v := fun h => idx_tup (k := 1) (by simp)
      simp [isTy, i0, i1, eq_strD (dw v0 (by simp))]
      by_cases hv0 : isStr "told" v0 = true
      · refine .inr ⟨hv0, hlw v h _ _ (dw v (by simp)).ne ?_⟩
        have et : tRow cls (.tup [v0, v]) = toldV1 cls v := by simp only [tRow]; rw [if_pos hv0]
        cases hv : wholeV v with
        | false => 
          simp
          refine keep ?_
          rw [et]
          cases v <;> first | rfl | (simp [wholeV] at hv)
        | true =>
          obtain ⟨t, rfl⟩ := whole_int hv
          simp [i1, hC.len]
          by_cases h0 : 0 ≤ t
          · refine .inr ⟨h0, ?_⟩
            by_cases h1 : t < cls.length
            · refine .inr ⟨h1, ?_⟩
              obtain ⟨m, rfl⟩ := Int.eq_ofNat_of_zero_le h0
              have hm : m < cls.length := by omega
              have e := hC.idx (k := m) (by rw [List.length_map]; exact hm)
              rw [get_tup hm] at e
              simp [e]
              refine q _ ⟨x6, p6, ?_⟩
              have : tRow cls (.tup [v0, .int (m : Int)]) = some (cls[m]?.getD []) := by
                rw [et]
                simp only [toldV1]
                rw [if_pos ⟨h0, h1⟩, Int.toNat_natCast]
                simp [hm]
              rw [this]; rfl
            · refine .inl ⟨by omega, keep ?_⟩
              rw [et]; simp only [toldV1]; rw [if_neg fun z => h1 z.2]
          · refine .inl ⟨by omega, keep ?_⟩
            rw [et]; simp only [toldV1]; rw [if_neg fun z => h0 z.1]
      · refine .inl ⟨by simpa using hv0, keep ?_⟩
        simp only [tRow]; rw [if_neg hv0]
  | exn _ _ => have := hr.ne; cases this
  | _ => simp [isTy]; exact keep rfl
theorem lawRow2 {C T row : Vl} {cls acc : List (List Int)} {n : Int} {lw lm : Nat} {c : Cfg} {Q : Fl → St → Prop} {Z : Ex → St → Prop} {s : St} (hlw : ∀ v h (Q : Rv → Heap → Prop) Z, isEx v = false → Q (.v (.bl (wholeV v))) h → WpF (c.call lw [v] h) Q Z)
    (hlm : ∀ one other t h (Q : Rv → Heap → Prop) Z, Gd 60 one → Gd 60 other → Q (.v (optV (meetL one other t))) h → WpF (c.call lm [tupI one, tupI other, .int t] h) Q Z) (hr : Dt row) (hl : ∀ ws, row = .tup ws → ws.length ≤ 1000) (ga : AllG acc) (hn : n = acc.length)
    (hs : LrS C T acc n row (tRow cls row) h s) (q : ∀ s, LrS C T acc n row (rowV cls acc row) h s → Q .nx s) :
    Wp (exec c (.iff (.and (.isa (.var 4) [.tuple]) (.and (.cmp .eq (.bi .len (.cons (.var 4) .nil)) (.cst (.int 4))) (.cmp .eq (.idx (.var 4) (.cst (.int 0))) (.cst (.str "met"))))) (.cons (.iff (.and (.cmp .eq (.lc (.var 6) (.n 6) (.e (.slc (.var 4) (.some (.cst (.int 1))) .no)) (.cons (.nt (.call lw (.cons (.var 6) .nil))) .nil) [6]) (.lst .nil)) (.cmp .lt (.cst (.int 0)) (.idx (.var 4) (.cst (.int 3))))) (.cons (.iff (.and (.cmp .le (.cst (.int 0)) (.idx (.var 4) (.cst (.int 1)))) (.and (.cmp .lt (.idx (.var 4) (.cst (.int 1))) (.var 3)) (.and (.cmp .le (.cst (.int 0)) (.idx (.var 4) (.cst (.int 2)))) (.cmp .lt (.idx (.var 4) (.cst (.int 2))) (.var 3))))) (.cons (.asg (.n 5) (.call lm (.cons (.idx (.var 2) (.idx (.var 4) (.cst (.int 1)))) (.cons (.idx (.var 2) (.idx (.var 4) (.cst (.int 2)))) (.cons (.idx (.var 4) (.cst (.int 3))) .nil)))))
        .nil) .nil)
      .nil) .nil)
    .nil) .nil) s) Q Z := by
  obtain ⟨x6, p6, rfl⟩ := hs
  refine wp_iff _ ?_
  simp [hr.ne]
  have keep : tRow cls row = rowV cls acc row → Q .nx ⟨[some (.v C), some (.v T), some (.ol (acc.map tupI)), some (.v (.int n)), some (.v row), some (.v (optV (tRow cls row))), x6], h⟩ := fun e => q _ ⟨x6, p6, by rw [← e]⟩
  cases row with
  | tup ws =>
    have dw := hr.tup
    have dd := hr.dp
    have ss := hr.sm
    match ws, dw, dd, ss, keep, q with
    | [], _, _, _, keep, q => simp [isTy]; exact keep rfl
    | [_], _, _, _, keep, q => simp [isTy]; exact keep (by simp [tRow, rowV])
    | [v0, v], _, _, _, keep, q => simp [isTy]; exact keep (row2 v0 v).symm
    | [_, _, _], _, _, _, keep, q => simp [isTy]; exact keep (by simp [tRow, rowV])
    | _ :: _ :: _ :: _ :: _ :: r, _, _, _, keep, q => simp [isTy]; exact .inl ⟨by omega, keep (by simp [tRow, rowV])⟩
    | [v0, x, y, v], dw, dd, ss, keep, q =>
      have i0 : ∀ h, idx h (.tup [v0, x, y, v]) (.int 0) = some v0 := fun h => idx_tup (k := 0) (by simp)
      have i1 : ∀ h, idx h (.tup [v0, x, y, v]) (.int 1) = some x := fun h => idx_tup (k := 1) (by simp)
      have i2 : ∀ h, idx h (.tup [v0, x, y, v]) (.int 2) = some y := fun h => idx_tup (k := 2) (by simp)
      have i3 : ∀ h, idx h (.tup [v0, x, y, v]) (.int 3) = some v := fun h => idx_tup (k := 3) (by simp)
      have er := row4 (cls := cls) (acc := acc) v0 x y v
      have keep : mRow acc (.tup [v0, x, y, v]) = none → Q .nx ⟨[some (.v C), some (.v T), some (.ol (acc.map tupI)), some (.v (.int n)), some (.v (.tup [v0, x, y, v])), some (.v (optV (tRow cls (.tup [v0, x, y, v])))), x6], h⟩ := fun e => keep (by rw [er, e]; rfl)
      simp [isTy, i0, eq_strD (dw v0 (by simp))]
      by_cases hv0 : isStr "met" v0 = true
      · refine .inr ⟨hv0, ?_⟩
        have et : mRow acc (.tup [v0, x, y, v]) = metV1 acc x y v := by simp only [mRow]; rw [if_pos hv0]
        rw [et] at er keep
        have cutE : cut [v0, x, y, v] (some 1) none = [x, y, v] := cut_from [v0, x, y, v] 1
        have dfl : ∀ u ∈ [x, y, v], small u = true ∧ dpt u ≤ 4 := fun u hu => by
          have hu2 : u ∈ [v0, x, y, v] := List.mem_cons_of_mem _ hu
          refine ⟨(dw u hu2).sm, ?_⟩
          have := dpts_mem hu2
          simp only [dpt] at dd
          omega
        simp only [cutE]
        refine wp_lcP (g := keepV fun v => !wholeV v) _ (by simpa using p6) (by simp) (fun u hu => ?_) ?_
        · simp [lcG]
          refine hlw u _ _ _ (dw u (List.mem_cons_of_mem _ hu)).ne ?_
          cases hu2 : wholeV u <;> simp [keepV, hu2]
        · refine ⟨by have := List.length_filterMap_le (keepV fun v => !wholeV v) [x, y, v]; simp at this; omega, ?_⟩
          have dl : Dt (.lst ([x, y, v].filterMap (keepV fun v => !wholeV v))) := dt_lst fun u hu => by
            obtain ⟨u', hu', e⟩ := List.mem_filterMap.mp hu
            unfold keepV at e
            split at e
            · cases e; exact dfl u hu'
            · cases e
          simp only [wp_pure, fz_ol, wp_bind, v_lst, b_lst, a_nil, List.length_nil, wp_ite, top_val, wp_onHp, eq_nilL dl, tr_bl]
          by_cases hall : wholeV x = true ∧ wholeV y = true ∧ wholeV v = true
          · obtain ⟨hx, hy, hv⟩ := hall
            have e : [x, y, v].filterMap (keepV fun v => !wholeV v) = [] := by simp [keepV, hx, hy, hv]
            rw [e]
            obtain ⟨tx, rfl⟩ := whole_int hx
            obtain ⟨ty, rfl⟩ := whole_int hy
            obtain ⟨t, rfl⟩ := whole_int hv
            simp [i1, i2, i3]
            by_cases ht : 0 < t
            · refine .inr ⟨ht, ?_⟩
              by_cases z : 0 ≤ tx ∧ tx < acc.length ∧ 0 ≤ ty ∧ ty < acc.length
              · obtain ⟨z1, z2, z3, z4⟩ := z
                obtain ⟨m, rfl⟩ := Int.eq_ofNat_of_zero_le z1
                obtain ⟨m', rfl⟩ := Int.eq_ofNat_of_zero_le z3
                have hm : m < acc.length := by omega
                have hm' : m' < acc.length := by omega
                refine .inr ⟨z1, .inr ⟨by omega, .inr ⟨z3, .inr ⟨by omega, ?_⟩⟩⟩⟩
                have j1 : ∀ h, idx h (.lst (acc.map tupI)) (.int (m : Int)) = some (tupI (acc[m]?.getD [])) := fun h => by rw [idx_lst (by rw [List.length_map]; exact hm), get_tup hm]
                have j2 : ∀ h, idx h (.lst (acc.map tupI)) (.int (m' : Int)) = some (tupI (acc[m']?.getD [])) := fun h => by rw [idx_lst (by rw [List.length_map]; exact hm'), get_tup hm']
                simp [j1, j2]
                refine hlm _ _ _ _ _ _ (ga.getD m) (ga.getD m') ?_
                refine q _ ⟨x6, p6, ?_⟩
                rw [er, metV1_int, if_pos ⟨z1, z2, z3, z4⟩, Int.toNat_natCast, Int.toNat_natCast, met_wide (ga.getD m) ht]
              · have no : metV1 acc (.int tx) (.int ty) (.int t) = none := by rw [metV1_int, if_neg z]
                have kp := keep no
                subst hn
                by_cases z1 : 0 ≤ tx
                · refine .inr ⟨z1, ?_⟩
                  by_cases z2 : tx < acc.length
                  · refine .inr ⟨z2, ?_⟩
                    by_cases z3 : 0 ≤ ty
                    · refine .inr ⟨z3, ?_⟩
                      exact .inl ⟨by omega, kp⟩
                    · exact .inl ⟨by omega, kp⟩
                  · exact .inl ⟨by omega, kp⟩
                · exact .inl ⟨by omega, kp⟩
            · refine .inl ⟨by omega, keep ?_⟩
              rw [metV1_int]
              split
              · exact met_low ht
              · rfl
          · have e : ([x, y, v].filterMap (keepV fun v => !wholeV v)).isEmpty = false := by
              cases h1 : wholeV x <;> cases h2 : wholeV y <;> cases h3 : wholeV v <;> simp [keepV, h1, h2, h3] at hall ⊢
            simp [e]
            exact keep (metV1_odd hall)
      · refine .inl ⟨by simpa using hv0, keep ?_⟩
        simp only [mRow]; rw [if_neg hv0]
  | exn _ _ => have := hr.ne; cases this
  | _ => simp [isTy]; exact keep rfl
end
end VM

set_option maxHeartbeats 2000000
/-! VMRows3: a law's own row clauses; rows that are drawn, rows that are bent. -/
namespace VM
open PySem (Str)
section
variable {h : Heap} {a k i : Nat} {fs : List Fn} {fuel : Nat} {glob : Nat → Option Vl} {Q : Rv → Heap → Prop} {Z : Ex → Heap → Prop} {w u : Nat}
def LrI (C T : Vl) (cls : List (List Int)) (vs : List Vl) (h : Heap) (rest : List Vl) (s : St) : Prop := ∃ (acc : List (List Int)) (rs : List Vl) (x3 x4 x5 x6 : Option Rv), plainS x6 = true ∧ rest = enumV rs (acc.length : Int) ∧ AllG acc ∧ (∀ r ∈ rs, r ∈ vs) ∧ rowsV cls acc rs = rowsV cls [] vs ∧ acc.length + rs.length = vs.length ∧ s = ⟨[some (.v C), some (.v T), some (.ol (acc.map tupI)), x3, x4, x5, x6], h⟩
theorem lawRows_ok {C T : Vl} {cls : List (List Int)} {lw lm : Nat} (hi : fs[i]? = some (lawRowsF lw lm)) (hlw : fs[lw]? = some wholeF) (hlm : fs[lm]? = some lawMeetF) (hC : ListAt h C (cls.map tupI)) (g : AllG cls) (hT : Lk T)
    (q : Q (.ol (dueL (thingV cls T))) h) : WpF (run fs fuel glob (k + 2) i [C, T] h) Q Z := by
  refine wpF_run (fn := lawRowsF lw lm) hi (by simp [lawRowsF]) ?_
  simp only [lawRowsF, lawRowsB, List.length_cons, List.length_nil, List.map_cons, List.map_nil, List.append_nil, List.drop_nil, List.cons_append, List.nil_append]
  refine wp_cons _ (fun s' => ∃ r rs, T = .lst (r :: rs) ∧ s' = ⟨[some (.v C), some (.v T), none, none, none, none, none], h⟩) (wp_iff _ ?_) ?_
  · have no : (∀ r rs, T ≠ .lst (r :: rs)) → Q (.ol [.str "no", .non]) h := fun z => by
      have e : thingV cls T = .inl .non := by
        unfold thingV; split
        · rename_i r rs; exact absurd rfl (z r rs)
        · rfl
      rw [e] at q; exact q
    simp [hT.ne]
    cases T with
    | lst vs =>
      obtain ⟨d, l, _⟩ := hT.el vs rfl
      simp [isTy, lits, eq_nilL d]
      cases vs with
      | nil => simp [retE]; exact no (by simp)
      | cons r rs => simp
    | ref a => exact absurd rfl (hT.nr a)
    | exn _ _ => have := hT.ne; cases this
    | _ => simp [isTy, lits, retE]; exact no (by simp)
  rintro _ ⟨r, rs, rfl, rfl⟩
  obtain ⟨dT, lT, wT⟩ := hT.el _ rfl
  refine wp_cons _ (fun s' => s' = ⟨[some (.v C), some (.v (.lst (r :: rs))), some (.ol []), none, none, none, none], h⟩) ?_ ?_
  · simp
  rintro _ rfl
  refine wp_cons _ (LrI C (.lst (r :: rs)) cls (r :: rs) h []) ?_ ?_
  · refine wp_loop _ (LrI C (.lst (r :: rs)) cls (r :: rs) h) ?_ ?_ fun s hs => hs
    · simp [enumO]
      exact ⟨[], r :: rs, none, none, none, none, rfl, rfl, (fun c hc => by cases hc), fun _ z => z, rfl, by simp, rfl⟩
    · rintro v rest s ⟨acc, rs', x3, x4, x5, x6, p6, e, ga, hm, hv, hl, rfl⟩
      cases rs' with
      | nil => simp [enumV] at e
      | cons r' rs' =>
      simp only [enumV, List.cons.injEq] at e
      obtain ⟨rfl, rfl⟩ := e
      simp
      simp only [lawRowsB_0]
      have hr := dT.lst r' (hm r' (by simp))
      have lr := wT r' (hm r' (by simp))
      refine wp_cons _ (LrS C (.lst (r :: rs)) acc acc.length r' none h) ?_ ?_
      · simp
        exact ⟨x6, p6, rfl⟩
      intro s hs
      refine wp_cons _ (LrS C (.lst (r :: rs)) acc acc.length r' (tRow cls r') h) (lawRow1 (lm := lm) (fun v h Q Z hx q => whole_ok hlw hx q) hC hr lr hs fun s hs => hs) ?_
      clear hs s
      intro s hs
      refine wp_cons _ (LrS C (.lst (r :: rs)) acc acc.length r' (rowV cls acc r') h) (lawRow2 (fun v h Q Z hx q => whole_ok hlw hx q)
        (fun one other t h Q Z g1 g2 q => lmeet_ok hlm (.inr rfl) (.inr rfl) (g1.sgs (by omega)) (g2.sgs (by omega)) g1.nd (by have := g1.ln; omega) (by have := g2.ln; omega) (by rw [lmeet_opt]; exact q)) hr lr ga rfl hs fun s hs => hs) ?_
      clear hs s
      rintro _ ⟨x6, p6, rfl⟩
      cases hrv : rowV cls acc r' with
      | none =>
        refine wp_cons _ (fun _ => False) (wp_iff _ ?_) fun _ z => z.elim
        have e1 : rowsV cls acc (r' :: rs') = .inl acc.length := by simp only [rowsV, hrv]
        have e2 : thingV cls (.lst (r :: rs)) = .inl (.int (acc.length : Int)) := by simp only [thingV]; rw [← hv, e1]
        rw [e2] at q
        simp [optV, isNon, retE]
        exact q
      | some cl =>
        have gc := rowV_gd g hrv
        refine wp_cons _ (fun s' => s' = ⟨[some (.v C), some (.v (.lst (r :: rs))), some (.ol (acc.map tupI)), some (.v (.int acc.length)), some (.v r'), some (.v (tupI cl)), x6], h⟩) (wp_iff _ ?_) ?_
        · simp [optV, isNon, tupI]
        rintro _ rfl
        refine wp_cons _ (LrI C (.lst (r :: rs)) cls (r :: rs) h (enumV rs' ((acc.length : Int) + 1))) ?_ fun s hs => wp_nil _ hs
        rw [x_app, wp_bind, wp_peekL_ol rfl]
        simp
        rw [wp_appAt_ol rfl (by rw [List.length_map]; simp only [List.length_cons] at hl lT; unfold top; omega)]
        refine ⟨acc ++ [cl], rs', some (.v (.int acc.length)), some (.v r'), some (.v (tupI cl)), x6, p6, by simp, ga.snoc gc, fun x hx => hm x (by simp [hx]), ?_, by simp only [List.length_append, List.length_nil, List.length_cons] at hl ⊢; omega, by simp⟩
        rw [← hv]
        simp only [rowsV, hrv]
  rintro _ ⟨acc, rs', x3, x4, x5, x6, p6, e, ga, hm, hv, hl, rfl⟩
  cases rs' with
  | cons r' rs' => simp [enumV] at e
  | nil =>
  have e2 : thingV cls (.lst (r :: rs)) = .inr acc := by
    simp only [thingV]; rw [← hv]; rfl
  rw [e2] at q
  simp [retE]
  exact q
/-! rows that are drawn -/
/-- a row: a tuple of small things -/
def DrR (v : Vl) : Prop := ∃ ws, v = .tup ws ∧ 1 ≤ ws.length ∧ ws.length ≤ 4 ∧ ∀ w ∈ ws, At w
theorem at_str {s : Str} (h : (PySem.reprText s).length ≤ 1000) : At (.str s) := ⟨rfl, by simp [dpt], by simp only [VM.sz]; omega⟩
theorem at_told : At (.str "told") := at_str (Nat.le_trans (show (PySem.reprText ("told" : Str)).length ≤ 10 by decide +kernel) (by decide))
theorem at_met : At (.str "met") := at_str (Nat.le_trans (show (PySem.reprText ("met" : Str)).length ≤ 10 by decide +kernel) (by decide))
theorem dr_told {n : Int} (h : n.natAbs < 2 ^ 64) : DrR (.tup [.str "told", .int n]) := ⟨_, rfl, by simp, by simp, fun w hw => by
  simp only [List.mem_cons, List.not_mem_nil, or_false] at hw
  rcases hw with rfl | rfl
  · exact at_told
  · exact at_int h⟩
theorem dr_met {x y t : Int} (h1 : x.natAbs < 2 ^ 64) (h2 : y.natAbs < 2 ^ 64) (h3 : t.natAbs < 2 ^ 64) : DrR (.tup [.str "met", .int x, .int y, .int t]) := ⟨_, rfl, by simp, by simp, fun w hw => by
  simp only [List.mem_cons, List.not_mem_nil, or_false] at hw
  rcases hw with rfl | rfl | rfl | rfl
  · exact at_met
  · exact at_int h1
  · exact at_int h2
  · exact at_int h3⟩
def DnO (C : Vl) (a N : Nat) (rest : List Vl) (s : St) : Prop := ∃ (rows : List Vl) (some_ : List (List Int)) (x4 x5 x6 x7 x8 x9 x10 x11 : Option Rv) (h : Heap), plainS x11 = true ∧ (∀ r ∈ rows, DrR r) ∧ AllG some_ ∧ rows.length = some_.length ∧ rows.length + rest.length = N ∧ Pool h a ∧
  s = ⟨[some (.v (.ref a)), some (.v C), some (.ol rows), some (.ol (some_.map tupI)), x4, x5, x6, x7, x8, x9, x10, x11], h⟩
def DnR (C : Vl) (a : Nat) (rows : List Vl) (some_ : List (List Int)) (x4 : Option Rv) (s : St) : Prop := ∃ (row : Vl) (cl : List Int) (x7 x8 x9 x10 x11 : Option Rv) (h : Heap), plainS x11 = true ∧ DrR row ∧ Gd 60 cl ∧ Pool h a ∧
  s = ⟨[some (.v (.ref a)), some (.v C), some (.ol rows), some (.ol (some_.map tupI)), x4, some (.v row), some (.v (tupI cl)), x7, x8, x9, x10, x11], h⟩
def DnT (cls : List (List Int)) (a : Nat) (rows : List Vl) (some_ : List (List Int)) (x4 x6 x7 x8 x9 x10 x11 : Option Rv) (s : St) : Prop := ∃ (n : Nat) (h : Heap), n < cls.length ∧ Pool h a ∧ s = ⟨[some (.v (.ref a)), some (.v (.lst (cls.map tupI))), some (.ol rows), some (.ol (some_.map tupI)), x4, some (.v (.tup [.str "told", .int (n : Int)])), x6, x7, x8, x9, x10, x11], h⟩
theorem drawnPair_ok {C : Vl} {rows : List Vl} {some_ : List (List Int)} {tk lm : Nat} {x4 : Option Rv} {kk : Nat} {Q : Fl → St → Prop} {Z : Ex → St → Prop} {s : St} {x7 : Option Rv} (htk : fs[tk]? = some takeF) (hlm : fs[lm]? = some lawMeetF) (gs : AllG some_) (ls : some_.length ≤ 100)
    (hs : DnR C a rows some_ x4 s) (q : ∀ s, DnR C a rows some_ x4 s → Q .nx s) : Wp (execs ⟨run fs fuel glob (kk + 1), fuel, glob⟩ (drawnB_0 tk lm) s) Q Z := by
  obtain ⟨row, cl, x7, x8, x9, x10, x11, h, p11, dr, gc, hp, rfl⟩ := hs
  simp only [drawnB_0]
  refine wp_cons _ (DnR C a rows some_ x4) (wp_iff _ ?_) fun s hs => wp_nil _ (q s hs)
  simp [ne_nilL (dt_cls gs)]
  by_cases hz : some_ = []
  · exact .inl ⟨hz, row, cl, x7, x8, x9, x10, x11, h, p11, dr, gc, hp, rfl⟩
  refine .inr ⟨hz, ?_⟩
  have hpos : 0 < (some_.length : Int) := by have := List.length_pos_iff.mpr hz; omega
  refine take_ok htk hp hpos (by omega) fun m h1 m1 m2 p1 _ _ => ?_
  simp
  refine take_ok htk p1 hpos (by omega) fun m' h2 m1' m2' p2 _ _ => ?_
  obtain ⟨n, rfl⟩ := Int.eq_ofNat_of_zero_le m1
  obtain ⟨n', rfl⟩ := Int.eq_ofNat_of_zero_le m1'
  have hn : n < some_.length := by omega
  have hn' : n' < some_.length := by omega
  have j1 : ∀ h, idx h (.lst (some_.map tupI)) (.int (n : Int)) = some (tupI (some_[n]?.getD [])) := fun h => by rw [idx_lst (by rw [List.length_map]; exact hn), get_tup hn]
  have j2 : ∀ h, idx h (.lst (some_.map tupI)) (.int (n' : Int)) = some (tupI (some_[n']?.getD [])) := fun h => by rw [idx_lst (by rw [List.length_map]; exact hn'), get_tup hn']
  have g1 := gs.getD n
  have g2 := gs.getD n'
  generalize (some_[n]?.getD []) = one at j1 g1
  generalize (some_[n']?.getD []) = other at j2 g2
  have sq : SeqI (tupI one) one := .inr rfl
  have sq2 : SeqI (tupI other) other := .inr rfl
  have l1 := g1.ln
  have l2 := g2.ln
  simp [j1, j2, seqI_seq sq]
  refine wp_lcP (g := keepZ fun s => decide (0 < s) && decide (-s ∈ other)) _ (by simpa using p11) (by simp) (fun v hv => ?_) ?_
  · obtain ⟨s, hs, rfl⟩ := List.mem_map.mp hv
    simp [lcG, keepZ, j2, isIn_int sq2]
    by_cases z : 0 < s <;> by_cases w : -s ∈ other <;> simp [z, w] <;> first | omega | skip
  rw [keepZ_map]
  refine ⟨filt_len _ _ (by omega), ?_⟩
  generalize hps : one.filter (fun s => decide (0 < s) && decide (-s ∈ other)) = ps
  have lps : ps.length ≤ 60 := by rw [← hps]; have := List.length_filter_le (fun s => decide (0 < s) && decide (-s ∈ other)) one; omega
  have mps : ∀ s ∈ ps, s ∈ one ∧ 0 < s := fun s hs => by
    rw [← hps] at hs
    obtain ⟨h1, h2⟩ := List.mem_filter.mp hs
    simp only [Bool.and_eq_true, decide_eq_true_eq] at h2
    exact ⟨h1, h2.1⟩
  simp
  refine wp_lcP (g := keepZ fun s => (meetL one other s).isSome) _ (by simpa using p11) (by simp) (fun v hv => ?_) ?_
  · obtain ⟨s, hs, rfl⟩ := List.mem_map.mp hv
    simp [lcG, j1, j2]
    refine lmeet_ok hlm sq sq2 (g1.sgs (by omega)) (g2.sgs (by omega)) g1.nd (by omega) (by omega) ?_
    rw [lmeet_opt]
    cases hm : meetL one other s <;> simp [keepZ, optV, isNon, tupI, hm]
  rw [keepZ_map]
  refine ⟨filt_len _ _ (by omega), ?_⟩
  generalize hqs : ps.filter (fun s => (meetL one other s).isSome) = qs
  have lqs : qs.length ≤ 60 := by rw [← hqs]; have := List.length_filter_le (fun s => (meetL one other s).isSome) ps; omega
  have mqs : ∀ s ∈ qs, s ∈ one ∧ 0 < s ∧ (meetL one other s).isSome = true := fun s hs => by
    rw [← hqs] at hs
    obtain ⟨h1, h2⟩ := List.mem_filter.mp hs
    exact ⟨(mps s h1).1, (mps s h1).2, h2⟩
  have enq : ∀ h, cop h .ne (.lst (qs.map Vl.int)) (.lst []) = some (!qs.isEmpty) := fun h => ne_nil qs
  simp [enq]
  by_cases hq : qs = []
  · refine .inl ⟨hq, ?_⟩
    subst hq
    exact ⟨row, cl, _, _, _, _, _, h2, p11, dr, gc, p2, rfl⟩
  refine .inr ⟨hq, ?_⟩
  have hpos2 : 0 < (qs.length : Int) := by have := List.length_pos_iff.mpr hq; omega
  refine take_ok htk p2 hpos2 (by omega) fun r h3 r1 r2 p3 _ _ => ?_
  obtain ⟨v, hv, ei⟩ := idx_draw (h := h3) (vs := qs.map Vl.int) r1 (by rw [List.length_map]; exact r2)
  obtain ⟨t, ht, rfl⟩ := List.mem_map.mp hv
  obtain ⟨t1, t2, t3⟩ := mqs t ht
  obtain ⟨res, hres⟩ := Option.isSome_iff_exists.mp t3
  have gt := g1.sg t t1
  have i3 : ∀ h, idx h (.tup [.str "met", .int (n : Int), .int (n' : Int), .int t]) (.int 3) = some (.int t) := fun h => idx_tup (k := 3) (by simp)
  simp [ei, j1, j2, i3]
  refine lmeet_ok hlm sq sq2 (g1.sgs (by omega)) (g2.sgs (by omega)) g1.nd (by omega) (by omega) ?_
  rw [lmeet_opt, hres]
  simp [optV]
  exact ⟨_, res, _, _, _, _, _, h3, p11, dr_met (by omega) (by omega) (by omega), met_gd (v := .int t) (by rw [met_wide g1 t2]; exact hres), p3, rfl⟩
theorem drawn_ok {cls : List (List Int)} {tk lm : Nat} (hi : fs[i]? = some (drawnF tk lm)) (htk : fs[tk]? = some takeF) (hlm : fs[lm]? = some lawMeetF) (g : AllG cls) (h0 : cls ≠ []) (hl : cls.length ≤ 100) (hp : Pool h a)
    (q : ∀ rows h', (∀ r ∈ rows, DrR r) → 1 ≤ rows.length → rows.length ≤ 12 → Pool h' a → Q (.ol rows) h') : WpF (run fs fuel glob (k + 2) i [.ref a, .lst (cls.map tupI)] h) Q Z := by
  refine wpF_run (fn := drawnF tk lm) hi (by simp [drawnF]) ?_
  simp only [drawnF, drawnB, List.length_cons, List.length_nil, List.map_cons, List.map_nil, List.append_nil, List.drop_nil, List.cons_append, List.nil_append]
  refine wp_cons _ (fun s' => s' = ⟨[some (.v (.ref a)), some (.v (.lst (cls.map tupI))), some (.ol []), none, none, none, none, none, none, none, none, none], h⟩) ?_ ?_
  · simp
  rintro _ rfl
  refine wp_cons _ (fun s' => s' = ⟨[some (.v (.ref a)), some (.v (.lst (cls.map tupI))), some (.ol []), some (.ol []), none, none, none, none, none, none, none, none], h⟩) ?_ ?_
  · simp
  rintro _ rfl
  refine wp_cons _ (fun s' => ∃ N, 1 ≤ N ∧ N ≤ 12 ∧ DnO (.lst (cls.map tupI)) a N [] s') ?_ ?_
  · refine wp_loop _ (fun rest s' => ∃ N, 1 ≤ N ∧ N ≤ 12 ∧ DnO (.lst (cls.map tupI)) a N rest s') ?_ ?_ fun s hs => hs
    · simp
      refine take_ok htk hp (by decide) (by decide) fun r h1 r1 r2 p1 _ _ => ?_
      simp
      refine ⟨by simp [inLim, lim62]; omega, (1 + r).toNat, by omega, by omega, [], [], none, none, none, none, none, none, none, none, h1, rfl, (fun r hr => by cases hr), (fun r hr => by cases hr), rfl, by rw [rangeV_len]; simp, p1, rfl⟩
    · rintro v rest s ⟨N, n1, n2, rows, some_, x4, x5, x6, x7, x8, x9, x10, x11, h, p11, dr, gs, lr, ln, hp, rfl⟩
      simp only [wp_bindT, List.set_cons_succ, List.set_cons_zero, List.length_cons, List.length_nil]
      refine ⟨by omega, ?_⟩
      simp only [List.length_cons] at ln
      simp only [drawnB_1]
      have cpos : 0 < (cls.length : Int) := by have := List.length_pos_iff.mpr h0; omega
      refine wp_cons _ (DnT cls a rows some_ (some (.v v)) x6 x7 x8 x9 x10 x11) ?_ ?_
      · simp
        refine take_ok htk hp cpos (by omega) fun r h1 r1 r2 p1 _ _ => ?_
        obtain ⟨n, rfl⟩ := Int.eq_ofNat_of_zero_le r1
        simp
        exact ⟨n, h1, by omega, p1, rfl⟩
      rintro _ ⟨n, h, hn, hp, rfl⟩
      have i1 : ∀ h, idx h (.tup [.str "told", .int (n : Int)]) (.int 1) = some (.int (n : Int)) := fun h => idx_tup (k := 1) (by simp)
      have j1 : ∀ h, idx h (.lst (cls.map tupI)) (.int (n : Int)) = some (tupI (cls[n]?.getD [])) := fun h => by rw [idx_lst (by rw [List.length_map]; exact hn), get_tup hn]
      refine wp_cons _ (DnR (.lst (cls.map tupI)) a rows some_ (some (.v v))) ?_ ?_
      · simp [i1, j1]
        exact ⟨_, _, _, _, _, _, _, h, p11, dr_told (by omega), g.getD n, hp, rfl⟩
      intro s hs
      refine wp_cons _ (DnR (.lst (cls.map tupI)) a rows some_ (some (.v v))) ?_ ?_
      · refine wp_loop _ (fun _ s => DnR (.lst (cls.map tupI)) a rows some_ (some (.v v)) s) ?_ ?_ fun s hs => hs
        · obtain ⟨row, cl, x7, x8, x9, x10, x11, h, p11, dr, gc, hp, rfl⟩ := hs
          simp
          exact ⟨by simp [inLim, lim62], row, cl, x7, x8, x9, x10, x11, h, p11, dr, gc, hp, rfl⟩
        · rintro v2 rest2 s ⟨row, cl, x7, x8, x9, x10, x11, h, p11, dr, gc, hp, rfl⟩
          simp only [wp_bindT, List.set_cons_succ, List.set_cons_zero, List.length_cons, List.length_nil]
          refine ⟨by omega, ?_⟩
          exact drawnPair_ok (x7 := none) htk hlm gs (by omega) ⟨row, cl, _, _, _, _, _, h, p11, dr, gc, hp, rfl⟩ fun s hs => hs
      clear hs s
      rintro _ ⟨row, cl, x7, x8, x9, x10, x11, h, p11, drow, gc, hp, rfl⟩
      refine wp_cons _ (fun s' => s' = ⟨[some (.v (.ref a)), some (.v (.lst (cls.map tupI))), some (.ol (rows ++ [row])), some (.ol (some_.map tupI)), some (.v v), some (.v row), some (.v (tupI cl)), x7, x8, x9, x10, x11], h⟩) ?_ ?_
      · rw [x_app, wp_bind, wp_peekL_ol rfl]
        simp
        rw [wp_appAt_ol rfl (by unfold top; omega)]
        rfl
      rintro _ rfl
      refine wp_cons _ (fun s' => ∃ N, 1 ≤ N ∧ N ≤ 12 ∧ DnO (.lst (cls.map tupI)) a N rest s') ?_ fun s hs => wp_nil _ hs
      rw [x_app, wp_bind, wp_peekL_ol rfl]
      simp
      rw [wp_appAt_ol rfl (by rw [List.length_map]; unfold top; omega)]
      refine ⟨N, n1, n2, rows ++ [row], some_ ++ [cl], some (.v v), some (.v row), some (.v (tupI cl)), x7, x8, x9, x10, x11, h, p11, fun r hr => ?_, gs.snoc gc, by simp [lr], by simp only [List.length_append, List.length_singleton]; omega, hp, by simp⟩
      rcases List.mem_append.mp hr with hr | hr
      · exact dr r hr
      · rw [List.mem_singleton.mp hr]; exact drow
  rintro _ ⟨N, n1, n2, rows, some_, x4, x5, x6, x7, x8, x9, x10, x11, h, p11, dr, gs, lr, ln, hp, rfl⟩
  simp only [List.length_nil] at ln
  simp [retE]
  exact q rows h dr (by omega) (by omega) hp
/-! rows that are bent -/
theorem cut_mem {α : Type} {xs : List α} {lo up : Option Int} {x : α} (h : x ∈ cut xs lo up) : x ∈ xs := List.mem_of_mem_drop (List.mem_of_mem_take h)
theorem cut_le {α : Type} (xs : List α) (lo up : Option Int) : (cut xs lo up).length ≤ xs.length := by
  unfold cut
  rw [List.length_take, List.length_drop]; omega
def oddL : List Vl := [.non, .bl true, .int (-1), .int 99, .int 0, .int 1, .str "told", .str "met", .tup [.int 1], .int 2]
theorem at_odd : ∀ v ∈ oddL, At v := by
  intro v hv
  simp only [oddL, List.mem_cons, List.not_mem_nil, or_false] at hv
  rcases hv with rfl | rfl | rfl | rfl | rfl | rfl | rfl | rfl | rfl | rfl
  · exact ⟨rfl, by simp [dpt], by simp [VM.sz]⟩
  · exact ⟨rfl, by simp [dpt], by simp [VM.sz]⟩
  · exact at_int (by decide)
  · exact at_int (by decide)
  · exact at_int (by decide)
  · exact at_int (by decide)
  · exact at_told
  · exact at_met
  · exact ⟨by decide +kernel, by simp [dpt, dpts], by simp [VM.sz, szs]⟩
  · exact at_int (by decide)
theorem DrR.pt {v : Vl} (h : DrR v) : Pt v := by
  obtain ⟨ws, rfl, _, h2, h3⟩ := h
  exact pt_tup h3 (by omega)
def Bn2 (a : Nat) (rows : List Vl) (s : St) : Prop := ∃ (n : Int) (h : Heap), 0 ≤ n ∧ n < rows.length ∧ Pool h a ∧ s = ⟨[some (.v (.ref a)), some (.v (.lst rows)), some (.v (.int n)), none, none, none, none, none], h⟩
def Bn3 (a : Nat) (rows : List Vl) (n : Int) (h : Heap) (s : St) : Prop := ∃ (ws : List Vl), 1 ≤ ws.length ∧ ws.length ≤ 4 ∧ (∀ w ∈ ws, At w) ∧ s = ⟨[some (.v (.ref a)), some (.v (.lst rows)), some (.v (.int n)), some (.v (.tup ws)), none, none, none, none], h⟩
def Bn4 (a : Nat) (rows : List Vl) (n : Int) (ws : List Vl) (s : St) : Prop := ∃ (p : Int) (h : Heap), Pool h a ∧ s = ⟨[some (.v (.ref a)), some (.v (.lst rows)), some (.v (.int n)), some (.v (.tup ws)), some (.v (.int p)), none, none, none], h⟩
def Bn5 (a : Nat) (rows : List Vl) (n : Int) (ws : List Vl) (p : Int) (s : St) : Prop := ∃ (o : Vl) (h : Heap), At o ∧ Pool h a ∧ s = ⟨[some (.v (.ref a)), some (.v (.lst rows)), some (.v (.int n)), some (.v (.tup ws)), some (.v (.int p)), some (.v o), none, none], h⟩
def Bn6 (a : Nat) (rows : List Vl) (n : Int) (ws : List Vl) (p : Int) (o : Vl) (h : Heap) (s : St) : Prop := ∃ (b : Vl), Pt b ∧ s = ⟨[some (.v (.ref a)), some (.v (.lst rows)), some (.v (.int n)), some (.v (.tup ws)), some (.v (.int p)), some (.v o), some (.v b), none], h⟩
def Bn7 (a : Nat) (rows : List Vl) (n : Int) (ws : List Vl) (p : Int) (o b : Vl) (h : Heap) (m : Nat) (s : St) : Prop := ∃ (L : List Vl), L.length = m ∧ (∀ v ∈ L, Tg v) ∧ s = ⟨[some (.v (.ref a)), some (.v (.lst rows)), some (.v (.int n)), some (.v (.tup ws)), some (.v (.int p)), some (.v o), some (.v b), some (.ol L)], h⟩
theorem bent_ok {rows : List Vl} {tk : Nat} (hi : fs[i]? = some (bentF tk)) (htk : fs[tk]? = some takeF) (dr : ∀ r ∈ rows, DrR r) (l1 : 1 ≤ rows.length) (l2 : rows.length ≤ 12) (hp : Pool h a)
    (q : ∀ T h', Tg T → Pool h' a → Q (.v T) h') : WpF (run fs fuel glob (k + 2) i [.ref a, .lst rows] h) Q Z := by
  refine wpF_run (fn := bentF tk) hi (by simp [bentF]) ?_
  simp only [bentF, bentB, List.length_cons, List.length_nil, List.map_cons, List.map_nil, List.append_nil, List.drop_nil, List.cons_append, List.nil_append]
  have pr : ∀ r ∈ rows, Pt r := fun r hr => (dr r hr).pt
  refine wp_cons _ (Bn2 a rows) ?_ ?_
  · simp
    refine take_ok htk hp (by omega) (by omega) fun r h1 r1 r2 p1 _ _ => ?_
    exact ⟨r, h1, r1, r2, p1, rfl⟩
  rintro _ ⟨n, h, n1, n2, hp, rfl⟩
  refine wp_cons _ (Bn3 a rows n h) ?_ ?_
  · simp
    obtain ⟨v, hv, e⟩ := idx_draw (h := h) (vs := rows) n1 n2
    obtain ⟨ws, rfl, w1, w2, w3⟩ := dr v hv
    exact ⟨_, e, ws, w1, w2, w3, rfl⟩
  rintro _ ⟨ws, w1, w2, w3, rfl⟩
  refine wp_cons _ (Bn4 a rows n ws) ?_ ?_
  · simp
    refine take_ok htk hp (by omega) (by omega) fun r h1 r1 r2 p1 _ _ => ?_
    exact ⟨r, h1, p1, rfl⟩
  rintro _ ⟨p, h, hp, rfl⟩
  refine wp_cons _ (Bn5 a rows n ws p) ?_ ?_
  · simp
    refine take_ok htk hp (by omega) (by omega) fun r h1 r1 r2 p1 _ _ => ?_
    simp
    obtain ⟨v, hv, e⟩ := idx_draw (h := h1) (vs := oddL) r1 (by simpa [oddL] using r2)
    exact ⟨v, e, v, h1, at_odd v hv, p1, rfl⟩
  rintro _ ⟨o, h, ho, hp, rfl⟩
  refine wp_cons _ (Bn6 a rows n ws p o h) ?_ ?_
  · have c1 := cut_le ws none (some p)
    have c2 := cut_le ws (some (p + 1)) none
    simp
    refine ⟨_, add_tupS (by omega) (by simp), ?_⟩
    simp
    refine ⟨_, add_tupS (by simp; omega) (by omega), ?_⟩
    simp
    refine ⟨_, pt_tup (fun w hw => ?_) ?_, rfl⟩
    · simp only [List.append_assoc, List.mem_append, List.mem_cons, List.not_mem_nil, or_false] at hw
      rcases hw with hw | rfl | hw
      · exact w3 _ (cut_mem hw)
      · exact ho
      · exact w3 _ (cut_mem hw)
    · simp only [List.length_append, List.length_cons, List.length_nil]; omega
  rintro _ ⟨b, hb, rfl⟩
  have c1 := cut_le rows none (some n)
  have c2 := cut_le rows (some (n + 1)) none
  have c3 := cut_le rows (some n) none
  have m1 : ∀ v ∈ cut rows none (some n), Pt v := fun v hv => pr v (cut_mem hv)
  have m2 : ∀ v ∈ cut rows (some (n + 1)) none, Pt v := fun v hv => pr v (cut_mem hv)
  have m3 : ∀ v ∈ cut rows (some n) none, Pt v := fun v hv => pr v (cut_mem hv)
  have mid : ∀ {xs ys : List Vl} {v : Vl}, (∀ v ∈ xs, Pt v) → (∀ v ∈ ys, Pt v) → Pt v → xs.length ≤ 12 → ys.length ≤ 12 → Tg (.lst (xs ++ v :: ys)) := fun {xs ys v} h1 h2 h3 h4 h5 => tg_lst (fun w hw => by
    rcases List.mem_append.mp hw with hw | hw
    · exact h1 w hw
    · rcases List.mem_cons.mp hw with rfl | hw
      · exact h3
      · exact h2 w hw) (by simp only [List.length_append, List.length_cons]; omega)
  have two : ∀ {xs ys : List Vl}, (∀ v ∈ xs, Pt v) → (∀ v ∈ ys, Pt v) → xs.length ≤ 12 → ys.length ≤ 12 → Tg (.lst (xs ++ ys)) := fun {xs ys} h1 h2 h4 h5 => tg_lst (fun w hw => by
    rcases List.mem_append.mp hw with hw | hw
    · exact h1 w hw
    · exact h2 w hw) (by simp only [List.length_append]; omega)
  refine wp_cons _ (Bn7 a rows n ws p o b h 3) ?_ ?_
  · have rv : rev h (.lst rows) = some (.ol rows.reverse) := rfl
    simp
    refine ⟨_, add_lstS (by omega) (by simp), ?_⟩
    simp
    refine ⟨_, add_lstS (by simp; omega) (by omega), ?_⟩
    simp
    refine ⟨_, add_lstS (by omega) (by omega), ?_⟩
    simp [rv]
    refine ⟨_, ?_, ?_, rfl⟩
    · simp
    · intro v hv
      simp only [List.mem_cons, List.not_mem_nil, or_false] at hv
      rcases hv with rfl | rfl | rfl
      · simpa using mid m1 m2 hb (by omega) (by omega)
      · exact two m1 m2 (by omega) (by omega)
      · exact tg_lst (fun w hw => pr w (List.mem_reverse.mp hw)) (by rw [List.length_reverse]; omega)
  rintro _ ⟨L, lL, hL, rfl⟩
  have pw : Pt (.lst ws) := pt_lst w3 (by omega)
  refine wp_cons _ (Bn7 a rows n ws p o b h 4) ?_ ?_
  · rw [x_app, wp_bind, wp_peekL_ol rfl]
    simp
    refine ⟨_, add_lstS (by omega) (by simp), ?_⟩
    simp
    refine ⟨_, add_lstS (by simp; omega) (by omega), ?_⟩
    rw [wp_appAt_ol rfl (by rw [lL]; decide)]
    refine ⟨L ++ [_], by simp [lL], fun v hv => ?_, rfl⟩
    rcases List.mem_append.mp hv with hv | hv
    · exact hL v hv
    · rw [List.mem_singleton.mp hv]
      simpa using mid m1 m3 pw (by omega) (by omega)
  clear hL lL L
  rintro _ ⟨L, lL, hL, rfl⟩
  refine wp_cons _ (Bn7 a rows n ws p o b h 8) ?_ ?_
  · have cw := cut_le ws none (some (-1))
    have pw1 : Pt (.tup (ws ++ [.int 0])) := pt_tup (fun w hw => by
      rcases List.mem_append.mp hw with hw | hw
      · exact w3 w hw
      · rw [List.mem_singleton.mp hw]; exact at_int (by decide)) (by simp; omega)
    have pw2 : Pt (.tup (cut ws none (some (-1)))) := pt_tup (fun w hw => w3 w (cut_mem hw)) (by omega)
    simp
    refine ⟨_, add_lstS (by omega) (by simp), ?_⟩
    simp
    refine ⟨_, add_lstS (by simp; omega) (by omega), ?_⟩
    simp
    refine ⟨_, add_tupS (by omega) (by simp), ?_⟩
    simp
    refine ⟨_, add_lstS (by omega) (by simp), ?_⟩
    simp
    refine ⟨_, add_lstS (by omega) (by simp), ?_⟩
    simp
    refine ⟨_, add_lstS (by omega) (by simp), ?_⟩
    refine ⟨_, ?_, ?_, rfl⟩
    · simp [lL]
    · intro v hv
      simp only [List.mem_append, List.mem_cons, List.not_mem_nil, or_false] at hv
      rcases hv with hv | rfl | rfl | rfl | rfl
      · exact hL v hv
      · simpa using mid m1 m3 ho.pt (by omega) (by omega)
      · exact tg_tup pr (by omega)
      · exact mid (ys := []) pr (fun v hv => by cases hv) pw1 (by omega) (by simp)
      · exact mid (ys := []) pr (fun v hv => by cases hv) pw2 (by omega) (by simp)
  clear hL lL L
  rintro _ ⟨L, lL, hL, rfl⟩
  simp [retE]
  refine take_ok htk hp (by decide) (by decide) fun r h1 r1 r2 p1 _ _ => ?_
  simp
  obtain ⟨v, hv, e⟩ := idx_draw (h := h1) (vs := L) r1 (by omega)
  exact ⟨v, e, q v h1 (hL v hv) p1⟩
end
end VM

/-! VMLc: list comprehensions that change the heap. -/
namespace VM
open PySem (Str)
section
variable {s : St} {Z : Ex → St → Prop} {h : Heap} {env : List (Option Rv)} (c : Cfg)
theorem wp_lcI {own : List Nat} {src : List Vl} {t : T} {elt : E} {Q : List Vl → St → Prop} (P : Vl → Prop) (J : Heap → Prop) (hp : own.all (fun i => plainS (env.getD i none)) = true) (hl : ∀ i ∈ own, i < env.length) (hJ : J h)
    (step : ∀ v ∈ src, ∀ h, J h → Wp ((do bindT t (.v v); (sem c elt).v : M Rv) ⟨wipeE own env, h⟩) (fun r s' => P r.fz ∧ wipeE own s'.env = wipeE own env ∧ J s'.hp) (fun _ _ => False)) (q : ∀ l h', (∀ v ∈ l, P v) → l.length = src.length → J h' → Q l ⟨env, h'⟩) : Wp (block own (each (lcG c elt t .nil own) src) ⟨env, h⟩) Q Z := by
  rw [wp_block]
  refine ⟨hp, ?_⟩
  have := wp_each (Z := fun _ _ => False) (f := lcG c elt t .nil own) (Q := fun l s' => (∀ v ∈ l, P v) ∧ l.length = src.length ∧ wipeE own s'.env = wipeE own env ∧ J s'.hp) (fun rest acc s => (∀ v ∈ rest, v ∈ src) ∧ (∀ v ∈ acc, P v) ∧ acc.length + rest.length = src.length ∧ wipeE own s.env = wipeE own env ∧ J s.hp) (src := src) (acc := []) (s := ⟨env, h⟩) ⟨fun _ z => z, (fun v hv => by cases hv), by simp, rfl, hJ⟩
    (fun v rest acc s ⟨z1, z2, z3, z4, z5⟩ => by
      have e : lcG c elt t .nil own v s = lcG c elt t .nil [] v ⟨wipeE own env, s.hp⟩ := by
        show lcG c elt t .nil [] v ⟨wipeE own s.env, s.hp⟩ = _
        rw [z4]
      rw [e]
      have st := step v (z1 v List.mem_cons_self) s.hp z5
      unfold lcG
      simp only [wp_bind, wp_wipe, wipe_nil, ts_nil, wp_pure, if_true] at st ⊢
      refine st.mono (fun _ s1 z => z.mono (fun r s2 ⟨y1, y2, y3⟩ => ⟨fun u hu => z1 u (List.mem_cons_of_mem _ hu), fun u hu => ?_, ?_, y2, y3⟩) fun _ _ z => z) fun _ _ z => z
      · rcases List.mem_append.mp hu with hu | hu
        · exact z2 u hu
        · simp at hu; rw [hu]; exact y1
      · simp only [List.length_append, Option.toList_some, List.length_cons, List.length_nil] at z3 ⊢; omega)
    (fun acc s ⟨_, z2, z3, z4, z5⟩ => ⟨z2, by simpa using z3, z4, z5⟩)
  refine this.mono (fun l s' ⟨z1, z2, z3, z4⟩ => ?_) fun _ _ z => z
  rw [List.nil_append] at z1 z2
  rw [show backE own env s'.env = env from back_wipe z3 hl]
  exact q l s'.hp z1 z2 z4
end
end VM

set_option maxHeartbeats 2000000
/-! VMRows4: rows that are let by; ends. -/
namespace VM
open PySem (Str)
section
variable {h : Heap} {a k i : Nat} {fs : List Fn} {fuel : Nat} {glob : Nat → Option Vl} {Q : Rv → Heap → Prop} {Z : Ex → Heap → Prop} {w u : Nat} {ns ms : List Int} {cls : List (List Int)} {T C E : Vl}
theorem pool_more {m : List Cell} (p : Pool h a) : Pool (h ++ m) a := by
  obtain ⟨x, y, e, p⟩ := p
  exact ⟨x, y, by rw [List.getElem?_append_left (List.getElem?_eq_some_iff.mp e).1]; exact e, p⟩
def withinF : Fn := ⟨2, 3, [], (.cons (.ret (.bi .all (.cons (.lc (.cmp .isin (.var 2) (.var 1)) (.n 2) (.e (.var 0)) .nil [2]) .nil))) .nil)⟩
theorem bools_map (p : Int → Bool) : ∀ ns : List Int, boolsOf (ns.map fun s => Vl.bl (p s)) = some (ns.map p)
  | [] => rfl
  | s :: ns => by simp [boolsOf, bools_map p ns]
theorem within_ok {A B : Vl} (hi : fs[i]? = some withinF) (hA : SeqI A ns) (hB : SeqI B ms) (hl : ns.length ≤ 1000) (q : Q (.v (.bl (ns.all fun s => decide (s ∈ ms)))) h) : WpF (run fs fuel glob (k + 1) i [A, B] h) Q Z := by
  refine wpF_run (fn := withinF) hi (by simp [withinF]) ?_
  have sq := seqI_seq hA
  simp [withinF, retE, sq]
  refine wp_lcM (g := fun v => match v with | .int s => .bl (decide (s ∈ ms)) | _ => .non) _ (by simp [plainS]) (by simp) (fun v hv => ?_) ?_
  · obtain ⟨s, hs, rfl⟩ := List.mem_map.mp hv
    simp [isIn_int hB]
    exact (Classical.em _).symm
  · have e : (ns.map Vl.int).map (fun v => match v with | .int s => Vl.bl (decide (s ∈ ms)) | _ => .non) = ns.map fun s => .bl (decide (s ∈ ms)) := by rw [List.map_map]; rfl
    rw [e]
    refine ⟨by rw [List.length_map]; omega, ?_⟩
    have e2 := bools_map (fun s => decide (s ∈ ms)) ns
    refine ⟨_, ⟨_, e2, rfl⟩, ?_⟩
    rw [List.all_map]
    exact q
theorem rows_len {cls : List (List Int)} : ∀ {rest : List Vl} {acc f : List (List Int)}, rowsV cls acc rest = .inr f → f.length = acc.length + rest.length
  | [], acc, f, h => by cases h; rfl
  | r :: rest, acc, f, h => by
    simp only [rowsV] at h
    split at h
    · cases h
    · have := rows_len h
      simp only [List.length_append, List.length_cons, List.length_nil] at this ⊢; omega
theorem rows_gd (g : AllG cls) : ∀ {rest : List Vl} {acc f : List (List Int)}, AllG acc → rowsV cls acc rest = .inr f → AllG f
  | [], acc, f, ga, h => by cases h; exact ga
  | r :: rest, acc, f, ga, h => by
    simp only [rowsV] at h
    split at h
    · cases h
    · rename_i hr
      exact rows_gd g (ga.snoc (rowV_gd g hr)) h
theorem thing_gd {f : List (List Int)} (g : AllG cls) (e : thingV cls T = .inr f) : AllG f := by
  unfold thingV at e
  split at e
  · split at e
    · cases e
    · rename_i em
      cases e
      exact rows_gd g (fun c hc => by cases hc) em
  · cases e
theorem thing_ne {f : List (List Int)} (e : thingV cls T = .inr f) : f ≠ [] := by
  unfold thingV at e
  split at e
  · split at e
    · cases e
    · rename_i em
      cases e
      have := rows_len em
      intro z
      rw [z] at this
      simp at this
  · cases e
theorem idx_lastR {h : Heap} {b : Nat} {L : List Vl} {v : Vl} (e : h[b]? = some (.lst (L ++ [v]))) : idx h (.ref b) (.int (-1)) = some v := by
  have p : place (L ++ [v]).length (-1) = some L.length := by
    unfold place
    rw [if_neg (by omega), if_pos (by simp only [List.length_append, List.length_cons, List.length_nil]; omega)]
    congr 1
    simp only [List.length_append, List.length_cons, List.length_nil]; omega
  simp [idx, dits, items, e]
  rw [show L.length + 1 = (L ++ [v]).length by simp, p]
  simp
theorem idx_lastL {h : Heap} {L : List Vl} {v : Vl} : idx h (.lst (L ++ [v])) (.int (-1)) = some v := by
  have p : place (L ++ [v]).length (-1) = some L.length := by
    unfold place
    rw [if_neg (by omega), if_pos (by simp only [List.length_append, List.length_cons, List.length_nil]; omega)]
    congr 1
    simp only [List.length_append, List.length_cons, List.length_nil]; omega
  simp [idx, dits, items]
  rw [show L.length + 1 = (L ++ [v]).length by simp, p]
  simp
theorem snoc_of {f : List (List Int)} (h : f ≠ []) : ∃ f', f = f' ++ [f.getLast?.getD []] := by
  refine ⟨f.dropLast, ?_⟩
  rw [List.getLast?_eq_getLast h, Option.getD_some]
  exact (List.dropLast_concat_getLast h).symm
/-- are they let by? -/
def letsV (cls : List (List Int)) (T : Vl) (e : List Int) : Bool := match thingV cls T with
  | .inl _ => false
  | .inr f => (f.getLast?.getD []).all fun s => decide (s ∈ e)
def letsB (rc wi : Nat) : Ss := (.cons (.tryo (.cons (.asg (.n 3) (.call rc (.cons (.var 0) (.cons (.var 1) .nil))))
  .nil) ["NoRows"] (.cons (.ret (.cst (.bl false)))
  .nil))
(.cons (.ret (.call wi (.cons (.idx (.var 3) (.neg (.cst (.int 1)))) (.cons (.var 2) .nil))))
.nil))
def letsF (rc wi : Nat) : Fn := ⟨3, 4, [.tup []], letsB rc wi⟩
def LtS (C T E : Vl) (cls : List (List Int)) (h : Heap) (s : St) : Prop := ∃ f, thingV cls T = .inr f ∧ AllG f ∧ f.length ≤ 100 ∧ s = ⟨[some (.v C), some (.v T), some (.v E), some (.v (.ref h.length))], h ++ [.lst (f.map tupI)]⟩
theorem AllG.last {f : List (List Int)} (g : AllG f) : Gd 60 (f.getLast?.getD []) := by
  cases e : f.getLast? with
  | none => exact ⟨by simp, (fun s hs => by simp at hs), by simp⟩
  | some c => exact g c (List.mem_of_getLast? e)
theorem lets_any {rc rw_ wi td im mt c : Nat} {as : List Vl} (has : as = [C, T, E] ∨ (as = [C, T] ∧ E = .tup [])) (hi : fs[i]? = some (letsF rc wi)) (hrc : fs[rc]? = some (rowClausesF rw_)) (hrw : fs[rw_]? = some (rowClauseF td im mt)) (htd : fs[td]? = some (isToldF w)) (him : fs[im]? = some (isMetF w)) (hmt : fs[mt]? = some (metF w c)) (hw : fs[w]? = some (isWithinF u)) (hu : fs[u]? = some wholeF) (hc : fs[c]? = some clauseOfF)
    (hwi : fs[wi]? = some withinF) (hC : ListAt h C (cls.map tupI)) (g : AllG cls) (hT : Lk T) (hE : SeqI E ms) (q : ∀ m, Q (.v (.bl (letsV cls T ms))) (h ++ m)) : WpF (run fs fuel glob (k + 6) i as h) Q Z := by
  have key : Wp (execs ⟨run fs fuel glob (k + 5), fuel, glob⟩ (letsB rc wi) ⟨[some (.v C), some (.v T), some (.v E), none], h⟩) (fun fl s => match fl with
      | .rt r => Q r s.hp
      | .nx => Q (.v .non) s.hp
      | _ => False) fun x s => Z x s.hp := by
    simp only [letsB]
    refine wp_cons _ (LtS C T E cls h) (wp_tryo _ ?_) ?_
    · simp
      refine rowClauses_ok hrc hrw htd him hmt hw hu hc hC g hT (fun n m e => ?_) fun f e gf lf => ?_
      · have eq : letsV cls T ms = false := by unfold letsV; rw [e]
        have q := q m
        rw [eq] at q
        simp [retE]
        exact q
      · exact ⟨f, e, gf, lf, rfl⟩
    rintro _ ⟨f, e, gf, lf, rfl⟩
    obtain ⟨f', ef⟩ := snoc_of (thing_ne e)
    have gl := gf.last
    have eq : letsV cls T ms = (f.getLast?.getD []).all fun s => decide (s ∈ ms) := by unfold letsV; rw [e]
    have q := q [.lst (f.map tupI)]
    rw [eq] at q
    have ei : idx (h ++ [Cell.lst (f.map tupI)]) (.ref h.length) (.int (-1)) = some (tupI (f.getLast?.getD [])) := by
      refine idx_lastR (L := f'.map tupI) ?_
      rw [show f'.map tupI ++ [tupI (f.getLast?.getD [])] = (f' ++ [f.getLast?.getD []]).map tupI by simp, ← ef]
      simp
    simp [retE, ei]
    refine within_ok hwi (.inr rfl) hE (by have := gl.ln; omega) ?_
    simpa using q
  refine wpF_run (fn := letsF rc wi) hi ?_ ?_
  · rcases has with rfl | ⟨rfl, _⟩ <;> simp [letsF]
  · rcases has with rfl | ⟨rfl, rfl⟩ <;> exact key
/-! a law's own -/
theorem ne_no (f : List (List Int)) : cop h .ne (.lst (cut (f.map tupI) none (some 1))) (.lst [.str "no"]) = some true := by
  have e : cut (f.map tupI) none (some 1) = (f.map tupI).take 1 := cut_to (f.map tupI) 1
  rw [e]
  show (eqV (.lst ((f.map tupI).take 1)) (.lst [.str "no"])).map not = _
  cases f with
  | nil => rfl
  | cons x f =>
    have e2 : ((x :: f).map tupI).take 1 = [tupI x] := rfl
    have h1 : pd (.lst [tupI x]) = some (.list [.tuple (x.map PySem.PyData.int)]) := by simp [pd, pds, tupI, pds_ints]
    rw [e2, eqV_ok h1 (e := .list [.str "no"]) rfl (by simp [PySem.PyData.depth, PySem.PyData.depthAll, dep_ints]) (by simp [PySem.PyData.depth, PySem.PyData.depthAll])]
    rfl
theorem ne_no0 (n : Vl) : cop h .ne (.lst (cut [.str "no", n] none (some 1))) (.lst [.str "no"]) = some false := by
  have e : cut [Vl.str "no", n] none (some 1) = [.str "no"] := cut_to [Vl.str "no", n] 1
  rw [e]
  show (eqV (.lst [.str "no"]) (.lst [.str "no"])).map not = _
  have e2 : eqV (.lst [.str "no"]) (.lst [.str "no"]) = some true := by decide +kernel
  rw [e2]; rfl
def lawLetsB (lr : Nat) : Ss := (.cons (.asg (.n 3) (.call lr (.cons (.var 0) (.cons (.var 1) .nil))))
(.cons (.ret (.and (.cmp .ne (.slc (.var 3) .no (.some (.cst (.int 1)))) (.lst (.cons (.cst (.str "no")) .nil))) (.cmp .eq (.lc (.var 4) (.n 4) (.e (.idx (.var 3) (.neg (.cst (.int 1))))) (.cons (.cmp .notin (.var 4) (.var 2)) .nil) [4]) (.lst .nil))))
.nil))
def lawLetsF (lr : Nat) : Fn := ⟨3, 5, [], lawLetsB lr⟩
theorem eq_nilI (ns : List Int) : cop h .eq (.lst (ns.map Vl.int)) (.lst []) = some ns.isEmpty := by
  have e : cop h .ne (.lst (ns.map Vl.int)) (.lst []) = (cop h .eq (.lst (ns.map Vl.int)) (.lst [])).map not := rfl
  have := ne_nil (h := h) ns
  rw [e] at this
  cases q : cop h .eq (.lst (ns.map Vl.int)) (.lst []) with
  | none => rw [q] at this; cases this
  | some b =>
    rw [q] at this
    have : (!b) = !ns.isEmpty := Option.some.inj this
    congr 1
    cases b <;> cases hn : ns.isEmpty <;> rw [hn] at this <;> simp at this <;> rfl
theorem lawLets_ok {lr lw lm : Nat} (hi : fs[i]? = some (lawLetsF lr)) (hlr : fs[lr]? = some (lawRowsF lw lm)) (hlw : fs[lw]? = some wholeF) (hlm : fs[lm]? = some lawMeetF) (hC : ListAt h C (cls.map tupI)) (g : AllG cls) (hT : Lk T) (hE : SeqI E ms)
    (gf : ∀ f, thingV cls T = .inr f → AllG f) (q : Q (.v (.bl (letsV cls T ms))) h) : WpF (run fs fuel glob (k + 3) i [C, T, E] h) Q Z := by
  refine wpF_run (fn := lawLetsF lr) hi (by simp [lawLetsF]) ?_
  simp only [lawLetsF, lawLetsB, List.length_cons, List.length_nil, List.map_cons, List.map_nil, List.append_nil, List.drop_nil, List.cons_append, List.nil_append]
  refine wp_cons _ (fun s' => s' = ⟨[some (.v C), some (.v T), some (.v E), some (.ol (dueL (thingV cls T))), none], h⟩) ?_ ?_
  · simp
    refine lawRows_ok hlr hlw hlm hC g hT ?_
    simp
  rintro _ rfl
  cases e : thingV cls T with
  | inl n =>
    have eq : letsV cls T ms = false := by unfold letsV; rw [e]
    rw [eq] at q
    simp [retE, dueL, ne_no0]
    exact q
  | inr f =>
    obtain ⟨f', ef⟩ := snoc_of (thing_ne e)
    have gl := (gf f e).last
    have eq : letsV cls T ms = (f.getLast?.getD []).all fun s => decide (s ∈ ms) := by unfold letsV; rw [e]
    rw [eq] at q
    have ei : ∀ h, idx h (.lst (f.map tupI)) (.int (-1)) = some (tupI (f.getLast?.getD [])) := fun h => by
      have := idx_lastL (h := h) (L := f'.map tupI) (v := tupI (f.getLast?.getD []))
      rwa [show f'.map tupI ++ [tupI (f.getLast?.getD [])] = (f' ++ [f.getLast?.getD []]).map tupI by simp, ← ef] at this
    generalize (f.getLast?.getD []) = la at ei q gl
    have sq : SeqI (tupI la) la := .inr rfl
    simp [retE, dueL, ne_no, ei, seqI_seq sq]
    refine wp_lcP (g := keepZ fun s => !decide (s ∈ ms)) _ (by simp [plainS]) (by simp) (fun v hv => ?_) ?_
    · obtain ⟨s, hs, rfl⟩ := List.mem_map.mp hv
      simp [lcG, keepZ, notIn_int hE]
      by_cases z : s ∈ ms <;> simp [z]
    rw [keepZ_map]
    have ll := gl.ln
    refine ⟨filt_len _ _ (by omega), ?_⟩
    simp [eq_nilI]
    by_cases z : ∀ x ∈ la, x ∈ ms
    · have e : (la.all fun s => decide (s ∈ ms)) = true := by simpa using z
      rw [e] at q
      exact .inr ⟨z, q⟩
    · have e : (la.all fun s => decide (s ∈ ms)) = false := by
        rw [Bool.eq_false_iff]
        intro y
        exact z (by simpa using y)
      rw [e] at q
      exact .inl ⟨by simpa using z, q⟩
/-! ends -/
def endsB (lr cl : Nat) : Ss := (.cons (.asg (.n 3) (.call lr (.cons (.var 1) (.cons (.var 2) .nil))))
(.cons (.asg (.n 4) (.ife (.cmp .ne (.slc (.var 3) .no (.some (.cst (.int 1)))) (.lst (.cons (.cst (.str "no")) .nil))) (.idx (.var 3) (.neg (.cst (.int 1)))) (.tup .nil)))
(.cons (.asg (.n 5) (.lst (.cons (.var 4) (.cons (.slc (.var 4) (.some (.cst (.int 1))) .no) (.cons (.call cl (.cons (.var 0) (.cons (.cst (.int 7)) (.cons (.cst (.int 7)) .nil)))) (.cons (.tup .nil) (.cons (.bi .tuple (.cons (.lc (.bin .sub (.cst (.int 0)) (.var 7)) (.n 7) (.e (.var 4)) .nil [7]) .nil)) .nil)))))))
(.cons (.asg (.n 6) (.bin .add (.lc (.var 7) (.n 7) (.e (.lst (.cons (.cst (.int 1)) (.cons (.neg (.cst (.int 2))) (.cons (.cst (.int 3)) (.cons (.neg (.cst (.int 4))) (.cons (.cst (.int 5)) (.cons (.neg (.cst (.int 6))) (.cons (.cst (.int 7)) .nil))))))))) (.cons (.and (.cmp .notin (.var 7) (.var 4)) (.cmp .notin (.bin .sub (.cst (.int 0)) (.var 7)) (.var 4))) .nil) [7]) (.bi .list (.cons (.var 4) .nil))))
(.cons (.ret (.bin .add (.var 5) (.lst (.cons (.bi .tuple (.cons (.lc (.var 7) (.tup [.n 8, .n 7]) (.e (.bi .sorted (.cons (.lc (.tup (.cons (.bi .abs (.cons (.var 7) .nil)) (.cons (.var 7) .nil))) (.n 7) (.e (.var 6)) .nil [7]) .nil))) .nil [8, 7]) .nil)) .nil))))
.nil)))))
def endsF (lr cl : Nat) : Fn := ⟨3, 9, [], endsB lr cl⟩
/-- an end: a tuple of whole numbers -/
def EndT (v : Vl) : Prop := ∃ ns : List Int, v = tupI ns ∧ ns.length ≤ 200
def EnS (a : Nat) (C T : Vl) (D : List Vl) (la : List Int) (x5 : Option Rv) (s : St) : Prop := ∃ (h : Heap), Pool h a ∧ s = ⟨[some (.v (.ref a)), some (.v C), some (.v T), some (.ol D), some (.v (tupI la)), x5, none, none, none], h⟩
def En5 (a : Nat) (C T : Vl) (D : List Vl) (la : List Int) (s : St) : Prop := ∃ (es : List Vl) (h : Heap), (∀ v ∈ es, EndT v) ∧ es.length = 5 ∧ Pool h a ∧ s = ⟨[some (.v (.ref a)), some (.v C), some (.v T), some (.ol D), some (.v (tupI la)), some (.ol es), none, none, none], h⟩
def En6 (a : Nat) (C T : Vl) (D : List Vl) (la : List Int) (es : List Vl) (s : St) : Prop := ∃ (more : List Int) (h : Heap), more.length ≤ 100 ∧ Pool h a ∧ s = ⟨[some (.v (.ref a)), some (.v C), some (.v T), some (.ol D), some (.v (tupI la)), some (.ol es), some (.ol (more.map Vl.int)), none, none], h⟩
theorem ends_ok {lr lw lm cl tk : Nat} (hi : fs[i]? = some (endsF lr cl)) (hlr : fs[lr]? = some (lawRowsF lw lm)) (hlw : fs[lw]? = some wholeF) (hlm : fs[lm]? = some lawMeetF) (hcl : fs[cl]? = some (clauseF tk)) (htk : fs[tk]? = some takeF) (hC : ListAt h C (cls.map tupI)) (g : AllG cls) (hT : Lk T)
    (gf : ∀ f, thingV cls T = .inr f → AllG f) (hp : Pool h a) (q : ∀ es h', (∀ v ∈ es, EndT v) → es.length ≤ 10 → Pool h' a → Q (.ol es) h') : WpF (run fs fuel glob (k + 3) i [.ref a, C, T] h) Q Z := by
  refine wpF_run (fn := endsF lr cl) hi (by simp [endsF]) ?_
  simp only [endsF, endsB, List.length_cons, List.length_nil, List.map_cons, List.map_nil, List.append_nil, List.drop_nil, List.cons_append, List.nil_append]
  refine wp_cons _ (fun s' => s' = ⟨[some (.v (.ref a)), some (.v C), some (.v T), some (.ol (dueL (thingV cls T))), none, none, none, none, none], h⟩) ?_ ?_
  · simp
    refine lawRows_ok hlr hlw hlm hC g hT ?_
    simp
  rintro _ rfl
  refine wp_cons _ (fun s' => ∃ la : List Int, la.length ≤ 60 ∧ EnS a C T (dueL (thingV cls T)) la none s') ?_ ?_
  · cases e : thingV cls T with
    | inl n =>
      simp [dueL, ne_no0]
      exact ⟨[], by simp, h, hp, rfl⟩
    | inr f =>
      obtain ⟨f', ef⟩ := snoc_of (thing_ne e)
      have gl := (gf f e).last
      have ei : ∀ h, idx h (.lst (f.map tupI)) (.int (-1)) = some (tupI (f.getLast?.getD [])) := fun h => by
        have := idx_lastL (h := h) (L := f'.map tupI) (v := tupI (f.getLast?.getD []))
        rwa [show f'.map tupI ++ [tupI (f.getLast?.getD [])] = (f' ++ [f.getLast?.getD []]).map tupI by simp, ← ef] at this
      generalize (f.getLast?.getD []) = la at ei gl
      simp [dueL, ne_no, ei]
      exact ⟨la, gl.ln, h, hp, rfl⟩
  generalize dueL (thingV cls T) = D
  clear hp
  rintro _ ⟨la, ll, h, hp, rfl⟩
  have sq : SeqI (tupI la) la := .inr rfl
  refine wp_cons _ (En5 a C T D la) ?_ ?_
  · have sl : ∀ h, slc h (tupI la) (some 1) none = some (.v (.tup (cut (la.map Vl.int) (some 1) none))) := fun h => rfl
    have ce : cut (la.map Vl.int) (some 1) none = (la.drop 1).map Vl.int := by
      rw [List.map_drop]; exact cut_from (la.map Vl.int) 1
    simp [sl, ce]
    refine clause_ok hcl htk hp (by decide) (by decide) fun ns h1 c p1 _ => ?_
    have gc := c.gd (m := 7) (by decide)
    simp [seqI_seq sq]
    refine wp_lcM (g := fun v => match v with | .int s => .int (-s) | _ => .non) _ (by simp [plainS]) (by simp) (fun v hv => ?_) ?_
    · obtain ⟨s, hs, rfl⟩ := List.mem_map.mp hv
      simp
    have e : (la.map Vl.int).map (fun v => match v with | .int s => Vl.int (-s) | _ => .non) = (la.map fun s => -s).map Vl.int := by rw [List.map_map, List.map_map]; rfl
    rw [e]
    refine ⟨by rw [List.length_map, List.length_map]; omega, ?_⟩
    rw [wp_bindT]
    refine ⟨by simp, _, h1, fun v hv => ?_, rfl, p1, rfl⟩
    simp only [List.mem_cons, List.not_mem_nil, or_false] at hv
    rcases hv with rfl | rfl | rfl | rfl | rfl
    · exact ⟨la, rfl, by omega⟩
    · exact ⟨la.tail, by simp [tupI], by rw [List.length_tail]; omega⟩
    · exact ⟨ns, rfl, by have := gc.ln; omega⟩
    · exact ⟨[], rfl, by simp⟩
    · exact ⟨la.map fun s => -s, by simp [tupI], by rw [List.length_map]; omega⟩
  clear hp
  rintro _ ⟨es, h, he, le, hp, rfl⟩
  refine wp_cons _ (En6 a C T D la es) ?_ ?_
  · simp
    refine wp_lcP (g := keepZ fun s => !decide (s ∈ la) && !decide (-s ∈ la)) _ (by simp [plainS]) (by simp) (fun v hv => ?_) ?_
    · obtain ⟨s, hs, rfl⟩ := List.mem_map.mp (show v ∈ ([1, -2, 3, -4, 5, -6, 7] : List Int).map Vl.int from by simpa using hv)
      simp [lcG, keepZ, notIn_int sq]
      by_cases z : s ∈ la <;> by_cases z2 : -s ∈ la <;> simp [z, z2]
    · have e0 : ([.int 1, .int (-2), .int 3, .int (-4), .int 5, .int (-6), .int 7] : List Vl).filterMap (keepZ fun s => !decide (s ∈ la) && !decide (-s ∈ la)) = (([1, -2, 3, -4, 5, -6, 7] : List Int).filter fun s => !decide (s ∈ la) && !decide (-s ∈ la)).map Vl.int := keepZ_map _ [1, -2, 3, -4, 5, -6, 7]
      rw [e0]
      have l0 := List.length_filter_le (fun s => !decide (s ∈ la) && !decide (-s ∈ la)) ([1, -2, 3, -4, 5, -6, 7] : List Int)
      generalize (([1, -2, 3, -4, 5, -6, 7] : List Int).filter fun s => !decide (s ∈ la) && !decide (-s ∈ la)) = fl at l0 ⊢
      simp only [List.length_cons, List.length_nil] at l0
      refine ⟨by rw [List.length_map]; omega, ?_⟩
      have lt : ∀ h, bi h .list [tupI la] = some (.ol (la.map Vl.int)) := fun h => rfl
      simp [lt]
      refine ⟨_, add_lstS (by rw [List.length_map]; omega) (by rw [List.length_map]; omega), ?_⟩
      exact ⟨fl ++ la, h, by rw [List.length_append]; omega, hp, by simp⟩
  clear hp
  rintro _ ⟨more, h, lm_, hp, rfl⟩
  simp [retE]
  refine wp_lcM (g := prG) _ (by simp [plainS]) (by simp) (fun v hv => ?_) ?_
  · obtain ⟨s, hs, rfl⟩ := List.mem_map.mp hv
    simp [prG, prV]
    omega
  · have e6 : (more.map Vl.int).map prG = more.map prV := by rw [List.map_map]; rfl
    rw [e6]
    refine ⟨by rw [List.length_map]; omega, ?_⟩
    refine ⟨_, sorted_prs more, ?_⟩
    simp
    refine wp_lcM (g := prS) _ (by simp [plainS]) (by simp) (fun v hv => ?_) ?_
    · obtain ⟨s, hs, rfl⟩ := List.mem_map.mp hv
      simp [prV, prS]
    · have e7 : ((sortP keyS more).map prV).map prS = (sortP keyS more).map Vl.int := by rw [List.map_map]; rfl
      rw [e7]
      refine ⟨by rw [List.length_map, sortS_len]; omega, ?_⟩
      simp
      refine ⟨_, add_lstS (by omega) (by simp), ?_⟩
      refine q _ h (fun v hv => ?_) (by simp; omega) hp
      rcases List.mem_append.mp hv with hv | hv
      · exact he v hv
      · rw [List.mem_singleton.mp hv]
        exact ⟨sortP keyS more, rfl, by rw [sortS_len]; omega⟩
end
end VM

namespace K06
open VM
open PySem (Str)
/-! is_whole -/
def b0 : Ss := (.cons (.ret (.and (.isa (.var 0) [.int]) (.nt (.isa (.var 0) [.bool]))))
.nil)
def f0 : Fn := ⟨1, 1, [], b0⟩
/-! is_within -/
def b1 : Ss := (.cons (.ret (.and (.call 0 (.cons (.var 0) .nil)) (.chain (.var 1) .le (.var 0) .le (.var 2))))
.nil)
def f1 : Fn := ⟨3, 3, [], b1⟩
/-! clause_of -/
def b2 : Ss := (.cons (.asg (.n 1) (.dc (.bi .abs (.cons (.var 2) .nil)) (.var 2) (.n 2) (.e (.var 0)) [2]))
(.cons (.iff (.bi .any (.cons (.lc (.cmp .ne (.idx (.var 1) (.bi .abs (.cons (.var 2) .nil))) (.var 2)) (.n 2) (.e (.var 0)) .nil [2]) .nil)) (.cons (.ret (.cst (.non)))
  .nil) .nil)
(.cons (.ret (.bi .tuple (.cons (.lc (.idx (.var 1) (.var 3)) (.n 3) (.e (.bi .sorted (.cons (.var 1) .nil))) .nil [3]) .nil)))
.nil)))
def f2 : Fn := ⟨1, 4, [], b2⟩
/-! says -/
def b3 : Ss := (.cons (.ret (.cmp .eq (.idx (.var 1) (.bin .sub (.bi .abs (.cons (.var 0) .nil)) (.cst (.int 1)))) (.cmp .gt (.var 0) (.cst (.int 0)))))
.nil)
def f3 : Fn := ⟨2, 2, [], b3⟩
/-! holds -/
def b4 : Ss := (.cons (.ret (.bi .any (.cons (.lc (.call 3 (.cons (.var 2) (.cons (.var 1) .nil))) (.n 2) (.e (.var 0)) .nil [2]) .nil)))
.nil)
def f4 : Fn := ⟨2, 3, [], b4⟩
/-! within -/
def b5 : Ss := (.cons (.ret (.bi .all (.cons (.lc (.cmp .isin (.var 2) (.var 1)) (.n 2) (.e (.var 0)) .nil [2]) .nil)))
.nil)
def f5 : Fn := ⟨2, 3, [], b5⟩
/-! met -/
def b6 : Ss := (.cons (.iff (.or (.nt (.call 1 (.cons (.var 2) (.cons (.cst (.int 1)) (.cons (.cst (.int 60)) .nil))))) (.or (.cmp .notin (.var 2) (.var 0)) (.cmp .notin (.neg (.var 2)) (.var 1)))) (.cons (.raise "NoMeeting" ["thing"] (.cons (.var 2) .nil))
  .nil) .nil)
(.cons (.asg (.n 3) (.bin .add (.lc (.var 5) (.n 5) (.e (.var 0)) (.cons (.cmp .ne (.var 5) (.var 2)) .nil) [5]) (.lc (.var 5) (.n 5) (.e (.var 1)) (.cons (.cmp .ne (.var 5) (.neg (.var 2))) .nil) [5])))
(.cons (.asg (.n 4) (.call 2 (.cons (.var 3) .nil)))
(.cons (.iff (.isN (.var 4)) (.cons (.raise "NoMeeting" ["thing"] (.cons (.var 2) .nil))
  .nil) .nil)
(.cons (.ret (.var 4))
.nil)))))
def f6 : Fn := ⟨3, 6, [], b6⟩
/-! is_told -/
def b7 : Ss := (.cons (.ret (.and (.cmp .eq (.bi .len (.cons (.var 0) .nil)) (.cst (.int 2))) (.and (.cmp .eq (.idx (.var 0) (.cst (.int 0))) (.cst (.str "told"))) (.call 1 (.cons (.idx (.var 0) (.cst (.int 1))) (.cons (.cst (.int 0)) (.cons (.bin .sub (.var 1) (.cst (.int 1))) .nil)))))))
.nil)
def f7 : Fn := ⟨2, 2, [], b7⟩
/-! is_met -/
def b8 : Ss := (.cons (.ret (.and (.cmp .eq (.bi .len (.cons (.var 0) .nil)) (.cst (.int 4))) (.and (.cmp .eq (.idx (.var 0) (.cst (.int 0))) (.cst (.str "met"))) (.and (.call 1 (.cons (.idx (.var 0) (.cst (.int 1))) (.cons (.cst (.int 0)) (.cons (.bin .sub (.var 1) (.cst (.int 1))) .nil)))) (.call 1 (.cons (.idx (.var 0) (.cst (.int 2))) (.cons (.cst (.int 0)) (.cons (.bin .sub (.var 1) (.cst (.int 1))) .nil))))))))
.nil)
def f8 : Fn := ⟨2, 2, [], b8⟩
/-! row_clause -/
def b9 : Ss := (.cons (.iff (.or (.nt (.isa (.var 1) [.tuple])) (.or (.cmp .eq (.var 1) (.tup .nil)) (.nt (.isa (.idx (.var 1) (.cst (.int 0))) [.str])))) (.cons (.ret (.cst (.non)))
  .nil) .nil)
(.cons (.iff (.call 7 (.cons (.var 1) (.cons (.bi .len (.cons (.var 0) .nil)) .nil))) (.cons (.ret (.idx (.var 0) (.idx (.var 1) (.cst (.int 1)))))
  .nil) .nil)
(.cons (.iff (.nt (.call 8 (.cons (.var 1) (.cons (.bi .len (.cons (.var 2) .nil)) .nil)))) (.cons (.ret (.cst (.non)))
  .nil) .nil)
(.cons (.tryo (.cons (.asg (.n 3) (.call 6 (.cons (.idx (.var 2) (.idx (.var 1) (.cst (.int 1)))) (.cons (.idx (.var 2) (.idx (.var 1) (.cst (.int 2)))) (.cons (.idx (.var 1) (.cst (.int 3))) .nil)))))
  .nil) ["NoMeeting"] (.cons (.asg (.n 3) (.cst (.non)))
  .nil))
(.cons (.ret (.var 3))
.nil)))))
def f9 : Fn := ⟨3, 4, [], b9⟩
/-! row_clauses -/
def b10_0 : Ss := (.cons (.asg (.n 5) (.call 9 (.cons (.var 0) (.cons (.var 4) (.cons (.var 2) .nil)))))
(.cons (.iff (.isN (.var 5)) (.cons (.raise "NoRows" ["number"] (.cons (.var 3) .nil))
  .nil) .nil)
(.cons (.app 2 (.var 5))
.nil)))
def b10 : Ss := (.cons (.iff (.or (.nt (.isa (.var 1) [.list])) (.cmp .eq (.var 1) (.lst .nil))) (.cons (.raise "NoRows" ["number"] (.cons (.cst (.non)) .nil))
  .nil) .nil)
(.cons (.asg (.n 2) (.alloc (.lst .nil)))
(.cons (.loop (.tup [.n 3, .n 4]) (.enum (.var 1)) b10_0)
(.cons (.ret (.var 2))
.nil))))
def f10 : Fn := ⟨2, 6, [], b10⟩
/-! lets_rows -/
def b11 : Ss := (.cons (.tryo (.cons (.asg (.n 3) (.call 10 (.cons (.var 0) (.cons (.var 1) .nil))))
  .nil) ["NoRows"] (.cons (.ret (.cst (.bl false)))
  .nil))
(.cons (.ret (.call 5 (.cons (.idx (.var 3) (.neg (.cst (.int 1)))) (.cons (.var 2) .nil))))
.nil))
def f11 : Fn := ⟨3, 4, [.tup []], b11⟩
/-! _law_pool -/
def b12 : Ss := (.cons (.asg (.n 2) (.cst (.int 0)))
(.cons (.iff (.cmp .ne (.var 0) (.lst .nil)) (.cons (.asg (.n 2) (.idx (.var 0) (.bin .mod (.var 1) (.bi .len (.cons (.var 0) .nil)))))
  .nil) .nil)
(.cons (.iff (.cmp .ge (.var 1) (.bi .len (.cons (.var 0) .nil))) (.cons (.asg (.n 2) (.idx (.lst (.cons (.bin .mod (.var 2) (.cst (.int 1000003))) (.cons (.bin .fdiv (.var 2) (.bin .pow (.cst (.int 10)) (.cst (.int 18)))) .nil))) (.bi .int (.cons (.cmp .ge (.var 2) (.bin .pow (.cst (.int 10)) (.cst (.int 36)))) .nil))))
  .nil) .nil)
(.cons (.asg (.n 3) (.bin .mod (.bin .mul (.bin .add (.bin .add (.bin .mod (.var 2) (.cst (.int 2147483629))) (.bin .mul (.cst (.int 104729)) (.var 1))) (.cst (.int 11))) (.cst (.int 48271))) (.cst (.int 2147483647))))
(.cons (.ret (.lst (.cons (.bin .mul (.var 2) (.bi .int (.cons (.cmp .ge (.var 2) (.bin .pow (.cst (.int 10)) (.cst (.int 18)))) .nil))) (.cons (.var 3) .nil))))
.nil)))))
def f12 : Fn := ⟨2, 4, [], b12⟩
/-! _law_take -/
def b13 : Ss := (.cons (.iff (.cmp .gt (.idx (.var 0) (.cst (.int 0))) (.cst (.int 0))) (.cons (.asg (.n 2) (.bin .mod (.idx (.var 0) (.cst (.int 0))) (.var 1)))
  (.cons (.put (.var 0) (.cst (.int 0)) (.bin .fdiv (.idx (.var 0) (.cst (.int 0))) (.var 1)))
  (.cons (.ret (.var 2))
  .nil))) .nil)
(.cons (.put (.var 0) (.cst (.int 1)) (.bin .mod (.bin .add (.bin .mul (.idx (.var 0) (.cst (.int 1))) (.cst (.int 48271))) (.cst (.int 11))) (.cst (.int 2147483647))))
(.cons (.ret (.bin .mod (.bin .fdiv (.bin .mod (.bin .mul (.idx (.var 0) (.cst (.int 1))) (.idx (.var 0) (.cst (.int 1)))) (.cst (.int 2147483629))) (.cst (.int 64))) (.var 1)))
.nil)))
def f13 : Fn := ⟨2, 3, [], b13⟩
/-! _law_whole -/
def b14 : Ss := (.cons (.ret (.and (.isa (.var 0) [.int]) (.nt (.isa (.var 0) [.bool]))))
.nil)
def f14 : Fn := ⟨1, 1, [], b14⟩
/-! _law_fillings -/
def b15 : Ss := (.cons (.ret (.lc (.bi .tuple (.cons (.lc (.cmp .eq (.bin .band (.bin .shr (.var 1) (.bin .sub (.bin .sub (.var 0) (.cst (.int 1))) (.var 2))) (.cst (.int 1))) (.cst (.int 1))) (.n 2) (.range1 (.var 0)) .nil [2]) .nil)) (.n 1) (.range1 (.bin .shl (.cst (.int 1)) (.var 0))) .nil [1]))
.nil)
def f15 : Fn := ⟨1, 3, [], b15⟩
/-! _law_says -/
def b16 : Ss := (.cons (.ret (.cmp .eq (.idx (.var 1) (.bin .sub (.bi .abs (.cons (.var 0) .nil)) (.cst (.int 1)))) (.cmp .gt (.var 0) (.cst (.int 0)))))
.nil)
def f16 : Fn := ⟨2, 2, [], b16⟩
/-! _law_hold -/
def b17 : Ss := (.cons (.ret (.cmp .eq (.lc (.var 2) (.n 2) (.e (.var 0)) (.cons (.cmp .eq (.lc (.var 3) (.n 3) (.e (.var 2)) (.cons (.call 16 (.cons (.var 3) (.cons (.var 1) .nil))) .nil) [3]) (.lst .nil)) .nil) [2]) (.lst .nil)))
.nil)
def f17 : Fn := ⟨2, 4, [], b17⟩
/-! _law_clause -/
def b18_0 : Ss := (.cons (.iff (.and (.cmp .lt (.bi .len (.cons (.var 3) .nil)) (.var 2)) (.cmp .eq (.call 13 (.cons (.var 0) (.cons (.cst (.int 3)) .nil))) (.cst (.int 0)))) (.cons (.app 3 (.idx (.lst (.cons (.var 4) (.cons (.bin .sub (.cst (.int 0)) (.var 4)) .nil))) (.call 13 (.cons (.var 0) (.cons (.cst (.int 2)) .nil)))))
  .nil) .nil)
.nil)
def b18 : Ss := (.cons (.asg (.n 3) (.lst .nil))
(.cons (.loop (.n 4) (.range2 (.cst (.int 1)) (.bin .add (.var 1) (.cst (.int 1)))) b18_0)
(.cons (.ret (.bi .tuple (.cons (.var 3) .nil)))
.nil)))
def f18 : Fn := ⟨3, 5, [], b18⟩
/-! _law_sign -/
def b19 : Ss := (.cons (.asg (.n 2) (.bin .add (.cst (.int 1)) (.call 13 (.cons (.var 0) (.cons (.var 1) .nil)))))
(.cons (.ret (.idx (.lst (.cons (.var 2) (.cons (.bin .sub (.cst (.int 0)) (.var 2)) .nil))) (.call 13 (.cons (.var 0) (.cons (.cst (.int 2)) .nil)))))
.nil))
def f19 : Fn := ⟨2, 3, [], b19⟩
/-! _law_meet -/
def b20_0 : Ss := (.cons (.iff (.and (.cmp .ne (.var 4) (.bin .sub (.cst (.int 0)) (.var 2))) (.cmp .notin (.var 4) (.var 3))) (.cons (.app 3 (.var 4))
  .nil) .nil)
.nil)
def b20 : Ss := (.cons (.iff (.or (.cmp .notin (.var 2) (.var 0)) (.cmp .notin (.bin .sub (.cst (.int 0)) (.var 2)) (.var 1))) (.cons (.ret (.cst (.non)))
  .nil) .nil)
(.cons (.asg (.n 3) (.lc (.var 4) (.n 4) (.e (.var 0)) (.cons (.cmp .ne (.var 4) (.var 2)) .nil) [4]))
(.cons (.loop (.n 4) (.e (.var 1)) b20_0)
(.cons (.iff (.cmp .ne (.lc (.var 4) (.n 4) (.e (.var 3)) (.cons (.cmp .isin (.bin .sub (.cst (.int 0)) (.var 4)) (.var 3)) .nil) [4]) (.lst .nil)) (.cons (.ret (.cst (.non)))
  .nil) .nil)
(.cons (.ret (.bi .tuple (.cons (.lc (.var 4) (.tup [.n 5, .n 4]) (.e (.bi .sorted (.cons (.lc (.tup (.cons (.bi .abs (.cons (.var 4) .nil)) (.cons (.var 4) .nil))) (.n 4) (.e (.var 3)) .nil [4]) .nil))) .nil [5, 4]) .nil)))
.nil)))))
def f20 : Fn := ⟨3, 6, [], b20⟩
/-! _law_row_clauses -/
def b21_0 : Ss := (.cons (.asg (.n 5) (.cst (.non)))
(.cons (.iff (.and (.isa (.var 4) [.tuple]) (.and (.cmp .eq (.bi .len (.cons (.var 4) .nil)) (.cst (.int 2))) (.and (.cmp .eq (.idx (.var 4) (.cst (.int 0))) (.cst (.str "told"))) (.call 14 (.cons (.idx (.var 4) (.cst (.int 1))) .nil))))) (.cons (.iff (.and (.cmp .le (.cst (.int 0)) (.idx (.var 4) (.cst (.int 1)))) (.cmp .lt (.idx (.var 4) (.cst (.int 1))) (.bi .len (.cons (.var 0) .nil)))) (.cons (.asg (.n 5) (.idx (.var 0) (.idx (.var 4) (.cst (.int 1)))))
    .nil) .nil)
  .nil) .nil)
(.cons (.iff (.and (.isa (.var 4) [.tuple]) (.and (.cmp .eq (.bi .len (.cons (.var 4) .nil)) (.cst (.int 4))) (.cmp .eq (.idx (.var 4) (.cst (.int 0))) (.cst (.str "met"))))) (.cons (.iff (.and (.cmp .eq (.lc (.var 6) (.n 6) (.e (.slc (.var 4) (.some (.cst (.int 1))) .no)) (.cons (.nt (.call 14 (.cons (.var 6) .nil))) .nil) [6]) (.lst .nil)) (.cmp .lt (.cst (.int 0)) (.idx (.var 4) (.cst (.int 3))))) (.cons (.iff (.and (.cmp .le (.cst (.int 0)) (.idx (.var 4) (.cst (.int 1)))) (.and (.cmp .lt (.idx (.var 4) (.cst (.int 1))) (.var 3)) (.and (.cmp .le (.cst (.int 0)) (.idx (.var 4) (.cst (.int 2)))) (.cmp .lt (.idx (.var 4) (.cst (.int 2))) (.var 3))))) (.cons (.asg (.n 5) (.call 20 (.cons (.idx (.var 2) (.idx (.var 4) (.cst (.int 1)))) (.cons (.idx (.var 2) (.idx (.var 4) (.cst (.int 2)))) (.cons (.idx (.var 4) (.cst (.int 3))) .nil)))))
      .nil) .nil)
    .nil) .nil)
  .nil) .nil)
(.cons (.iff (.isN (.var 5)) (.cons (.ret (.lst (.cons (.cst (.str "no")) (.cons (.var 3) .nil))))
  .nil) .nil)
(.cons (.app 2 (.var 5))
.nil)))))
def b21 : Ss := (.cons (.iff (.or (.nt (.isa (.var 1) [.list])) (.cmp .eq (.var 1) (.lst .nil))) (.cons (.ret (.lst (.cons (.cst (.str "no")) (.cons (.cst (.non)) .nil))))
  .nil) .nil)
(.cons (.asg (.n 2) (.lst .nil))
(.cons (.loop (.tup [.n 3, .n 4]) (.enum (.var 1)) b21_0)
(.cons (.ret (.var 2))
.nil))))
def f21 : Fn := ⟨2, 7, [], b21⟩
/-! _law_lets_rows -/
def b22 : Ss := (.cons (.asg (.n 3) (.call 21 (.cons (.var 0) (.cons (.var 1) .nil))))
(.cons (.ret (.and (.cmp .ne (.slc (.var 3) .no (.some (.cst (.int 1)))) (.lst (.cons (.cst (.str "no")) .nil))) (.cmp .eq (.lc (.var 4) (.n 4) (.e (.idx (.var 3) (.neg (.cst (.int 1))))) (.cons (.cmp .notin (.var 4) (.var 2)) .nil) [4]) (.lst .nil))))
.nil))
def f22 : Fn := ⟨3, 5, [], b22⟩
/-! _law_drawn_rows -/
def b23_0 : Ss := (.cons (.iff (.cmp .ne (.var 3) (.lst .nil)) (.cons (.asg (.n 8) (.call 13 (.cons (.var 0) (.cons (.bi .len (.cons (.var 3) .nil)) .nil))))
  (.cons (.asg (.n 9) (.call 13 (.cons (.var 0) (.cons (.bi .len (.cons (.var 3) .nil)) .nil))))
  (.cons (.asg (.n 10) (.lc (.var 11) (.n 11) (.e (.idx (.var 3) (.var 8))) (.cons (.and (.cmp .gt (.var 11) (.cst (.int 0))) (.cmp .isin (.bin .sub (.cst (.int 0)) (.var 11)) (.idx (.var 3) (.var 9)))) .nil) [11]))
  (.cons (.asg (.n 10) (.lc (.var 11) (.n 11) (.e (.var 10)) (.cons (.notN (.call 20 (.cons (.idx (.var 3) (.var 8)) (.cons (.idx (.var 3) (.var 9)) (.cons (.var 11) .nil))))) .nil) [11]))
  (.cons (.iff (.cmp .ne (.var 10) (.lst .nil)) (.cons (.asg (.n 5) (.tup (.cons (.cst (.str "met")) (.cons (.var 8) (.cons (.var 9) (.cons (.idx (.var 10) (.call 13 (.cons (.var 0) (.cons (.bi .len (.cons (.var 10) .nil)) .nil)))) .nil))))))
    (.cons (.asg (.n 6) (.call 20 (.cons (.idx (.var 3) (.var 8)) (.cons (.idx (.var 3) (.var 9)) (.cons (.idx (.var 5) (.cst (.int 3))) .nil)))))
    .nil)) .nil)
  .nil))))) .nil)
.nil)
def b23_1 : Ss := (.cons (.asg (.n 5) (.tup (.cons (.cst (.str "told")) (.cons (.call 13 (.cons (.var 0) (.cons (.bi .len (.cons (.var 1) .nil)) .nil))) .nil))))
(.cons (.asg (.n 6) (.idx (.var 1) (.idx (.var 5) (.cst (.int 1)))))
(.cons (.loop (.n 7) (.range1 (.cst (.int 4))) b23_0)
(.cons (.app 2 (.var 5))
(.cons (.app 3 (.var 6))
.nil)))))
def b23 : Ss := (.cons (.asg (.n 2) (.lst .nil))
(.cons (.asg (.n 3) (.lst .nil))
(.cons (.loop (.n 4) (.range1 (.bin .add (.cst (.int 1)) (.call 13 (.cons (.var 0) (.cons (.cst (.int 12)) .nil))))) b23_1)
(.cons (.ret (.var 2))
.nil))))
def f23 : Fn := ⟨2, 12, [], b23⟩
/-! _law_bent_rows -/
def b24 : Ss := (.cons (.asg (.n 2) (.call 13 (.cons (.var 0) (.cons (.bi .len (.cons (.var 1) .nil)) .nil))))
(.cons (.asg (.n 3) (.idx (.var 1) (.var 2)))
(.cons (.asg (.n 4) (.call 13 (.cons (.var 0) (.cons (.bi .len (.cons (.var 3) .nil)) .nil))))
(.cons (.asg (.n 5) (.idx (.lst (.cons (.cst (.non)) (.cons (.cst (.bl true)) (.cons (.neg (.cst (.int 1))) (.cons (.cst (.int 99)) (.cons (.cst (.int 0)) (.cons (.cst (.int 1)) (.cons (.cst (.str "told")) (.cons (.cst (.str "met")) (.cons (.tup (.cons (.cst (.int 1)) .nil)) (.cons (.cst (.int 2)) .nil))))))))))) (.call 13 (.cons (.var 0) (.cons (.cst (.int 10)) .nil)))))
(.cons (.asg (.n 6) (.bin .add (.bin .add (.slc (.var 3) .no (.some (.var 4))) (.tup (.cons (.var 5) .nil))) (.slc (.var 3) (.some (.bin .add (.var 4) (.cst (.int 1)))) .no)))
(.cons (.asg (.n 7) (.lst (.cons (.bin .add (.bin .add (.slc (.var 1) .no (.some (.var 2))) (.lst (.cons (.var 6) .nil))) (.slc (.var 1) (.some (.bin .add (.var 2) (.cst (.int 1)))) .no)) (.cons (.bin .add (.slc (.var 1) .no (.some (.var 2))) (.slc (.var 1) (.some (.bin .add (.var 2) (.cst (.int 1)))) .no)) (.cons (.rev (.var 1)) .nil)))))
(.cons (.app 7 (.bin .add (.bin .add (.slc (.var 1) .no (.some (.var 2))) (.lst (.cons (.bi .list (.cons (.var 3) .nil)) .nil))) (.slc (.var 1) (.some (.var 2)) .no)))
(.cons (.asg (.n 7) (.bin .add (.var 7) (.lst (.cons (.bin .add (.bin .add (.slc (.var 1) .no (.some (.var 2))) (.lst (.cons (.var 5) .nil))) (.slc (.var 1) (.some (.var 2)) .no)) (.cons (.bi .tuple (.cons (.var 1) .nil)) (.cons (.bin .add (.var 1) (.lst (.cons (.bin .add (.var 3) (.tup (.cons (.cst (.int 0)) .nil))) .nil))) (.cons (.bin .add (.var 1) (.lst (.cons (.slc (.var 3) .no (.some (.neg (.cst (.int 1))))) .nil))) .nil)))))))
(.cons (.ret (.idx (.var 7) (.call 13 (.cons (.var 0) (.cons (.cst (.int 8)) .nil)))))
.nil)))))))))
def f24 : Fn := ⟨2, 8, [], b24⟩
/-! _law_follows -/
def b25_0 : Ss := (.cons (.iff (.and (.call 17 (.cons (.var 0) (.cons (.var 3) .nil))) (.nt (.call 4 (.cons (.var 1) (.cons (.var 3) .nil))))) (.cons (.ret (.cst (.bl false)))
  .nil) .nil)
.nil)
def b25 : Ss := (.cons (.loop (.n 3) (.e (.var 2)) b25_0)
(.cons (.ret (.cst (.bl true)))
.nil))
def f25 : Fn := ⟨3, 4, [], b25⟩
/-! _law_last -/
def b26 : Ss := (.cons (.asg (.n 2) (.cst (.non)))
(.cons (.tryo (.cons (.asg (.n 2) (.idx (.call 10 (.cons (.var 0) (.cons (.var 1) .nil))) (.neg (.cst (.int 1)))))
  .nil) ["NoRows"] (.cons (.asg (.n 2) (.cst (.non)))
  .nil))
(.cons (.ret (.var 2))
.nil)))
def f26 : Fn := ⟨2, 3, [], b26⟩
/-! law -/
def b27_0 : Ss := (.cons (.iff (.and (.notN (.var 11)) (.call 11 (.cons (.var 8) (.cons (.var 7) (.cons (.var 11) .nil))))) (.cons (.iff (.nt (.call 25 (.cons (.var 8) (.cons (.var 11) (.cons (.var 1) .nil))))) (.cons (.ret (.cst (.bl false)))
    .nil) .nil)
  .nil) .nil)
.nil)
def b27_1 : Ss := (.cons (.asg (.n 10) (.call 26 (.cons (.var 8) (.cons (.var 7) .nil))))
(.cons (.iff (.and (.notN (.var 10)) (.nt (.call 11 (.cons (.var 8) (.cons (.var 7) (.cons (.var 10) .nil)))))) (.cons (.ret (.cst (.bl false)))
  .nil) .nil)
(.cons (.loop (.n 11) (.e (.lst (.cons (.var 10) (.cons (.tup .nil) (.cons (.call 18 (.cons (.var 3) (.cons (.cst (.int 7)) (.cons (.cst (.int 7)) .nil)))) .nil))))) b27_0)
.nil)))
def b27_2 : Ss := (.cons (.loop (.n 8) (.e (.var 6)) b27_1)
.nil)
def b27_3 : Ss := (.cons (.asg (.n 3) (.alloc (.call 12 (.cons (.var 0) (.cons (.var 2) .nil)))))
(.cons (.asg (.n 4) (.lc (.call 18 (.cons (.var 3) (.cons (.cst (.int 7)) (.cons (.cst (.int 4)) .nil)))) (.n 9) (.range1 (.bin .add (.cst (.int 1)) (.call 13 (.cons (.var 3) (.cons (.cst (.int 8)) .nil))))) .nil [9]))
(.cons (.asg (.n 5) (.call 23 (.cons (.var 3) (.cons (.var 4) .nil))))
(.cons (.asg (.n 6) (.lst (.cons (.var 4) (.cons (.bin .add (.var 4) (.lst (.cons (.call 18 (.cons (.var 3) (.cons (.cst (.int 7)) (.cons (.cst (.int 4)) .nil)))) .nil))) (.cons (.lc (.slc (.var 12) (.some (.cst (.int 1))) .no) (.n 12) (.e (.var 4)) .nil [12]) .nil)))))
(.cons (.loop (.n 7) (.e (.lst (.cons (.var 5) (.cons (.slc (.var 5) .no (.some (.bin .add (.cst (.int 1)) (.call 13 (.cons (.var 3) (.cons (.bi .len (.cons (.var 5) .nil)) .nil)))))) (.cons (.call 24 (.cons (.var 3) (.cons (.var 5) .nil))) .nil))))) b27_2)
.nil)))))
def b27 : Ss := (.cons (.asg (.n 1) (.call 15 (.cons (.cst (.int 7)) .nil)))
(.cons (.loop (.n 2) (.range1 (.bi .max (.cons (.cst (.int 1)) (.cons (.bi .min (.cons (.cst (.int 8)) (.cons (.bi .len (.cons (.var 0) .nil)) .nil))) .nil)))) b27_3)
(.cons (.ret (.cst (.bl true)))
.nil)))
def f27 : Fn := ⟨1, 13, [], b27⟩
def fs : List Fn := [f0, f1, f2, f3, f4, f5, f6, f7, f8, f9, f10, f11, f12, f13, f14, f15, f16, f17, f18, f19, f20, f21, f22, f23, f24, f25, f26, f27]
end K06

set_option maxHeartbeats 4000000
namespace K06
open VM
open PySem (Str)
abbrev rn := VM.run fs 100 (fun _ => none)
abbrev cg (k : Nat) : Cfg := ⟨rn k, 100, fun _ => none⟩
/-! clauses of seven things -/
def All7 (cls : List (List Int)) : Prop := ∀ c ∈ cls, Gd 7 c
theorem gd_wide {m : Int} {c : List Int} (g : Gd m c) (h : m ≤ 60) : Gd 60 c := ⟨g.nd, fun s hs => by have := g.sg s hs; omega, g.ln⟩
theorem All7.all {cls : List (List Int)} (g : All7 cls) : AllG cls := fun c hc => gd_wide (g c hc) (by decide)
theorem met_in {one other r : List Int} {v : Vl} (h1 : Sgs one) (h2 : Sgs other) (hr : metV one other v = some r) : ∀ s ∈ r, s ∈ one ∨ s ∈ other := fun s hs => by
  cases v with
  | int t =>
    have hr : (if 1 ≤ t ∧ t ≤ 60 then meetL one other t else none) = some r := hr
    split at hr
    · unfold meetL at hr
      split at hr
      · split at hr
        · cases hr
        · cases hr
          have := (rise_mem (left_sgs h1 h2 t)).mp hs
          rcases left_mem.mp this with ⟨h, _⟩ | ⟨h, _⟩
          · exact .inl h
          · exact .inr h
      · cases hr
    · cases hr
  | _ => cases hr
theorem row_cases {cls acc : List (List Int)} {row : Vl} {c : List Int} (h : rowV cls acc row = some c) : c ∈ cls ∨ ∃ one ∈ acc, ∃ other ∈ acc, ∃ v, metV one other v = some c := by
  unfold rowV at h
  split at h
  · split at h
    · unfold toldV1 at h
      split at h
      · split at h
        · exact .inl (List.mem_of_getElem? h)
        · cases h
      · cases h
    · cases h
  · split at h
    · rename_i a b v _
      unfold metV1 at h
      split at h
      · rename_i hin
        rw [Bool.and_eq_true] at hin
        obtain ⟨x, rfl, x1, x2⟩ := inW_int hin.1
        obtain ⟨y, rfl, y1, y2⟩ := inW_int hin.2
        dsimp only at h
        have m : ∀ z : Int, 0 ≤ z → z ≤ (acc.length : Int) - 1 → (acc[z.toNat]?.getD []) ∈ acc := fun z z1 z2 => by
          have hz : z.toNat < acc.length := by omega
          simp [hz]
        exact .inr ⟨_, m x x1 x2, _, m y y1 y2, v, h⟩
      · cases h
    · cases h
  · cases h
theorem rows_P {cls : List (List Int)} {P : List Int → Prop} (h1 : ∀ c ∈ cls, P c) (h2 : ∀ one other c v, Gd 60 one → Gd 60 other → P one → P other → metV one other v = some c → P c) (g : AllG cls) :
    ∀ {rest : List Vl} {acc f : List (List Int)}, AllG acc → (∀ c ∈ acc, P c) → rowsV cls acc rest = .inr f → ∀ c ∈ f, P c
  | [], acc, f, ga, ha, h => by cases h; exact ha
  | r :: rest, acc, f, ga, ha, h => by
    simp only [rowsV] at h
    split at h
    · cases h
    · rename_i c hr
      refine rows_P h1 h2 g (ga.snoc (rowV_gd g hr)) (fun x hx => ?_) h
      rcases List.mem_append.mp hx with hx | hx
      · exact ha x hx
      · rw [List.mem_singleton.mp hx]
        rcases row_cases hr with hc | ⟨one, o1, other, o2, v, hv⟩
        · exact h1 _ hc
        · exact h2 one other _ v (ga _ o1) (ga _ o2) (ha _ o1) (ha _ o2) hv
theorem thing_P {cls : List (List Int)} {T : Vl} {f : List (List Int)} {P : List Int → Prop} (h1 : ∀ c ∈ cls, P c) (h2 : ∀ one other c v, Gd 60 one → Gd 60 other → P one → P other → metV one other v = some c → P c) (g : AllG cls) (e : thingV cls T = .inr f) : ∀ c ∈ f, P c := by
  unfold thingV at e
  split at e
  · split at e
    · cases e
    · rename_i em
      cases e
      exact rows_P h1 h2 g (fun c hc => by cases hc) (fun c hc => by cases hc) em
  · cases e
theorem last_mem {f : List (List Int)} (h : f ≠ []) : f.getLast?.getD [] ∈ f := by
  rw [List.getLast?_eq_getLast h, Option.getD_some]
  exact List.getLast_mem h
/-- what rows end with follows -/
theorem lets_sound {cls : List (List Int)} {T : Vl} {ms : List Int} {fl : List Bool} (g : AllG cls) (hl : letsV cls T ms = true) (hc : ∀ c ∈ cls, c.any (say fl) = true) : ms.any (say fl) = true := by
  unfold letsV at hl
  split at hl
  · cases hl
  · rename_i f e
    have h := thing_P (P := fun c => c.any (say fl) = true) hc (fun one other c v g1 g2 p1 p2 hv => by
      cases v with
      | int t => exact meet_sound (g1.sgs (by decide)) (g2.sgs (by decide)) hv p1 p2
      | _ => cases hv) g e _ (last_mem (thing_ne e))
    obtain ⟨s, hs, h2⟩ := List.any_eq_true.mp h
    have := List.all_eq_true.mp hl s hs
    exact List.any_eq_true.mpr ⟨s, by simpa using this, h2⟩
/-- signs of seven things -/
def S7 (c : List Int) : Prop := ∀ s ∈ c, 1 ≤ s.natAbs ∧ s.natAbs ≤ 7
theorem Gd.s7 {c : List Int} (g : Gd 7 c) : S7 c := fun s hs => by have := g.sg s hs; omega
theorem last_s7 {cls : List (List Int)} {T : Vl} {f : List (List Int)} (g : All7 cls) (e : thingV cls T = .inr f) : S7 (f.getLast?.getD []) :=
  thing_P (P := S7) (fun c hc => Gd.s7 (g c hc)) (fun one other c v g1 g2 p1 p2 hv s hs => by
    rcases met_in (g1.sgs (by decide)) (g2.sgs (by decide)) hv s hs with h | h
    · exact p1 s h
    · exact p2 s h) g.all e _ (last_mem (thing_ne e))
def lastV (cls : List (List Int)) (T : Vl) : Vl := match thingV cls T with
  | .inl _ => .non
  | .inr f => tupI (f.getLast?.getD [])
section
variable {k : Nat} {h : Heap} {a j : Nat} {Q : Rv → Heap → Prop} {Z : Ex → Heap → Prop} {cls : List (List Int)} {T A : Vl} {ms : List Int}
theorem lets3 {E : Vl} (g : AllG cls) (hT : Lk T) (hE : SeqI E ms) (q : ∀ m, Q (.v (.bl (letsV cls T ms))) (h ++ m)) : WpF (rn (k + 6) 11 [.lst (cls.map tupI), T, E] h) Q Z :=
  lets_any (rc := 10) (rw_ := 9) (td := 7) (im := 8) (mt := 6) (w := 1) (u := 0) (c := 2) (wi := 5) (.inl rfl) rfl rfl rfl rfl rfl rfl rfl rfl rfl rfl (.inl rfl) g hT hE q
def LaS (C T : Vl) (cls : List (List Int)) (h : Heap) (s : St) : Prop := ∃ m, s = ⟨[some (.v C), some (.v T), some (.v (lastV cls T))], h ++ m⟩
theorem last_ok (g : AllG cls) (hT : Lk T) (q : ∀ m, Q (.v (lastV cls T)) (h ++ m)) : WpF (rn (k + 6) 26 [.lst (cls.map tupI), T] h) Q Z := by
  refine wpF_run (fn := f26) rfl (by simp [f26]) ?_
  show Wp (execs (cg (k + 5)) b26 ⟨[some (.v (.lst (cls.map tupI))), some (.v T), none], h⟩) _ _
  generalize hC : Vl.lst (cls.map tupI) = C
  have lC : ListAt h C (cls.map tupI) := .inl hC.symm
  simp only [b26]
  refine wp_cons _ (fun s' => s' = ⟨[some (.v C), some (.v T), some (.v .non)], h⟩) ?_ ?_
  · simp
  rintro _ rfl
  refine wp_cons _ (LaS C T cls h) (wp_tryo _ ?_) ?_
  · simp
    refine rowClauses_ok (i := 10) (rc := 9) (td := 7) (im := 8) (mt := 6) (w := 1) (u := 0) (c := 2) rfl rfl rfl rfl rfl rfl rfl rfl lC g hT (fun n m e => ?_) fun f e gf lf => ?_
    · have el : lastV cls T = .non := by unfold lastV; rw [e]
      simp
      exact ⟨m, by rw [el]⟩
    · obtain ⟨f', ef⟩ := snoc_of (thing_ne e)
      have el : lastV cls T = tupI (f.getLast?.getD []) := by unfold lastV; rw [e]
      have ei : idx (h ++ [Cell.lst (f.map tupI)]) (.ref h.length) (.int (-1)) = some (tupI (f.getLast?.getD [])) := by
        refine idx_lastR (L := f'.map tupI) ?_
        rw [show f'.map tupI ++ [tupI (f.getLast?.getD [])] = (f' ++ [f.getLast?.getD []]).map tupI by simp, ← ef]
        simp
      simp [ei]
      exact ⟨_, by rw [el]⟩
  rintro _ ⟨m, rfl⟩
  simp [retE]
  exact q m
abbrev Fv : Vl := .lst ((allFl 7).map flV)
theorem fl_len : ∀ v ∈ (allFl 7).map flV, ∃ fl : List Bool, v = flV fl ∧ fl.length = 7 := fun v hv => by
  obtain ⟨fl, hf, rfl⟩ := List.mem_map.mp hv
  refine ⟨fl, rfl, ?_⟩
  unfold allFl at hf
  obtain ⟨n, _, rfl⟩ := List.mem_map.mp hf
  simp [nthFl]
def FoI (C E : Vl) (h : Heap) (rest : List Vl) (s : St) : Prop := (∀ v ∈ rest, ∃ fl : List Bool, v = flV fl ∧ fl.length = 7) ∧ ∃ y3, s = ⟨[some (.v C), some (.v E), some (.v Fv), y3], h⟩
theorem follows_ok (g : All7 cls) (hl : cls.length ≤ 100) (h7 : S7 ms) (lm : ms.length ≤ 1000) (hs : ∀ fl : List Bool, (∀ c ∈ cls, c.any (say fl) = true) → ms.any (say fl) = true) (q : Q (.v (.bl true)) h) : WpF (rn (k + 6) 25 [.lst (cls.map tupI), tupI ms, Fv] h) Q Z := by
  refine wpF_run (fn := f25) rfl (by simp [f25]) ?_
  show Wp (execs (cg (k + 5)) b25 ⟨[some (.v (.lst (cls.map tupI))), some (.v (tupI ms)), some (.v Fv), none], h⟩) _ _
  simp only [b25]
  refine wp_cons _ (FoI (.lst (cls.map tupI)) (tupI ms) h []) ?_ ?_
  · refine wp_loop _ (FoI (.lst (cls.map tupI)) (tupI ms) h) ?_ ?_ fun s hs => hs
    · simp
      exact ⟨fl_len, none, rfl⟩
    · rintro v rest s ⟨hv, y3, rfl⟩
      obtain ⟨fl, rfl, lf⟩ := hv v List.mem_cons_self
      simp only [wp_bindT, List.set_cons_succ, List.set_cons_zero, List.length_cons, List.length_nil]
      refine ⟨by omega, ?_⟩
      simp only [b25_0]
      refine wp_cons _ (FoI (.lst (cls.map tupI)) (tupI ms) h rest) (wp_iff _ ?_) fun s hs => wp_nil _ hs
      simp
      refine hold_ok (j := 16) rfl rfl (fun c hc => ⟨fun s hs => by have := (g c hc).sg s hs; omega, by have := (g c hc).ln; omega⟩) (by omega) ?_
      have fin : FoI (.lst (cls.map tupI)) (tupI ms) h rest ⟨[some (.v (.lst (cls.map tupI))), some (.v (tupI ms)), some (.v Fv), some (.v (flV fl))], h⟩ := ⟨fun u hu => hv u (List.mem_cons_of_mem _ hu), _, rfl⟩
      cases hz : (cls.all fun ns => ns.any (say fl)) with
      | false => simp; exact fin
      | true =>
        simp
        refine holds_ok (j := 3) rfl rfl (fun s hs => by have := h7 s hs; omega) lm ?_
        have e := hs fl fun c hc => by simpa using List.all_eq_true.mp hz c hc
        rw [e]
        simp
        exact fin
  rintro _ ⟨_, y3, rfl⟩
  simp [retE]
  exact q
section
variable {Q : Fl → St → Prop} {Z : Ex → St → Prop} {y1 y2 y3 y4 y5 y6 y7 y8 y9 y10 y11 y12 : Option Rv}
/-! the states -/
def Q0 (A : Vl) (s : St) : Prop := ∃ (r : Rv) (y2 y3 y4 y5 y6 y7 y8 y9 y10 y11 y12 : Option Rv) (h : Heap), r.fz = Fv ∧ plainS y9 = true ∧ plainS y12 = true ∧ s = ⟨[some (.v A), some r, y2, y3, y4, y5, y6, y7, y8, y9, y10, y11, y12], h⟩
def Q3 (A : Vl) (j : Nat) (s : St) : Prop := ∃ (r : Rv) (y4 y5 y6 y7 y8 y9 y10 y11 y12 : Option Rv) (h : Heap) (a : Nat), r.fz = Fv ∧ plainS y9 = true ∧ plainS y12 = true ∧ Pool h a ∧ s = ⟨[some (.v A), some r, some (.v (.int (j : Int))), some (.v (.ref a)), y4, y5, y6, y7, y8, y9, y10, y11, y12], h⟩
def Q4 (A : Vl) (j : Nat) (s : St) : Prop := ∃ (r : Rv) (y5 y6 y7 y8 y9 y10 y11 y12 : Option Rv) (h : Heap) (a : Nat) (cls : List (List Int)), r.fz = Fv ∧ plainS y9 = true ∧ plainS y12 = true ∧ All7 cls ∧ 1 ≤ cls.length ∧ cls.length ≤ 8 ∧ Pool h a ∧ s = ⟨[some (.v A), some r, some (.v (.int (j : Int))), some (.v (.ref a)), some (.ol (cls.map tupI)), y5, y6, y7, y8, y9, y10, y11, y12], h⟩
def Q5 (A : Vl) (j a : Nat) (cls : List (List Int)) (s : St) : Prop := ∃ (r : Rv) (y6 y7 y8 y9 y10 y11 y12 : Option Rv) (h : Heap) (rows : List Vl), r.fz = Fv ∧ plainS y9 = true ∧ plainS y12 = true ∧ (∀ r ∈ rows, DrR r) ∧ 1 ≤ rows.length ∧ rows.length ≤ 12 ∧ Pool h a ∧ s = ⟨[some (.v A), some r, some (.v (.int (j : Int))), some (.v (.ref a)), some (.v (.lst (cls.map tupI))), some (.ol rows), y6, y7, y8, y9, y10, y11, y12], h⟩
def LstC (v : Vl) : Prop := ∃ cls : List (List Int), v = .lst (cls.map tupI) ∧ All7 cls ∧ cls.length ≤ 9
def Q6 (A : Vl) (j a : Nat) (y4 : Option Rv) (rows : List Vl) (s : St) : Prop := ∃ (r r5 r6 : Rv) (y7 y8 y9 y10 y11 y12 : Option Rv) (h : Heap) (ls : List Vl), r.fz = Fv ∧ r5.fz = .lst rows ∧ r6.fz = .lst ls ∧ (∀ v ∈ ls, LstC v) ∧ plainS y9 = true ∧ plainS y12 = true ∧ Pool h a ∧ s = ⟨[some (.v A), some r, some (.v (.int (j : Int))), some (.v (.ref a)), y4, some r5, some r6, y7, y8, y9, y10, y11, y12], h⟩
def L7 (A : Vl) (j a : Nat) (y4 : Option Rv) (rows : List Vl) (rest : List Vl) (s : St) : Prop := (∀ v ∈ rest, Tg v) ∧ Q6 A j a y4 rows s
def Q8 (A : Vl) (j a : Nat) (y4 : Option Rv) (rows : List Vl) (ls : List Vl) (T : Vl) (s : St) : Prop := ∃ (r r5 r6 : Rv) (y8 y9 y10 y11 y12 : Option Rv) (h : Heap), r.fz = Fv ∧ r5.fz = .lst rows ∧ r6.fz = .lst ls ∧ plainS y9 = true ∧ plainS y12 = true ∧ Pool h a ∧ s = ⟨[some (.v A), some r, some (.v (.int (j : Int))), some (.v (.ref a)), y4, some r5, some r6, some (.v T), y8, y9, y10, y11, y12], h⟩
def L8 (A : Vl) (j a : Nat) (y4 : Option Rv) (rows : List Vl) (ls : List Vl) (T : Vl) (rest : List Vl) (s : St) : Prop := (∀ v ∈ rest, LstC v) ∧ Q8 A j a y4 rows ls T s
def Q9 (A : Vl) (j a : Nat) (y4 : Option Rv) (rows : List Vl) (ls : List Vl) (T : Vl) (cls : List (List Int)) (x10 : Vl) (s : St) : Prop := ∃ (r r5 r6 : Rv) (y9 y11 y12 : Option Rv) (h : Heap), r.fz = Fv ∧ r5.fz = .lst rows ∧ r6.fz = .lst ls ∧ plainS y9 = true ∧ plainS y12 = true ∧ Pool h a ∧ s = ⟨[some (.v A), some r, some (.v (.int (j : Int))), some (.v (.ref a)), y4, some r5, some r6, some (.v T), some (.v (.lst (cls.map tupI))), y9, some (.v x10), y11, y12], h⟩
/-- an ending -/
def EnG (v : Vl) : Prop := v = .non ∨ ∃ ms : List Int, v = tupI ms ∧ S7 ms ∧ ms.length ≤ 100
def L11 (A : Vl) (j a : Nat) (y4 : Option Rv) (rows : List Vl) (ls : List Vl) (T : Vl) (cls : List (List Int)) (x10 : Vl) (rest : List Vl) (s : St) : Prop := (∀ v ∈ rest, EnG v) ∧ Q9 A j a y4 rows ls T cls x10 s
theorem en_last (g : All7 cls) : EnG (lastV cls T) := by
  unfold lastV
  cases e : thingV cls T with
  | inl n => exact .inl rfl
  | inr f => exact .inr ⟨_, rfl, last_s7 g e, by have := (thing_gd g.all e).last.ln; omega⟩
theorem isNon_tup (ms : List Int) : isNon (tupI ms) = false := rfl
theorem end_ok {rows ls : List Vl} {E x10 : Vl} {r r5 r6 : Rv} (g : All7 cls) (lc : cls.length ≤ 9) (lk : Lk T) (hE : EnG E) (e1 : r.fz = Fv) (e5 : r5.fz = .lst rows) (e6 : r6.fz = .lst ls) (p9 : plainS y9 = true) (p12 : plainS y12 = true) (hp : Pool h a) (q : ∀ s, Q9 A j a y4 rows ls T cls x10 s → Q .nx s) :
    Wp (execs (cg (k + 6)) b27_0 ⟨[some (.v A), some r, some (.v (.int (j : Int))), some (.v (.ref a)), y4, some r5, some r6, some (.v T), some (.v (.lst (cls.map tupI))), y9, some (.v x10), some (.v E), y12], h⟩) Q Z := by
  simp only [b27_0]
  refine wp_cons _ (Q9 A j a y4 rows ls T cls x10) (wp_iff _ ?_) fun s hs => wp_nil _ (q s hs)
  rcases hE with rfl | ⟨ms, rfl, h7, lm⟩
  · simp [isNon]
    exact ⟨r, r5, r6, y9, _, y12, h, e1, e5, e6, p9, p12, hp, rfl⟩
  · simp [isNon_tup]
    refine lets3 g.all lk (.inr rfl) fun m => ?_
    cases hl : letsV cls T ms with
    | false =>
      simp
      exact ⟨r, r5, r6, y9, _, y12, _, e1, e5, e6, p9, p12, pool_more hp, rfl⟩
    | true =>
      simp [e1]
      refine follows_ok g (by omega) h7 (by omega) (fun fl hc => lets_sound g.all hl hc) ?_
      simp
      exact ⟨_, r5, r6, y9, _, y12, _, rfl, e5, e6, p9, p12, pool_more hp, rfl⟩
theorem list_ok {rows ls : List Vl} {r r5 r6 : Rv} (g : All7 cls) (lc : cls.length ≤ 9) (lk : Lk T) (e1 : r.fz = Fv) (e5 : r5.fz = .lst rows) (e6 : r6.fz = .lst ls) (p9 : plainS y9 = true) (p12 : plainS y12 = true) (hp : Pool h a) (q : ∀ s, Q8 A j a y4 rows ls T s → Q .nx s) :
    Wp (execs (cg (k + 6)) b27_1 ⟨[some (.v A), some r, some (.v (.int (j : Int))), some (.v (.ref a)), y4, some r5, some r6, some (.v T), some (.v (.lst (cls.map tupI))), y9, y10, y11, y12], h⟩) Q Z := by
  simp only [b27_1]
  refine wp_cons _ (Q9 A j a y4 rows ls T cls (lastV cls T)) ?_ ?_
  · simp
    refine last_ok g.all lk fun m => ?_
    exact ⟨r, r5, r6, y9, y11, y12, _, e1, e5, e6, p9, p12, pool_more hp, rfl⟩
  clear e1 e5 e6 p9 p12 hp
  rintro _ ⟨r, r5, r6, y9, y11, y12, h, e1, e5, e6, p9, p12, hp, rfl⟩
  refine wp_cons _ (Q9 A j a y4 rows ls T cls (lastV cls T)) (wp_iff _ ?_) ?_
  · cases e : thingV cls T with
    | inl n =>
      have el : lastV cls T = .non := by unfold lastV; rw [e]
      rw [el]
      simp [isNon]
      exact ⟨r, r5, r6, y9, y11, y12, h, e1, e5, e6, p9, p12, hp, rfl⟩
    | inr f =>
      have el : lastV cls T = tupI (f.getLast?.getD []) := by unfold lastV; rw [e]
      rw [el]
      simp [isNon_tup]
      refine lets3 g.all lk (.inr rfl) fun m => ?_
      have hl : letsV cls T (f.getLast?.getD []) = true := by unfold letsV; rw [e]; simp
      rw [hl]
      simp
      exact ⟨r, r5, r6, y9, y11, y12, _, e1, e5, e6, p9, p12, pool_more hp, rfl⟩
  clear e1 e5 e6 p9 p12 hp
  intro s hs
  refine wp_cons _ (Q9 A j a y4 rows ls T cls (lastV cls T)) ?_ fun s ⟨r, r5, r6, y9, y11, y12, h, e1, e5, e6, p9, p12, hp, e⟩ => wp_nil _ (q s ⟨r, r5, r6, _, y9, _, y11, y12, h, e1, e5, e6, p9, p12, hp, e⟩)
  refine wp_loop _ (L11 A j a y4 rows ls T cls (lastV cls T)) ?_ ?_ fun s hs => hs.2
  · obtain ⟨r, r5, r6, y9, y11, y12, h, e1, e5, e6, p9, p12, hp, rfl⟩ := hs
    simp
    refine clause_ok (j := 13) rfl rfl hp (by decide) (by decide) fun ns h1 c p1 _ => ?_
    simp
    refine ⟨fun v hv => ?_, r, r5, r6, y9, y11, y12, h1, e1, e5, e6, p9, p12, p1, rfl⟩
    simp only [List.mem_cons, List.not_mem_nil, or_false] at hv
    rcases hv with rfl | rfl | rfl
    · exact en_last g
    · exact .inr ⟨[], rfl, fun s hs => by simp at hs, by simp⟩
    · exact .inr ⟨ns, rfl, Gd.s7 (c.gd (by decide)), by have := (c.gd (m := 7) (by decide)).ln; omega⟩
  · rintro v rest s ⟨he, r, r5, r6, y9, y11, y12, h, e1, e5, e6, p9, p12, hp, rfl⟩
    simp only [wp_bindT, List.set_cons_succ, List.set_cons_zero, List.length_cons, List.length_nil]
    exact ⟨by omega, end_ok g lc lk (he v List.mem_cons_self) e1 e5 e6 p9 p12 hp fun s hs => ⟨fun u hu => he u (List.mem_cons_of_mem _ hu), hs⟩⟩
theorem thing_ok {rows ls : List Vl} {r r5 r6 : Rv} (hls : ∀ v ∈ ls, LstC v) (lk : Lk T) (e1 : r.fz = Fv) (e5 : r5.fz = .lst rows) (e6 : r6.fz = .lst ls) (p9 : plainS y9 = true) (p12 : plainS y12 = true) (hp : Pool h a) (q : ∀ s, Q6 A j a y4 rows s → Q .nx s) :
    Wp (execs (cg (k + 6)) b27_2 ⟨[some (.v A), some r, some (.v (.int (j : Int))), some (.v (.ref a)), y4, some r5, some r6, some (.v T), y8, y9, y10, y11, y12], h⟩) Q Z := by
  simp only [b27_2]
  refine wp_cons _ (Q8 A j a y4 rows ls T) ?_ fun s ⟨r, r5, r6, y8, y9, y10, y11, y12, h, e1, e5, e6, p9, p12, hp, e⟩ => wp_nil _ (q s ⟨r, r5, r6, _, y8, y9, y10, y11, y12, h, ls, e1, e5, e6, hls, p9, p12, hp, e⟩)
  refine wp_loop _ (L8 A j a y4 rows ls T) ?_ ?_ fun s hs => hs.2
  · simp [e6]
    exact ⟨hls, r, r5, _, y8, y9, y10, y11, y12, h, e1, e5, rfl, p9, p12, hp, rfl⟩
  · rintro v rest s ⟨hv, r, r5, r6, y8, y9, y10, y11, y12, h, e1, e5, e6, p9, p12, hp, rfl⟩
    obtain ⟨cls, rfl, g, lc⟩ := hv v List.mem_cons_self
    simp only [wp_bindT, List.set_cons_succ, List.set_cons_zero, List.length_cons, List.length_nil]
    exact ⟨by omega, list_ok g lc lk e1 e5 e6 p9 p12 hp fun s hs => ⟨fun u hu => hv u (List.mem_cons_of_mem _ hu), hs⟩⟩
theorem cls_of {l : List Vl} (hl : ∀ v ∈ l, ∃ ns, v = tupI ns ∧ Gd 7 ns) : ∃ cls : List (List Int), l = cls.map tupI ∧ All7 cls := by
  induction l with
  | nil => exact ⟨[], rfl, fun c hc => by cases hc⟩
  | cons v l ih =>
    obtain ⟨cls, e, g⟩ := ih fun u hu => hl u (List.mem_cons_of_mem _ hu)
    obtain ⟨ns, e2, g2⟩ := hl v List.mem_cons_self
    refine ⟨ns :: cls, by rw [e, e2]; rfl, fun c hc => ?_⟩
    rcases List.mem_cons.mp hc with rfl | hc
    · exact g2
    · exact g c hc
theorem DrR.tg {rows : List Vl} (dr : ∀ r ∈ rows, DrR r) (hl : rows.length ≤ 12) : Tg (.lst rows) := tg_lst (fun r hr => (dr r hr).pt) (by omega)
theorem tail_g {c : List Int} (g : Gd 7 c) : Gd 7 c.tail := ⟨g.nd.sublist (List.tail_sublist c), fun s hs => g.sg s (List.mem_of_mem_tail hs), by have := g.ln; rw [List.length_tail]; omega⟩
/-- a turn of the law -/
theorem turn_ok {zs : List Int} {r : Rv} (hA : A = .lst (zs.map Vl.int)) (hj : j < 1000) (e1 : r.fz = Fv) (p9 : plainS y9 = true) (p12 : plainS y12 = true) (q : ∀ s, Q0 A s → Q .nx s) :
    Wp (execs (cg (k + 6)) b27_3 ⟨[some (.v A), some r, some (.v (.int (j : Int))), y3, y4, y5, y6, y7, y8, y9, y10, y11, y12], h⟩) Q Z := by
  simp only [b27_3]
  refine wp_cons _ (Q3 A j) ?_ ?_
  · subst hA
    simp
    refine pool_ok rfl hj fun x y hx hy hy2 => ?_
    simp
    exact ⟨r, _, _, _, _, _, _, _, _, _, _, _, e1, p9, p12, ⟨x, y, by simp, hx, hy, hy2⟩, rfl⟩
  clear e1 p9 p12
  rintro _ ⟨r, y4, y5, y6, y7, y8, y9, y10, y11, y12, h, a, e1, p9, p12, hp, rfl⟩
  refine wp_cons _ (Q4 A j) ?_ ?_
  · simp
    refine take_ok rfl hp (by decide) (by decide) fun t h1 r1 r2 p1 _ _ => ?_
    simp
    refine ⟨by simp [inLim, lim62]; omega, ?_⟩
    refine wp_lcI _ (fun v => ∃ ns, v = tupI ns ∧ Gd 7 ns) (fun h => Pool h a) (by simpa using p9) (by simp) p1 (fun v hv h hp => ?_) fun l h' hl hn hp' => ?_
    · simp
      refine clause_ok (j := 13) rfl rfl hp (by decide) (by decide) fun ns h1 c p1 _ => ?_
      simp
      exact ⟨⟨ns, rfl, c.gd (by decide)⟩, p1⟩
    · rw [rangeV_len] at hn
      obtain ⟨cls, rfl, gc⟩ := cls_of hl
      rw [List.length_map] at hn ⊢
      refine ⟨by omega, ?_⟩
      rw [wp_bindT]
      exact ⟨by simp, r, _, _, _, _, _, _, _, _, h', a, cls, e1, p9, p12, gc, by omega, by omega, hp', rfl⟩
  clear e1 p9 p12 hp
  rintro _ ⟨r, y5, y6, y7, y8, y9, y10, y11, y12, h, a, cls, e1, p9, p12, g, l1, l8, hp, rfl⟩
  refine wp_cons _ (Q5 A j a cls) ?_ ?_
  · simp
    refine drawn_ok (tk := 13) (lm := 20) rfl rfl rfl g.all (fun e => by rw [e] at l1; simp at l1) (by omega) hp fun rows h' dr r1 r2 p1 => ?_
    exact ⟨r, _, _, _, _, _, _, _, h', rows, e1, p9, p12, dr, r1, r2, p1, rfl⟩
  clear e1 p9 p12 hp
  rintro _ ⟨r, y6, y7, y8, y9, y10, y11, y12, h, rows, e1, p9, p12, dr, r1, r2, hp, rfl⟩
  have trows := DrR.tg dr r2
  refine wp_cons _ (Q6 A j a (some (.v (.lst (cls.map tupI)))) rows) ?_ ?_
  · simp
    refine clause_ok (j := 13) rfl rfl hp (by decide) (by decide) fun ns h1 c p1 _ => ?_
    simp
    refine ⟨_, add_lstS (by rw [List.length_map]; omega) (by simp), ?_⟩
    simp
    refine wp_lcM (g := fun v => match v with | .tup vs => .tup vs.tail | _ => .non) _ (by simpa using p12) (by simp) (fun v hv => ?_) ?_
    · obtain ⟨c, hc, rfl⟩ := List.mem_map.mp hv
      have ce : slc h1 (tupI c) (some 1) none = some (.v (.tup (c.map Vl.int).tail)) := by
        show some (Rv.v (.tup (cut (c.map Vl.int) (some 1) none))) = _
        rw [show cut (c.map Vl.int) (some 1) none = (c.map Vl.int).drop 1 from cut_from (c.map Vl.int) 1, List.drop_one]
      simp [ce, tupI]
      exact (cut_from (c.map Vl.int) 1).trans List.drop_one
    · have e : (cls.map tupI).map (fun v => match v with | .tup vs => .tup vs.tail | _ => .non) = (cls.map List.tail).map tupI := by
        rw [List.map_map, List.map_map]
        refine List.map_congr_left fun c _ => ?_
        simp [tupI, Function.comp]
      rw [e]
      refine ⟨by rw [List.length_map, List.length_map]; omega, ?_⟩
      rw [wp_bindT]
      refine ⟨by simp, r, _, _, _, _, _, _, _, _, h1, _, e1, rfl, rfl, fun v hv => ?_, p9, p12, p1, rfl⟩
      simp only [List.mem_cons, List.not_mem_nil, or_false] at hv
      rcases hv with rfl | rfl | rfl
      · exact ⟨cls, rfl, g, by omega⟩
      · refine ⟨cls ++ [ns], by simp [tupI], fun c' hc => ?_, by simp; omega⟩
        rcases List.mem_append.mp hc with hc | hc
        · exact g c' hc
        · rw [List.mem_singleton.mp hc]; exact c.gd (by decide)
      · refine ⟨cls.map List.tail, rfl, fun c' hc => ?_, by rw [List.length_map]; omega⟩
        obtain ⟨c0, h0, rfl⟩ := List.mem_map.mp hc
        exact tail_g (g c0 h0)
  clear e1 p9 p12 hp
  intro s hs
  refine wp_cons _ (Q6 A j a (some (.v (.lst (cls.map tupI)))) rows) ?_ fun s ⟨r, r5, r6, y7, y8, y9, y10, y11, y12, h, ls, e1, e5, e6, hls, p9, p12, hp, e⟩ => wp_nil _ (q s ⟨r, _, _, _, _, _, _, _, y9, y10, y11, y12, h, e1, p9, p12, e⟩)
  refine wp_loop _ (L7 A j a (some (.v (.lst (cls.map tupI)))) rows) ?_ ?_ fun s hs => hs.2
  · obtain ⟨r, r5, r6, y7, y8, y9, y10, y11, y12, h, ls, e1, e5, e6, hls, p9, p12, hp, rfl⟩ := hs
    simp [e5]
    refine take_ok rfl hp (by omega) (by omega) fun t h1 t1 t2 p1 _ _ => ?_
    simp
    refine bent_ok (tk := 13) rfl rfl dr r1 r2 p1 fun T2 h2 t2 p2 => ?_
    simp
    refine ⟨fun v hv => ?_, r, _, r6, _, _, y9, _, _, y12, h2, ls, e1, rfl, e6, hls, p9, p12, p2, rfl⟩
    simp only [List.mem_cons, List.not_mem_nil, or_false] at hv
    rcases hv with rfl | rfl | rfl
    · exact trows
    · exact tg_lst (fun w hw => (dr w (cut_mem hw)).pt) (by have := cut_le rows none (some (1 + t)); omega)
    · exact t2
  · rintro v rest s ⟨ht, r, r5, r6, y7, y8, y9, y10, y11, y12, h, ls, e1, e5, e6, hls, p9, p12, hp, rfl⟩
    simp only [wp_bindT, List.set_cons_succ, List.set_cons_zero, List.length_cons, List.length_nil]
    exact ⟨by omega, thing_ok hls (ht v List.mem_cons_self).lk e1 e5 e6 p9 p12 hp fun s hs => ⟨fun u hu => ht u (List.mem_cons_of_mem _ hu), hs⟩⟩
end
def LL (A : Vl) (rest : List Vl) (s : St) : Prop := (∀ v ∈ rest, ∃ j : Nat, v = .int (j : Int) ∧ j < 1000) ∧ Q0 A s
theorem law_ok {zs : List Int} (hl : zs.length ≤ 63) (q : ∀ h', Q (.v (.bl true)) h') : WpF (rn (k + 7) 27 [.lst (zs.map Vl.int)] h) Q Z := by
  refine wpF_run (fn := f27) rfl (by simp [f27]) ?_
  generalize hA : Vl.lst (zs.map Vl.int) = A
  show Wp (execs (cg (k + 6)) b27 ⟨[some (.v A), none, none, none, none, none, none, none, none, none, none, none, none], h⟩) _ _
  simp only [b27]
  refine wp_cons _ (Q0 A) ?_ ?_
  · simp
    refine fill_ok (size := 7) rfl (by decide) ?_
    exact ⟨_, none, none, none, none, none, none, none, none, none, none, none, h, rfl, rfl, rfl, rfl⟩
  intro s hs
  refine wp_cons _ (Q0 A) ?_ ?_
  · refine wp_loop _ (LL A) ?_ ?_ fun s hs => hs.2
    · obtain ⟨r, y2, y3, y4, y5, y6, y7, y8, y9, y10, y11, y12, h, e1, p9, p12, rfl⟩ := hs
      subst hA
      simp
      have key : ∀ n : Int, 0 ≤ n → n < 1000 → inLim n = true ∧ LL (.lst (zs.map Vl.int)) (rangeV 0 n.toNat) ⟨[some (.v (.lst (zs.map Vl.int))), some r, y2, y3, y4, y5, y6, y7, y8, y9, y10, y11, y12], h⟩ := fun n h1 h2 => by
        refine ⟨by simp [inLim, lim62]; omega, fun v hv => ?_, r, y2, y3, y4, y5, y6, y7, y8, y9, y10, y11, y12, h, e1, p9, p12, rfl⟩
        obtain ⟨i, rfl, i1, i2⟩ := rangeV_mem hv
        obtain ⟨j, rfl⟩ := Int.eq_ofNat_of_zero_le i1
        exact ⟨j, rfl, by omega⟩
      refine key _ ?_ ?_ <;> (repeat' split) <;> omega
    · rintro v rest s ⟨hr, r, y2, y3, y4, y5, y6, y7, y8, y9, y10, y11, y12, h, e1, p9, p12, rfl⟩
      obtain ⟨j, rfl, hj⟩ := hr v List.mem_cons_self
      simp only [wp_bindT, List.set_cons_succ, List.set_cons_zero, List.length_cons, List.length_nil]
      exact ⟨by omega, turn_ok hA.symm hj e1 p9 p12 fun s hs => ⟨fun u hu => hr u (List.mem_cons_of_mem _ hu), hs⟩⟩
  clear hs s
  rintro _ ⟨r, y2, y3, y4, y5, y6, y7, y8, y9, y10, y11, y12, h, e1, p9, p12, rfl⟩
  simp [retE]
  exact q h
end
def lvl : Nat := 20
def fuel : Nat := 100
theorem plain (ns : List Int) (h : ns.length ≤ 63) (hb : ∀ k ∈ ns, PySem.Builtin.Int.intBits k ≤ 1048576) : ∃ h', VM.run fs fuel (fun _ => none) lvl 27 [.lst (ns.map Vl.int)] [] = .ret (.v (.bl true)) h' := by
  obtain ⟨r, h', e, rfl⟩ := WpF.of (law_ok (k := 13) (h := []) (Q := fun r _ => r = .v (.bl true)) h fun _ => rfl)
  exact ⟨h', e⟩
end K06

set_option maxHeartbeats 0
namespace K06H
open PySem PySem.W PySem.Calls PyProof.Rows L2 VM
open K06
abbrev top (i : Nat) : Stmt := PySem.Challenge.pw_keptclauses_k06_whole_what_rows_end_with.main.body.getD i (.Pass ⟨0, 0, 0, 0⟩)
def tb : Tb := ⟨[("is_whole", 1, 1), ("is_within", 3, 3), ("clause_of", 1, 1), ("says", 2, 2), ("holds", 2, 2), ("within", 2, 2), ("met", 3, 3), ("is_told", 2, 2), ("is_met", 2, 2), ("row_clause", 3, 3), ("row_clauses", 2, 2), ("lets_rows", 2, 2), ("_law_pool", 2, 2), ("_law_take", 2, 2), ("_law_whole", 1, 1), ("_law_fillings", 1, 1), ("_law_says", 2, 2), ("_law_hold", 2, 2), ("_law_clause", 3, 3), ("_law_sign", 2, 2), ("_law_meet", 3, 3), ("_law_row_clauses", 2, 2), ("_law_lets_rows", 3, 3), ("_law_drawn_rows", 2, 2), ("_law_bent_rows", 2, 2), ("_law_follows", 3, 3), ("_law_last", 2, 2), ("law", 1, 1)], [("MOST_THINGS", .int 60)], ["len", "abs", "min", "max", "int", "str", "list", "tuple", "all", "any", "sorted", "isinstance", "range", "enumerate", "bool"], ["_law_pool_here", "found=[]"], [("NoMeeting", 1, ["thing"]), ("NoRows", 1, ["number"])], [("NoMeeting", ["NoMeeting"]), ("NoRows", ["NoRows"])], [], [("lets_rows", 2, ["end"], 11)]⟩
def N0 : List Str := ["thing"]
def N1 : List Str := ["thing", "least", "most"]
def N2 : List Str := ["signs", "found", "sign", "thing"]
def N3 : List Str := ["sign", "filling"]
def N4 : List Str := ["clause", "filling", "sign"]
def N5 : List Str := ["one", "other", "sign"]
def N6 : List Str := ["one", "other", "thing", "left", "found", "sign"]
def N7 : List Str := ["row", "many"]
def N8 : List Str := ["row", "many"]
def N9 : List Str := ["clauses", "row", "ahead", "found"]
def N10 : List Str := ["clauses", "rows", "found", "number", "row", "clause"]
def N11 : List Str := ["clauses", "rows", "end", "found"]
def N12 : List Str := ["_law_script", "_law_k", "_law_cell", "_law_seed"]
def N13 : List Str := ["_law_pool_here", "_law_many", "_law_digit"]
def N14 : List Str := ["_law_thing"]
def N15 : List Str := ["_law_size", "_law_number", "_law_k"]
def N16 : List Str := ["_law_sign_here", "_law_filling"]
def N17 : List Str := ["_law_clauses", "_law_filling", "_law_clause_here", "_law_sign_here"]
def N18 : List Str := ["_law_pool_here", "_law_things", "_law_most", "_law_found", "_law_thing"]
def N19 : List Str := ["_law_pool_here", "_law_things", "_law_thing"]
def N20 : List Str := ["_law_one", "_law_other", "_law_thing", "_law_left", "_law_sign_here", "_law_at"]
def N21 : List Str := ["_law_clauses", "_law_rows", "_law_found", "_law_number", "_law_row", "_law_clause_here", "_law_part"]
def N22 : List Str := ["_law_clauses", "_law_rows", "_law_last_here", "_law_found", "_law_sign_here"]
def N23 : List Str := ["_law_pool_here", "_law_clauses", "_law_rows", "_law_some", "_law_turn", "_law_row", "_law_clause_here", "_law_tries", "_law_one", "_law_other", "_law_pairs", "_law_sign_here"]
def N24 : List Str := ["_law_pool_here", "_law_rows", "_law_at", "_law_row", "_law_place", "_law_odd", "_law_bent", "_law_some"]
def N25 : List Str := ["_law_clauses", "_law_last_here", "_law_every", "_law_filling"]
def N26 : List Str := ["_law_clauses", "_law_rows", "_law_found"]
def N27 : List Str := ["_law_script", "_law_every", "_law_k", "_law_pool_here", "_law_clauses", "_law_rows", "_law_lists", "_law_thing", "_law_some", "_law_turn", "_law_last_here", "_law_ending", "_law_clause_here"]
def P0 : List Str := ["thing"]
theorem tr0 : trB tb N0 (defScope (top 6)) (defBody (top 6)) = some b0 := by kernel_rfl
theorem sc0 : FnScope N0 P0 (defScope (top 6)) := ⟨by kernel_rfl, by kernel_rfl, by kernel_rfl, by decide +kernel, by kernel_rfl, by decide +kernel, by decide +kernel⟩
def d0 : He.DefD := ⟨("is_whole", none), "is_whole", "is_whole", defArgs (top 6), defBody (top 6), defScope (top 6), [], []⟩
def P1 : List Str := ["thing", "least", "most"]
theorem tr1 : trB tb N1 (defScope (top 7)) (defBody (top 7)) = some b1 := by kernel_rfl
theorem sc1 : FnScope N1 P1 (defScope (top 7)) := ⟨by kernel_rfl, by kernel_rfl, by kernel_rfl, by decide +kernel, by kernel_rfl, by decide +kernel, by decide +kernel⟩
def d1 : He.DefD := ⟨("is_within", none), "is_within", "is_within", defArgs (top 7), defBody (top 7), defScope (top 7), [], []⟩
def P2 : List Str := ["signs"]
theorem tr2 : trB tb N2 (defScope (top 8)) (defBody (top 8)) = some b2 := by kernel_rfl
theorem sc2 : FnScope N2 P2 (defScope (top 8)) := ⟨by kernel_rfl, by kernel_rfl, by kernel_rfl, by decide +kernel, by kernel_rfl, by decide +kernel, by decide +kernel⟩
def d2 : He.DefD := ⟨("clause_of", none), "clause_of", "clause_of", defArgs (top 8), defBody (top 8), defScope (top 8), [], []⟩
def P3 : List Str := ["sign", "filling"]
theorem tr3 : trB tb N3 (defScope (top 9)) (defBody (top 9)) = some b3 := by kernel_rfl
theorem sc3 : FnScope N3 P3 (defScope (top 9)) := ⟨by kernel_rfl, by kernel_rfl, by kernel_rfl, by decide +kernel, by kernel_rfl, by decide +kernel, by decide +kernel⟩
def d3 : He.DefD := ⟨("says", none), "says", "says", defArgs (top 9), defBody (top 9), defScope (top 9), [], []⟩
def P4 : List Str := ["clause", "filling"]
theorem tr4 : trB tb N4 (defScope (top 10)) (defBody (top 10)) = some b4 := by kernel_rfl
theorem sc4 : FnScope N4 P4 (defScope (top 10)) := ⟨by kernel_rfl, by kernel_rfl, by kernel_rfl, by decide +kernel, by kernel_rfl, by decide +kernel, by decide +kernel⟩
def d4 : He.DefD := ⟨("holds", none), "holds", "holds", defArgs (top 10), defBody (top 10), defScope (top 10), [], []⟩
def P5 : List Str := ["one", "other"]
theorem tr5 : trB tb N5 (defScope (top 11)) (defBody (top 11)) = some b5 := by kernel_rfl
theorem sc5 : FnScope N5 P5 (defScope (top 11)) := ⟨by kernel_rfl, by kernel_rfl, by kernel_rfl, by decide +kernel, by kernel_rfl, by decide +kernel, by decide +kernel⟩
def d5 : He.DefD := ⟨("within", none), "within", "within", defArgs (top 11), defBody (top 11), defScope (top 11), [], []⟩
def P6 : List Str := ["one", "other", "thing"]
theorem tr6 : trB tb N6 (defScope (top 12)) (defBody (top 12)) = some b6 := by kernel_rfl
theorem sc6 : FnScope N6 P6 (defScope (top 12)) := ⟨by kernel_rfl, by kernel_rfl, by kernel_rfl, by decide +kernel, by kernel_rfl, by decide +kernel, by decide +kernel⟩
def d6 : He.DefD := ⟨("met", none), "met", "met", defArgs (top 12), defBody (top 12), defScope (top 12), [], []⟩
def P7 : List Str := ["row", "many"]
theorem tr7 : trB tb N7 (defScope (top 14)) (defBody (top 14)) = some b7 := by kernel_rfl
theorem sc7 : FnScope N7 P7 (defScope (top 14)) := ⟨by kernel_rfl, by kernel_rfl, by kernel_rfl, by decide +kernel, by kernel_rfl, by decide +kernel, by decide +kernel⟩
def d7 : He.DefD := ⟨("is_told", none), "is_told", "is_told", defArgs (top 14), defBody (top 14), defScope (top 14), [], []⟩
def P8 : List Str := ["row", "many"]
theorem tr8 : trB tb N8 (defScope (top 15)) (defBody (top 15)) = some b8 := by kernel_rfl
theorem sc8 : FnScope N8 P8 (defScope (top 15)) := ⟨by kernel_rfl, by kernel_rfl, by kernel_rfl, by decide +kernel, by kernel_rfl, by decide +kernel, by decide +kernel⟩
def d8 : He.DefD := ⟨("is_met", none), "is_met", "is_met", defArgs (top 15), defBody (top 15), defScope (top 15), [], []⟩
def P9 : List Str := ["clauses", "row", "ahead"]
theorem tr9 : trB tb N9 (defScope (top 16)) (defBody (top 16)) = some b9 := by kernel_rfl
theorem sc9 : FnScope N9 P9 (defScope (top 16)) := ⟨by kernel_rfl, by kernel_rfl, by kernel_rfl, by decide +kernel, by kernel_rfl, by decide +kernel, by decide +kernel⟩
def d9 : He.DefD := ⟨("row_clause", none), "row_clause", "row_clause", defArgs (top 16), defBody (top 16), defScope (top 16), [], []⟩
def P10 : List Str := ["clauses", "rows"]
theorem tr10 : trB tb N10 (defScope (top 17)) (defBody (top 17)) = some b10 := by kernel_rfl
theorem sc10 : FnScope N10 P10 (defScope (top 17)) := ⟨by kernel_rfl, by kernel_rfl, by kernel_rfl, by decide +kernel, by kernel_rfl, by decide +kernel, by decide +kernel⟩
def d10 : He.DefD := ⟨("row_clauses", none), "row_clauses", "row_clauses", defArgs (top 17), defBody (top 17), defScope (top 17), [], []⟩
def P11 : List Str := ["clauses", "rows", "end"]
theorem tr11 : trB tb N11 (defScope (top 18)) (defBody (top 18)) = some b11 := by kernel_rfl
theorem sc11 : FnScope N11 P11 (defScope (top 18)) := ⟨by kernel_rfl, by kernel_rfl, by kernel_rfl, by decide +kernel, by kernel_rfl, by decide +kernel, by decide +kernel⟩
def d11 : He.DefD := ⟨("lets_rows", none), "lets_rows", "lets_rows", defArgs (top 18), defBody (top 18), defScope (top 18), [], [("end", .adr (kwAt ("lets_rows", none) "end"))]⟩
def P12 : List Str := ["_law_script", "_law_k"]
theorem tr12 : trB tb N12 (defScope (top 20)) (defBody (top 20)) = some b12 := by kernel_rfl
theorem sc12 : FnScope N12 P12 (defScope (top 20)) := ⟨by kernel_rfl, by kernel_rfl, by kernel_rfl, by decide +kernel, by kernel_rfl, by decide +kernel, by decide +kernel⟩
def d12 : He.DefD := ⟨("_law_pool", none), "_law_pool", "_law_pool", defArgs (top 20), defBody (top 20), defScope (top 20), [], []⟩
def P13 : List Str := ["_law_pool_here", "_law_many"]
theorem tr13 : trB tb N13 (defScope (top 21)) (defBody (top 21)) = some b13 := by kernel_rfl
theorem sc13 : FnScope N13 P13 (defScope (top 21)) := ⟨by kernel_rfl, by kernel_rfl, by kernel_rfl, by decide +kernel, by kernel_rfl, by decide +kernel, by decide +kernel⟩
def d13 : He.DefD := ⟨("_law_take", none), "_law_take", "_law_take", defArgs (top 21), defBody (top 21), defScope (top 21), [], []⟩
def P14 : List Str := ["_law_thing"]
theorem tr14 : trB tb N14 (defScope (top 22)) (defBody (top 22)) = some b14 := by kernel_rfl
theorem sc14 : FnScope N14 P14 (defScope (top 22)) := ⟨by kernel_rfl, by kernel_rfl, by kernel_rfl, by decide +kernel, by kernel_rfl, by decide +kernel, by decide +kernel⟩
def d14 : He.DefD := ⟨("_law_whole", none), "_law_whole", "_law_whole", defArgs (top 22), defBody (top 22), defScope (top 22), [], []⟩
def P15 : List Str := ["_law_size"]
theorem tr15 : trB tb N15 (defScope (top 23)) (defBody (top 23)) = some b15 := by kernel_rfl
theorem sc15 : FnScope N15 P15 (defScope (top 23)) := ⟨by kernel_rfl, by kernel_rfl, by kernel_rfl, by decide +kernel, by kernel_rfl, by decide +kernel, by decide +kernel⟩
def d15 : He.DefD := ⟨("_law_fillings", none), "_law_fillings", "_law_fillings", defArgs (top 23), defBody (top 23), defScope (top 23), [], []⟩
def P16 : List Str := ["_law_sign_here", "_law_filling"]
theorem tr16 : trB tb N16 (defScope (top 24)) (defBody (top 24)) = some b16 := by kernel_rfl
theorem sc16 : FnScope N16 P16 (defScope (top 24)) := ⟨by kernel_rfl, by kernel_rfl, by kernel_rfl, by decide +kernel, by kernel_rfl, by decide +kernel, by decide +kernel⟩
def d16 : He.DefD := ⟨("_law_says", none), "_law_says", "_law_says", defArgs (top 24), defBody (top 24), defScope (top 24), [], []⟩
def P17 : List Str := ["_law_clauses", "_law_filling"]
theorem tr17 : trB tb N17 (defScope (top 25)) (defBody (top 25)) = some b17 := by kernel_rfl
theorem sc17 : FnScope N17 P17 (defScope (top 25)) := ⟨by kernel_rfl, by kernel_rfl, by kernel_rfl, by decide +kernel, by kernel_rfl, by decide +kernel, by decide +kernel⟩
def d17 : He.DefD := ⟨("_law_hold", none), "_law_hold", "_law_hold", defArgs (top 25), defBody (top 25), defScope (top 25), [], []⟩
def P18 : List Str := ["_law_pool_here", "_law_things", "_law_most"]
theorem tr18 : trB tb N18 (defScope (top 26)) (defBody (top 26)) = some b18 := by kernel_rfl
theorem sc18 : FnScope N18 P18 (defScope (top 26)) := ⟨by kernel_rfl, by kernel_rfl, by kernel_rfl, by decide +kernel, by kernel_rfl, by decide +kernel, by decide +kernel⟩
def d18 : He.DefD := ⟨("_law_clause", none), "_law_clause", "_law_clause", defArgs (top 26), defBody (top 26), defScope (top 26), [], []⟩
def P19 : List Str := ["_law_pool_here", "_law_things"]
theorem tr19 : trB tb N19 (defScope (top 27)) (defBody (top 27)) = some b19 := by kernel_rfl
theorem sc19 : FnScope N19 P19 (defScope (top 27)) := ⟨by kernel_rfl, by kernel_rfl, by kernel_rfl, by decide +kernel, by kernel_rfl, by decide +kernel, by decide +kernel⟩
def d19 : He.DefD := ⟨("_law_sign", none), "_law_sign", "_law_sign", defArgs (top 27), defBody (top 27), defScope (top 27), [], []⟩
def P20 : List Str := ["_law_one", "_law_other", "_law_thing"]
theorem tr20 : trB tb N20 (defScope (top 28)) (defBody (top 28)) = some b20 := by kernel_rfl
theorem sc20 : FnScope N20 P20 (defScope (top 28)) := ⟨by kernel_rfl, by kernel_rfl, by kernel_rfl, by decide +kernel, by kernel_rfl, by decide +kernel, by decide +kernel⟩
def d20 : He.DefD := ⟨("_law_meet", none), "_law_meet", "_law_meet", defArgs (top 28), defBody (top 28), defScope (top 28), [], []⟩
def P21 : List Str := ["_law_clauses", "_law_rows"]
theorem tr21 : trB tb N21 (defScope (top 29)) (defBody (top 29)) = some b21 := by kernel_rfl
theorem sc21 : FnScope N21 P21 (defScope (top 29)) := ⟨by kernel_rfl, by kernel_rfl, by kernel_rfl, by decide +kernel, by kernel_rfl, by decide +kernel, by decide +kernel⟩
def d21 : He.DefD := ⟨("_law_row_clauses", none), "_law_row_clauses", "_law_row_clauses", defArgs (top 29), defBody (top 29), defScope (top 29), [], []⟩
def P22 : List Str := ["_law_clauses", "_law_rows", "_law_last_here"]
theorem tr22 : trB tb N22 (defScope (top 30)) (defBody (top 30)) = some b22 := by kernel_rfl
theorem sc22 : FnScope N22 P22 (defScope (top 30)) := ⟨by kernel_rfl, by kernel_rfl, by kernel_rfl, by decide +kernel, by kernel_rfl, by decide +kernel, by decide +kernel⟩
def d22 : He.DefD := ⟨("_law_lets_rows", none), "_law_lets_rows", "_law_lets_rows", defArgs (top 30), defBody (top 30), defScope (top 30), [], []⟩
def P23 : List Str := ["_law_pool_here", "_law_clauses"]
theorem tr23 : trB tb N23 (defScope (top 31)) (defBody (top 31)) = some b23 := by kernel_rfl
theorem sc23 : FnScope N23 P23 (defScope (top 31)) := ⟨by kernel_rfl, by kernel_rfl, by kernel_rfl, by decide +kernel, by kernel_rfl, by decide +kernel, by decide +kernel⟩
def d23 : He.DefD := ⟨("_law_drawn_rows", none), "_law_drawn_rows", "_law_drawn_rows", defArgs (top 31), defBody (top 31), defScope (top 31), [], []⟩
def P24 : List Str := ["_law_pool_here", "_law_rows"]
theorem tr24 : trB tb N24 (defScope (top 32)) (defBody (top 32)) = some b24 := by kernel_rfl
theorem sc24 : FnScope N24 P24 (defScope (top 32)) := ⟨by kernel_rfl, by kernel_rfl, by kernel_rfl, by decide +kernel, by kernel_rfl, by decide +kernel, by decide +kernel⟩
def d24 : He.DefD := ⟨("_law_bent_rows", none), "_law_bent_rows", "_law_bent_rows", defArgs (top 32), defBody (top 32), defScope (top 32), [], []⟩
def P25 : List Str := ["_law_clauses", "_law_last_here", "_law_every"]
theorem tr25 : trB tb N25 (defScope (top 33)) (defBody (top 33)) = some b25 := by kernel_rfl
theorem sc25 : FnScope N25 P25 (defScope (top 33)) := ⟨by kernel_rfl, by kernel_rfl, by kernel_rfl, by decide +kernel, by kernel_rfl, by decide +kernel, by decide +kernel⟩
def d25 : He.DefD := ⟨("_law_follows", none), "_law_follows", "_law_follows", defArgs (top 33), defBody (top 33), defScope (top 33), [], []⟩
def P26 : List Str := ["_law_clauses", "_law_rows"]
theorem tr26 : trB tb N26 (defScope (top 34)) (defBody (top 34)) = some b26 := by kernel_rfl
theorem sc26 : FnScope N26 P26 (defScope (top 34)) := ⟨by kernel_rfl, by kernel_rfl, by kernel_rfl, by decide +kernel, by kernel_rfl, by decide +kernel, by decide +kernel⟩
def d26 : He.DefD := ⟨("_law_last", none), "_law_last", "_law_last", defArgs (top 34), defBody (top 34), defScope (top 34), [], []⟩
def P27 : List Str := ["_law_script"]
theorem tr27 : trB tb N27 (defScope (top 35)) (defBody (top 35)) = some b27 := by kernel_rfl
theorem sc27 : FnScope N27 P27 (defScope (top 35)) := ⟨by kernel_rfl, by kernel_rfl, by kernel_rfl, by decide +kernel, by kernel_rfl, by decide +kernel, by decide +kernel⟩
def d27 : He.DefD := ⟨("law", none), "law", "law", defArgs (top 35), defBody (top 35), defScope (top 35), [], []⟩
def meth (i j : Nat) : Stmt := match top i with
  | .ClassDef _ _ _ b _ _ _ _ _ _ _ => b.getD j (.Pass ⟨0, 0, 0, 0⟩)
  | _ => .Pass ⟨0, 0, 0, 0⟩
def PI0 : List Str := ["self", "thing"]
theorem scI0 : FnScope PI0 PI0 (defScope (meth 2 0)) := ⟨by kernel_rfl, by kernel_rfl, by kernel_rfl, by decide +kernel, by kernel_rfl, by decide +kernel, by decide +kernel⟩
def dI0 : He.DefD := ⟨("NoMeeting", some "__init__"), "__init__", "NoMeeting.__init__", defArgs (meth 2 0), defBody (meth 2 0), defScope (meth 2 0), [], []⟩
def PI1 : List Str := ["self", "number"]
theorem scI1 : FnScope PI1 PI1 (defScope (meth 3 0)) := ⟨by kernel_rfl, by kernel_rfl, by kernel_rfl, by decide +kernel, by kernel_rfl, by decide +kernel, by decide +kernel⟩
def dI1 : He.DefD := ⟨("NoRows", some "__init__"), "__init__", "NoRows.__init__", defArgs (meth 3 0), defBody (meth 3 0), defScope (meth 3 0), [], []⟩
def dd : List He.DefD := [d0, d1, d2, d3, d4, d5, d6, d7, d8, d9, d10, d11, d12, d13, d14, d15, d16, d17, d18, d19, d20, d21, d22, d23, d24, d25, d26, d27, dI0, dI1]
def fx : List Fx := [.ini "NoMeeting" "KeptError" ["thing"], .ini "NoRows" "KeptError" ["number"], .xk "NoMeeting", .xk "NoRows", .exo "NoMeeting" "NoMeeting" true, .exo "NoRows" "NoMeeting" false, .exo "NoMeeting" "NoRows" false, .exo "NoRows" "NoRows" true, .etup ("lets_rows", none) "end"]
def fa : List He.Fa := [.glo "is_whole", .glo "is_within", .glo "clause_of", .glo "says", .glo "holds", .glo "within", .glo "met", .glo "is_told", .glo "is_met", .glo "row_clause", .glo "row_clauses", .glo "lets_rows", .glo "_law_pool", .glo "_law_take", .glo "_law_whole", .glo "_law_fillings", .glo "_law_says", .glo "_law_hold", .glo "_law_clause", .glo "_law_sign", .glo "_law_meet", .glo "_law_row_clauses", .glo "_law_lets_rows", .glo "_law_drawn_rows", .glo "_law_bent_rows", .glo "_law_follows", .glo "_law_last", .glo "law", .free "len", .free "abs", .free "min", .free "max", .free "int", .free "str", .free "list", .free "tuple", .free "all", .free "any", .free "sorted", .free "isinstance", .free "range", .free "enumerate", .free "bool", .int "MOST_THINGS" 60, .glo "NoMeeting", .glo "NoRows"]
abbrev R : OpenRow := OpenLaw.row PySem.Challenge.rw_keptclauses_k06_whole_what_rows_end_with
abbrev qv : Program := view R.prog [35]
abbrev hk : Hook := hookX 4 fa dd fx
def ob (s : SharedT) : He.AlD × Bool := obsXG 4 fa dd fx (HandSHeadRun.getT s)
theorem ob_eq (s : SharedT) : ob s = hk.obs s.abs := obsXG_eq (HandSHeadRun.getT_eq s)
def names0 : List Str := ["is_whole", "is_within", "clause_of", "says", "holds", "within", "met", "is_told", "is_met", "row_clause", "row_clauses", "lets_rows", "_law_pool", "_law_take", "_law_whole", "_law_fillings", "_law_says", "_law_hold", "_law_clause", "_law_sign", "_law_meet", "_law_row_clauses", "_law_lets_rows", "_law_drawn_rows", "_law_bent_rows"]
def names1 : List Str := ["_law_follows", "_law_last", "MOST_THINGS", "KeptError", "NoMeeting", "NoRows"]
def names : List Str := names0 ++ names1
theorem run (w : World) : HandSHeadRun.RunEq R qv hk ob 20000 names w := by
  intro os
  kernel_rfl
section
variable {K : Fg} {h : PySem.Heap} {mg : Str → Option Value}
theorem ok0 (X : K.In h) (G : h.Ns mainGlobals mg) (c : SaysX fa dd fx K) : ∃ fd, FnD K mg tb f0 ⟨"is_whole", "is_whole", defArgs (top 6), defBody (top 6), defScope (top 6), P0, N0, 1⟩ (He.fAd K d0.at_) fd (d0.dvs K) (d0.kws K) := by
  obtain ⟨fd, F⟩ := c.1.def_ 0 (d := d0) rfl
  refine ⟨fd, ⟨F, He.glo_ok X G (c.1.fact 0 (f := .glo "is_whole") rfl), sc0, rfl, rfl, tr0, by decide, by decide, fun n h1 h2 => ?_⟩⟩
  have h1 : 1 - 0 ≤ n := h1
  have h2 : n ≤ 1 := h2
  obtain rfl : n = 1 := by omega
  exact ⟨[], [], .nil, FunD.bindsN F fun _ _ _ _ _ _ us hl => (match us, hl with | [_], _ => rfl), fun _ _ => .nil⟩
theorem ok1 (X : K.In h) (G : h.Ns mainGlobals mg) (c : SaysX fa dd fx K) : ∃ fd, FnD K mg tb f1 ⟨"is_within", "is_within", defArgs (top 7), defBody (top 7), defScope (top 7), P1, N1, 3⟩ (He.fAd K d1.at_) fd (d1.dvs K) (d1.kws K) := by
  obtain ⟨fd, F⟩ := c.1.def_ 1 (d := d1) rfl
  refine ⟨fd, ⟨F, He.glo_ok X G (c.1.fact 1 (f := .glo "is_within") rfl), sc1, rfl, rfl, tr1, by decide, by decide, fun n h1 h2 => ?_⟩⟩
  have h1 : 3 - 0 ≤ n := h1
  have h2 : n ≤ 3 := h2
  obtain rfl : n = 3 := by omega
  exact ⟨[], [], .nil, FunD.bindsN F fun _ _ _ _ _ _ us hl => (match us, hl with | [_, _, _], _ => rfl), fun _ _ => .nil⟩
theorem ok2 (X : K.In h) (G : h.Ns mainGlobals mg) (c : SaysX fa dd fx K) : ∃ fd, FnD K mg tb f2 ⟨"clause_of", "clause_of", defArgs (top 8), defBody (top 8), defScope (top 8), P2, N2, 1⟩ (He.fAd K d2.at_) fd (d2.dvs K) (d2.kws K) := by
  obtain ⟨fd, F⟩ := c.1.def_ 2 (d := d2) rfl
  refine ⟨fd, ⟨F, He.glo_ok X G (c.1.fact 2 (f := .glo "clause_of") rfl), sc2, rfl, rfl, tr2, by decide, by decide, fun n h1 h2 => ?_⟩⟩
  have h1 : 1 - 0 ≤ n := h1
  have h2 : n ≤ 1 := h2
  obtain rfl : n = 1 := by omega
  exact ⟨[], [], .nil, FunD.bindsN F fun _ _ _ _ _ _ us hl => (match us, hl with | [_], _ => rfl), fun _ _ => .nil⟩
theorem ok3 (X : K.In h) (G : h.Ns mainGlobals mg) (c : SaysX fa dd fx K) : ∃ fd, FnD K mg tb f3 ⟨"says", "says", defArgs (top 9), defBody (top 9), defScope (top 9), P3, N3, 2⟩ (He.fAd K d3.at_) fd (d3.dvs K) (d3.kws K) := by
  obtain ⟨fd, F⟩ := c.1.def_ 3 (d := d3) rfl
  refine ⟨fd, ⟨F, He.glo_ok X G (c.1.fact 3 (f := .glo "says") rfl), sc3, rfl, rfl, tr3, by decide, by decide, fun n h1 h2 => ?_⟩⟩
  have h1 : 2 - 0 ≤ n := h1
  have h2 : n ≤ 2 := h2
  obtain rfl : n = 2 := by omega
  exact ⟨[], [], .nil, FunD.bindsN F fun _ _ _ _ _ _ us hl => (match us, hl with | [_, _], _ => rfl), fun _ _ => .nil⟩
theorem ok4 (X : K.In h) (G : h.Ns mainGlobals mg) (c : SaysX fa dd fx K) : ∃ fd, FnD K mg tb f4 ⟨"holds", "holds", defArgs (top 10), defBody (top 10), defScope (top 10), P4, N4, 2⟩ (He.fAd K d4.at_) fd (d4.dvs K) (d4.kws K) := by
  obtain ⟨fd, F⟩ := c.1.def_ 4 (d := d4) rfl
  refine ⟨fd, ⟨F, He.glo_ok X G (c.1.fact 4 (f := .glo "holds") rfl), sc4, rfl, rfl, tr4, by decide, by decide, fun n h1 h2 => ?_⟩⟩
  have h1 : 2 - 0 ≤ n := h1
  have h2 : n ≤ 2 := h2
  obtain rfl : n = 2 := by omega
  exact ⟨[], [], .nil, FunD.bindsN F fun _ _ _ _ _ _ us hl => (match us, hl with | [_, _], _ => rfl), fun _ _ => .nil⟩
theorem ok5 (X : K.In h) (G : h.Ns mainGlobals mg) (c : SaysX fa dd fx K) : ∃ fd, FnD K mg tb f5 ⟨"within", "within", defArgs (top 11), defBody (top 11), defScope (top 11), P5, N5, 2⟩ (He.fAd K d5.at_) fd (d5.dvs K) (d5.kws K) := by
  obtain ⟨fd, F⟩ := c.1.def_ 5 (d := d5) rfl
  refine ⟨fd, ⟨F, He.glo_ok X G (c.1.fact 5 (f := .glo "within") rfl), sc5, rfl, rfl, tr5, by decide, by decide, fun n h1 h2 => ?_⟩⟩
  have h1 : 2 - 0 ≤ n := h1
  have h2 : n ≤ 2 := h2
  obtain rfl : n = 2 := by omega
  exact ⟨[], [], .nil, FunD.bindsN F fun _ _ _ _ _ _ us hl => (match us, hl with | [_, _], _ => rfl), fun _ _ => .nil⟩
theorem ok6 (X : K.In h) (G : h.Ns mainGlobals mg) (c : SaysX fa dd fx K) : ∃ fd, FnD K mg tb f6 ⟨"met", "met", defArgs (top 12), defBody (top 12), defScope (top 12), P6, N6, 3⟩ (He.fAd K d6.at_) fd (d6.dvs K) (d6.kws K) := by
  obtain ⟨fd, F⟩ := c.1.def_ 6 (d := d6) rfl
  refine ⟨fd, ⟨F, He.glo_ok X G (c.1.fact 6 (f := .glo "met") rfl), sc6, rfl, rfl, tr6, by decide, by decide, fun n h1 h2 => ?_⟩⟩
  have h1 : 3 - 0 ≤ n := h1
  have h2 : n ≤ 3 := h2
  obtain rfl : n = 3 := by omega
  exact ⟨[], [], .nil, FunD.bindsN F fun _ _ _ _ _ _ us hl => (match us, hl with | [_, _, _], _ => rfl), fun _ _ => .nil⟩
theorem ok7 (X : K.In h) (G : h.Ns mainGlobals mg) (c : SaysX fa dd fx K) : ∃ fd, FnD K mg tb f7 ⟨"is_told", "is_told", defArgs (top 14), defBody (top 14), defScope (top 14), P7, N7, 2⟩ (He.fAd K d7.at_) fd (d7.dvs K) (d7.kws K) := by
  obtain ⟨fd, F⟩ := c.1.def_ 7 (d := d7) rfl
  refine ⟨fd, ⟨F, He.glo_ok X G (c.1.fact 7 (f := .glo "is_told") rfl), sc7, rfl, rfl, tr7, by decide, by decide, fun n h1 h2 => ?_⟩⟩
  have h1 : 2 - 0 ≤ n := h1
  have h2 : n ≤ 2 := h2
  obtain rfl : n = 2 := by omega
  exact ⟨[], [], .nil, FunD.bindsN F fun _ _ _ _ _ _ us hl => (match us, hl with | [_, _], _ => rfl), fun _ _ => .nil⟩
theorem ok8 (X : K.In h) (G : h.Ns mainGlobals mg) (c : SaysX fa dd fx K) : ∃ fd, FnD K mg tb f8 ⟨"is_met", "is_met", defArgs (top 15), defBody (top 15), defScope (top 15), P8, N8, 2⟩ (He.fAd K d8.at_) fd (d8.dvs K) (d8.kws K) := by
  obtain ⟨fd, F⟩ := c.1.def_ 8 (d := d8) rfl
  refine ⟨fd, ⟨F, He.glo_ok X G (c.1.fact 8 (f := .glo "is_met") rfl), sc8, rfl, rfl, tr8, by decide, by decide, fun n h1 h2 => ?_⟩⟩
  have h1 : 2 - 0 ≤ n := h1
  have h2 : n ≤ 2 := h2
  obtain rfl : n = 2 := by omega
  exact ⟨[], [], .nil, FunD.bindsN F fun _ _ _ _ _ _ us hl => (match us, hl with | [_, _], _ => rfl), fun _ _ => .nil⟩
theorem ok9 (X : K.In h) (G : h.Ns mainGlobals mg) (c : SaysX fa dd fx K) : ∃ fd, FnD K mg tb f9 ⟨"row_clause", "row_clause", defArgs (top 16), defBody (top 16), defScope (top 16), P9, N9, 3⟩ (He.fAd K d9.at_) fd (d9.dvs K) (d9.kws K) := by
  obtain ⟨fd, F⟩ := c.1.def_ 9 (d := d9) rfl
  refine ⟨fd, ⟨F, He.glo_ok X G (c.1.fact 9 (f := .glo "row_clause") rfl), sc9, rfl, rfl, tr9, by decide, by decide, fun n h1 h2 => ?_⟩⟩
  have h1 : 3 - 0 ≤ n := h1
  have h2 : n ≤ 3 := h2
  obtain rfl : n = 3 := by omega
  exact ⟨[], [], .nil, FunD.bindsN F fun _ _ _ _ _ _ us hl => (match us, hl with | [_, _, _], _ => rfl), fun _ _ => .nil⟩
theorem ok10 (X : K.In h) (G : h.Ns mainGlobals mg) (c : SaysX fa dd fx K) : ∃ fd, FnD K mg tb f10 ⟨"row_clauses", "row_clauses", defArgs (top 17), defBody (top 17), defScope (top 17), P10, N10, 2⟩ (He.fAd K d10.at_) fd (d10.dvs K) (d10.kws K) := by
  obtain ⟨fd, F⟩ := c.1.def_ 10 (d := d10) rfl
  refine ⟨fd, ⟨F, He.glo_ok X G (c.1.fact 10 (f := .glo "row_clauses") rfl), sc10, rfl, rfl, tr10, by decide, by decide, fun n h1 h2 => ?_⟩⟩
  have h1 : 2 - 0 ≤ n := h1
  have h2 : n ≤ 2 := h2
  obtain rfl : n = 2 := by omega
  exact ⟨[], [], .nil, FunD.bindsN F fun _ _ _ _ _ _ us hl => (match us, hl with | [_, _], _ => rfl), fun _ _ => .nil⟩
theorem ok11 (X : K.In h) (G : h.Ns mainGlobals mg) (c : SaysX fa dd fx K) : ∃ fd, FnD K mg tb f11 ⟨"lets_rows", "lets_rows", defArgs (top 18), defBody (top 18), defScope (top 18), P11, N11, 2⟩ (He.fAd K d11.at_) fd (d11.dvs K) (d11.kws K) := by
  obtain ⟨fd, F⟩ := c.1.def_ 11 (d := d11) rfl
  refine ⟨fd, ⟨F, He.glo_ok X G (c.1.fact 11 (f := .glo "lets_rows") rfl), sc11, rfl, rfl, tr11, by decide, by decide, fun n h1 h2 => ?_⟩⟩
  have h1 : 3 - 1 ≤ n := h1
  have h2 : n ≤ 2 := h2
  obtain rfl : n = 2 := by omega
  obtain ⟨ds, r, b⟩ := FunD.binds0 (ps := P11) F 2 (by simp [d11, He.DefD.kws]) rfl fun D doc pm an cdv ct us ks l1 l2 => (match us, ks, l1, l2 with | [_, _], [_], _, _ => ⟨_, _, _, _, _, _, rfl, rfl, rfl⟩)
  exact ⟨_, ds, r, b, fun _ _ => .cons (.tup (etupB_ok (c.fx 8 (f := .etup ("lets_rows", none) "end") rfl) _) .nil) (.nil)⟩
theorem ok12 (X : K.In h) (G : h.Ns mainGlobals mg) (c : SaysX fa dd fx K) : ∃ fd, FnD K mg tb f12 ⟨"_law_pool", "_law_pool", defArgs (top 20), defBody (top 20), defScope (top 20), P12, N12, 2⟩ (He.fAd K d12.at_) fd (d12.dvs K) (d12.kws K) := by
  obtain ⟨fd, F⟩ := c.1.def_ 12 (d := d12) rfl
  refine ⟨fd, ⟨F, He.glo_ok X G (c.1.fact 12 (f := .glo "_law_pool") rfl), sc12, rfl, rfl, tr12, by decide, by decide, fun n h1 h2 => ?_⟩⟩
  have h1 : 2 - 0 ≤ n := h1
  have h2 : n ≤ 2 := h2
  obtain rfl : n = 2 := by omega
  exact ⟨[], [], .nil, FunD.bindsN F fun _ _ _ _ _ _ us hl => (match us, hl with | [_, _], _ => rfl), fun _ _ => .nil⟩
theorem ok13 (X : K.In h) (G : h.Ns mainGlobals mg) (c : SaysX fa dd fx K) : ∃ fd, FnD K mg tb f13 ⟨"_law_take", "_law_take", defArgs (top 21), defBody (top 21), defScope (top 21), P13, N13, 2⟩ (He.fAd K d13.at_) fd (d13.dvs K) (d13.kws K) := by
  obtain ⟨fd, F⟩ := c.1.def_ 13 (d := d13) rfl
  refine ⟨fd, ⟨F, He.glo_ok X G (c.1.fact 13 (f := .glo "_law_take") rfl), sc13, rfl, rfl, tr13, by decide, by decide, fun n h1 h2 => ?_⟩⟩
  have h1 : 2 - 0 ≤ n := h1
  have h2 : n ≤ 2 := h2
  obtain rfl : n = 2 := by omega
  exact ⟨[], [], .nil, FunD.bindsN F fun _ _ _ _ _ _ us hl => (match us, hl with | [_, _], _ => rfl), fun _ _ => .nil⟩
theorem ok14 (X : K.In h) (G : h.Ns mainGlobals mg) (c : SaysX fa dd fx K) : ∃ fd, FnD K mg tb f14 ⟨"_law_whole", "_law_whole", defArgs (top 22), defBody (top 22), defScope (top 22), P14, N14, 1⟩ (He.fAd K d14.at_) fd (d14.dvs K) (d14.kws K) := by
  obtain ⟨fd, F⟩ := c.1.def_ 14 (d := d14) rfl
  refine ⟨fd, ⟨F, He.glo_ok X G (c.1.fact 14 (f := .glo "_law_whole") rfl), sc14, rfl, rfl, tr14, by decide, by decide, fun n h1 h2 => ?_⟩⟩
  have h1 : 1 - 0 ≤ n := h1
  have h2 : n ≤ 1 := h2
  obtain rfl : n = 1 := by omega
  exact ⟨[], [], .nil, FunD.bindsN F fun _ _ _ _ _ _ us hl => (match us, hl with | [_], _ => rfl), fun _ _ => .nil⟩
theorem ok15 (X : K.In h) (G : h.Ns mainGlobals mg) (c : SaysX fa dd fx K) : ∃ fd, FnD K mg tb f15 ⟨"_law_fillings", "_law_fillings", defArgs (top 23), defBody (top 23), defScope (top 23), P15, N15, 1⟩ (He.fAd K d15.at_) fd (d15.dvs K) (d15.kws K) := by
  obtain ⟨fd, F⟩ := c.1.def_ 15 (d := d15) rfl
  refine ⟨fd, ⟨F, He.glo_ok X G (c.1.fact 15 (f := .glo "_law_fillings") rfl), sc15, rfl, rfl, tr15, by decide, by decide, fun n h1 h2 => ?_⟩⟩
  have h1 : 1 - 0 ≤ n := h1
  have h2 : n ≤ 1 := h2
  obtain rfl : n = 1 := by omega
  exact ⟨[], [], .nil, FunD.bindsN F fun _ _ _ _ _ _ us hl => (match us, hl with | [_], _ => rfl), fun _ _ => .nil⟩
theorem ok16 (X : K.In h) (G : h.Ns mainGlobals mg) (c : SaysX fa dd fx K) : ∃ fd, FnD K mg tb f16 ⟨"_law_says", "_law_says", defArgs (top 24), defBody (top 24), defScope (top 24), P16, N16, 2⟩ (He.fAd K d16.at_) fd (d16.dvs K) (d16.kws K) := by
  obtain ⟨fd, F⟩ := c.1.def_ 16 (d := d16) rfl
  refine ⟨fd, ⟨F, He.glo_ok X G (c.1.fact 16 (f := .glo "_law_says") rfl), sc16, rfl, rfl, tr16, by decide, by decide, fun n h1 h2 => ?_⟩⟩
  have h1 : 2 - 0 ≤ n := h1
  have h2 : n ≤ 2 := h2
  obtain rfl : n = 2 := by omega
  exact ⟨[], [], .nil, FunD.bindsN F fun _ _ _ _ _ _ us hl => (match us, hl with | [_, _], _ => rfl), fun _ _ => .nil⟩
theorem ok17 (X : K.In h) (G : h.Ns mainGlobals mg) (c : SaysX fa dd fx K) : ∃ fd, FnD K mg tb f17 ⟨"_law_hold", "_law_hold", defArgs (top 25), defBody (top 25), defScope (top 25), P17, N17, 2⟩ (He.fAd K d17.at_) fd (d17.dvs K) (d17.kws K) := by
  obtain ⟨fd, F⟩ := c.1.def_ 17 (d := d17) rfl
  refine ⟨fd, ⟨F, He.glo_ok X G (c.1.fact 17 (f := .glo "_law_hold") rfl), sc17, rfl, rfl, tr17, by decide, by decide, fun n h1 h2 => ?_⟩⟩
  have h1 : 2 - 0 ≤ n := h1
  have h2 : n ≤ 2 := h2
  obtain rfl : n = 2 := by omega
  exact ⟨[], [], .nil, FunD.bindsN F fun _ _ _ _ _ _ us hl => (match us, hl with | [_, _], _ => rfl), fun _ _ => .nil⟩
theorem ok18 (X : K.In h) (G : h.Ns mainGlobals mg) (c : SaysX fa dd fx K) : ∃ fd, FnD K mg tb f18 ⟨"_law_clause", "_law_clause", defArgs (top 26), defBody (top 26), defScope (top 26), P18, N18, 3⟩ (He.fAd K d18.at_) fd (d18.dvs K) (d18.kws K) := by
  obtain ⟨fd, F⟩ := c.1.def_ 18 (d := d18) rfl
  refine ⟨fd, ⟨F, He.glo_ok X G (c.1.fact 18 (f := .glo "_law_clause") rfl), sc18, rfl, rfl, tr18, by decide, by decide, fun n h1 h2 => ?_⟩⟩
  have h1 : 3 - 0 ≤ n := h1
  have h2 : n ≤ 3 := h2
  obtain rfl : n = 3 := by omega
  exact ⟨[], [], .nil, FunD.bindsN F fun _ _ _ _ _ _ us hl => (match us, hl with | [_, _, _], _ => rfl), fun _ _ => .nil⟩
theorem ok19 (X : K.In h) (G : h.Ns mainGlobals mg) (c : SaysX fa dd fx K) : ∃ fd, FnD K mg tb f19 ⟨"_law_sign", "_law_sign", defArgs (top 27), defBody (top 27), defScope (top 27), P19, N19, 2⟩ (He.fAd K d19.at_) fd (d19.dvs K) (d19.kws K) := by
  obtain ⟨fd, F⟩ := c.1.def_ 19 (d := d19) rfl
  refine ⟨fd, ⟨F, He.glo_ok X G (c.1.fact 19 (f := .glo "_law_sign") rfl), sc19, rfl, rfl, tr19, by decide, by decide, fun n h1 h2 => ?_⟩⟩
  have h1 : 2 - 0 ≤ n := h1
  have h2 : n ≤ 2 := h2
  obtain rfl : n = 2 := by omega
  exact ⟨[], [], .nil, FunD.bindsN F fun _ _ _ _ _ _ us hl => (match us, hl with | [_, _], _ => rfl), fun _ _ => .nil⟩
theorem ok20 (X : K.In h) (G : h.Ns mainGlobals mg) (c : SaysX fa dd fx K) : ∃ fd, FnD K mg tb f20 ⟨"_law_meet", "_law_meet", defArgs (top 28), defBody (top 28), defScope (top 28), P20, N20, 3⟩ (He.fAd K d20.at_) fd (d20.dvs K) (d20.kws K) := by
  obtain ⟨fd, F⟩ := c.1.def_ 20 (d := d20) rfl
  refine ⟨fd, ⟨F, He.glo_ok X G (c.1.fact 20 (f := .glo "_law_meet") rfl), sc20, rfl, rfl, tr20, by decide, by decide, fun n h1 h2 => ?_⟩⟩
  have h1 : 3 - 0 ≤ n := h1
  have h2 : n ≤ 3 := h2
  obtain rfl : n = 3 := by omega
  exact ⟨[], [], .nil, FunD.bindsN F fun _ _ _ _ _ _ us hl => (match us, hl with | [_, _, _], _ => rfl), fun _ _ => .nil⟩
theorem ok21 (X : K.In h) (G : h.Ns mainGlobals mg) (c : SaysX fa dd fx K) : ∃ fd, FnD K mg tb f21 ⟨"_law_row_clauses", "_law_row_clauses", defArgs (top 29), defBody (top 29), defScope (top 29), P21, N21, 2⟩ (He.fAd K d21.at_) fd (d21.dvs K) (d21.kws K) := by
  obtain ⟨fd, F⟩ := c.1.def_ 21 (d := d21) rfl
  refine ⟨fd, ⟨F, He.glo_ok X G (c.1.fact 21 (f := .glo "_law_row_clauses") rfl), sc21, rfl, rfl, tr21, by decide, by decide, fun n h1 h2 => ?_⟩⟩
  have h1 : 2 - 0 ≤ n := h1
  have h2 : n ≤ 2 := h2
  obtain rfl : n = 2 := by omega
  exact ⟨[], [], .nil, FunD.bindsN F fun _ _ _ _ _ _ us hl => (match us, hl with | [_, _], _ => rfl), fun _ _ => .nil⟩
theorem ok22 (X : K.In h) (G : h.Ns mainGlobals mg) (c : SaysX fa dd fx K) : ∃ fd, FnD K mg tb f22 ⟨"_law_lets_rows", "_law_lets_rows", defArgs (top 30), defBody (top 30), defScope (top 30), P22, N22, 3⟩ (He.fAd K d22.at_) fd (d22.dvs K) (d22.kws K) := by
  obtain ⟨fd, F⟩ := c.1.def_ 22 (d := d22) rfl
  refine ⟨fd, ⟨F, He.glo_ok X G (c.1.fact 22 (f := .glo "_law_lets_rows") rfl), sc22, rfl, rfl, tr22, by decide, by decide, fun n h1 h2 => ?_⟩⟩
  have h1 : 3 - 0 ≤ n := h1
  have h2 : n ≤ 3 := h2
  obtain rfl : n = 3 := by omega
  exact ⟨[], [], .nil, FunD.bindsN F fun _ _ _ _ _ _ us hl => (match us, hl with | [_, _, _], _ => rfl), fun _ _ => .nil⟩
theorem ok23 (X : K.In h) (G : h.Ns mainGlobals mg) (c : SaysX fa dd fx K) : ∃ fd, FnD K mg tb f23 ⟨"_law_drawn_rows", "_law_drawn_rows", defArgs (top 31), defBody (top 31), defScope (top 31), P23, N23, 2⟩ (He.fAd K d23.at_) fd (d23.dvs K) (d23.kws K) := by
  obtain ⟨fd, F⟩ := c.1.def_ 23 (d := d23) rfl
  refine ⟨fd, ⟨F, He.glo_ok X G (c.1.fact 23 (f := .glo "_law_drawn_rows") rfl), sc23, rfl, rfl, tr23, by decide, by decide, fun n h1 h2 => ?_⟩⟩
  have h1 : 2 - 0 ≤ n := h1
  have h2 : n ≤ 2 := h2
  obtain rfl : n = 2 := by omega
  exact ⟨[], [], .nil, FunD.bindsN F fun _ _ _ _ _ _ us hl => (match us, hl with | [_, _], _ => rfl), fun _ _ => .nil⟩
theorem ok24 (X : K.In h) (G : h.Ns mainGlobals mg) (c : SaysX fa dd fx K) : ∃ fd, FnD K mg tb f24 ⟨"_law_bent_rows", "_law_bent_rows", defArgs (top 32), defBody (top 32), defScope (top 32), P24, N24, 2⟩ (He.fAd K d24.at_) fd (d24.dvs K) (d24.kws K) := by
  obtain ⟨fd, F⟩ := c.1.def_ 24 (d := d24) rfl
  refine ⟨fd, ⟨F, He.glo_ok X G (c.1.fact 24 (f := .glo "_law_bent_rows") rfl), sc24, rfl, rfl, tr24, by decide, by decide, fun n h1 h2 => ?_⟩⟩
  have h1 : 2 - 0 ≤ n := h1
  have h2 : n ≤ 2 := h2
  obtain rfl : n = 2 := by omega
  exact ⟨[], [], .nil, FunD.bindsN F fun _ _ _ _ _ _ us hl => (match us, hl with | [_, _], _ => rfl), fun _ _ => .nil⟩
theorem ok25 (X : K.In h) (G : h.Ns mainGlobals mg) (c : SaysX fa dd fx K) : ∃ fd, FnD K mg tb f25 ⟨"_law_follows", "_law_follows", defArgs (top 33), defBody (top 33), defScope (top 33), P25, N25, 3⟩ (He.fAd K d25.at_) fd (d25.dvs K) (d25.kws K) := by
  obtain ⟨fd, F⟩ := c.1.def_ 25 (d := d25) rfl
  refine ⟨fd, ⟨F, He.glo_ok X G (c.1.fact 25 (f := .glo "_law_follows") rfl), sc25, rfl, rfl, tr25, by decide, by decide, fun n h1 h2 => ?_⟩⟩
  have h1 : 3 - 0 ≤ n := h1
  have h2 : n ≤ 3 := h2
  obtain rfl : n = 3 := by omega
  exact ⟨[], [], .nil, FunD.bindsN F fun _ _ _ _ _ _ us hl => (match us, hl with | [_, _, _], _ => rfl), fun _ _ => .nil⟩
theorem ok26 (X : K.In h) (G : h.Ns mainGlobals mg) (c : SaysX fa dd fx K) : ∃ fd, FnD K mg tb f26 ⟨"_law_last", "_law_last", defArgs (top 34), defBody (top 34), defScope (top 34), P26, N26, 2⟩ (He.fAd K d26.at_) fd (d26.dvs K) (d26.kws K) := by
  obtain ⟨fd, F⟩ := c.1.def_ 26 (d := d26) rfl
  refine ⟨fd, ⟨F, He.glo_ok X G (c.1.fact 26 (f := .glo "_law_last") rfl), sc26, rfl, rfl, tr26, by decide, by decide, fun n h1 h2 => ?_⟩⟩
  have h1 : 2 - 0 ≤ n := h1
  have h2 : n ≤ 2 := h2
  obtain rfl : n = 2 := by omega
  exact ⟨[], [], .nil, FunD.bindsN F fun _ _ _ _ _ _ us hl => (match us, hl with | [_, _], _ => rfl), fun _ _ => .nil⟩
theorem ok27 (X : K.In h) (G : h.Ns mainGlobals mg) (c : SaysX fa dd fx K) : ∃ fd, FnD K mg tb f27 ⟨"law", "law", defArgs (top 35), defBody (top 35), defScope (top 35), P27, N27, 1⟩ (He.fAd K d27.at_) fd (d27.dvs K) (d27.kws K) := by
  obtain ⟨fd, F⟩ := c.1.def_ 27 (d := d27) rfl
  refine ⟨fd, ⟨F, He.glo_ok X G (c.1.fact 27 (f := .glo "law") rfl), sc27, rfl, rfl, tr27, by decide, by decide, fun n h1 h2 => ?_⟩⟩
  have h1 : 1 - 0 ≤ n := h1
  have h2 : n ≤ 1 := h2
  obtain rfl : n = 1 := by omega
  exact ⟨[], [], .nil, FunD.bindsN F fun _ _ _ _ _ _ us hl => (match us, hl with | [_], _ => rfl), fun _ _ => .nil⟩
theorem all_free (X : K.In h) (G : h.Ns mainGlobals mg) (c : SaysX fa dd fx K) (x : Str) (hx : tb.bis.contains x = true) : mg x = none := by
  have m : x ∈ (["len", "abs", "min", "max", "int", "str", "list", "tuple", "all", "any", "sorted", "isinstance", "range", "enumerate", "bool"] : List Str) := by simpa [tb] using hx
  simp only [List.mem_cons, List.not_mem_nil, or_false] at m
  rcases m with rfl | rfl | rfl | rfl | rfl | rfl | rfl | rfl | rfl | rfl | rfl | rfl | rfl | rfl | rfl
  · exact He.free_ok X G (c.1.fact 28 (f := .free "len") rfl)
  · exact He.free_ok X G (c.1.fact 29 (f := .free "abs") rfl)
  · exact He.free_ok X G (c.1.fact 30 (f := .free "min") rfl)
  · exact He.free_ok X G (c.1.fact 31 (f := .free "max") rfl)
  · exact He.free_ok X G (c.1.fact 32 (f := .free "int") rfl)
  · exact He.free_ok X G (c.1.fact 33 (f := .free "str") rfl)
  · exact He.free_ok X G (c.1.fact 34 (f := .free "list") rfl)
  · exact He.free_ok X G (c.1.fact 35 (f := .free "tuple") rfl)
  · exact He.free_ok X G (c.1.fact 36 (f := .free "all") rfl)
  · exact He.free_ok X G (c.1.fact 37 (f := .free "any") rfl)
  · exact He.free_ok X G (c.1.fact 38 (f := .free "sorted") rfl)
  · exact He.free_ok X G (c.1.fact 39 (f := .free "isinstance") rfl)
  · exact He.free_ok X G (c.1.fact 40 (f := .free "range") rfl)
  · exact He.free_ok X G (c.1.fact 41 (f := .free "enumerate") rfl)
  · exact He.free_ok X G (c.1.fact 42 (f := .free "bool") rfl)
theorem consts (X : K.In h) (G : h.Ns mainGlobals mg) (c : SaysX fa dd fx K) (x : Str) (v : Vl) (hx : tb.cst.lookup x = some v) : ∃ V' u, mg x = some u ∧ RelV V' u ∧ ∀ F ρ, RV K F ρ v V' := by
  have hx : List.lookup x ([("MOST_THINGS", .int 60)] : List (Str × Vl)) = some v := hx
  by_cases e0 : x = "MOST_THINGS"
  · subst e0
    obtain ⟨t, e⟩ := He.int_ok X G (c.1.fact 43 (f := .int "MOST_THINGS" 60) rfl)
    rw [List.lookup_cons_self] at hx
    cases hx
    exact ⟨.int 60, _, e, ⟨t, rfl⟩, fun _ _ => .int _⟩
  rw [List.lookup_cons, show (x == ("MOST_THINGS" : Str)) = false from by simpa using e0] at hx
  cases hx
theorem exg (X : K.In h) (G : h.Ns mainGlobals mg) (c : SaysX fa dd fx K) : ExG K mg tb := by
  refine ⟨fun y hy => ?_, fun f hf y hy => ?_, fun x cs hx => ?_⟩
  ·
    have m : y ∈ (["NoMeeting", "NoRows"] : List Str) := by simpa [tb, Tb.kn] using hy
    simp only [List.mem_cons, List.not_mem_nil, or_false] at m
    rcases m with rfl | rfl
    · exact xkB_ok (c.fx 2 (f := .xk "NoMeeting") rfl)
    · exact xkB_ok (c.fx 3 (f := .xk "NoRows") rfl)
  · cases hf
  · have hx : List.lookup x ([("NoMeeting", ["NoMeeting"]), ("NoRows", ["NoRows"])] : List (Str × List Str)) = some cs := hx
    by_cases e0 : x = "NoMeeting"
    · subst e0
      rw [List.lookup_cons_self] at hx
      cases hx
      refine ⟨.ref (He.ga K "NoMeeting"), .ref (He.ga K "NoMeeting"), .own _, rfl, .inl (He.glo_ok X G (c.1.fact 44 (f := .glo "NoMeeting") rfl)), fun y hy => ?_⟩
      have m : y ∈ (["NoMeeting", "NoRows"] : List Str) := by simpa [tb, Tb.kn] using hy
      simp only [List.mem_cons, List.not_mem_nil, or_false] at m
      rcases m with rfl | rfl
      · have e : (["NoMeeting"] : List Str).contains "NoMeeting" = true := by decide +kernel
        rw [e]; exact exo_ok' (c.fx 4 (f := .exo "NoMeeting" "NoMeeting" true) rfl)
      · have e : (["NoMeeting"] : List Str).contains "NoRows" = false := by decide +kernel
        rw [e]; exact exo_ok' (c.fx 5 (f := .exo "NoRows" "NoMeeting" false) rfl)
    rw [List.lookup_cons, show (x == ("NoMeeting" : Str)) = false from by simpa using e0] at hx
    by_cases e1 : x = "NoRows"
    · subst e1
      rw [List.lookup_cons_self] at hx
      cases hx
      refine ⟨.ref (He.ga K "NoRows"), .ref (He.ga K "NoRows"), .own _, rfl, .inl (He.glo_ok X G (c.1.fact 45 (f := .glo "NoRows") rfl)), fun y hy => ?_⟩
      have m : y ∈ (["NoMeeting", "NoRows"] : List Str) := by simpa [tb, Tb.kn] using hy
      simp only [List.mem_cons, List.not_mem_nil, or_false] at m
      rcases m with rfl | rfl
      · have e : (["NoRows"] : List Str).contains "NoMeeting" = false := by decide +kernel
        rw [e]; exact exo_ok' (c.fx 6 (f := .exo "NoMeeting" "NoRows" false) rfl)
      · have e : (["NoRows"] : List Str).contains "NoRows" = true := by decide +kernel
        rw [e]; exact exo_ok' (c.fx 7 (f := .exo "NoRows" "NoRows" true) rfl)
    rw [List.lookup_cons, show (x == ("NoRows" : Str)) = false from by simpa using e1] at hx
    cases hx
theorem clsd (X : K.In h) (G : h.Ns mainGlobals mg) (c : SaysX fa dd fx K) (x : Str) (n : Nat) (ns : List Str) (hx : (x, n, ns) ∈ tb.cls) : ClsD K mg x n ns := by
  have m : (x, n, ns) ∈ ([("NoMeeting", 1, ["thing"]), ("NoRows", 1, ["number"])] : List (Str × Nat × List Str)) := hx
  simp only [List.mem_cons, List.not_mem_nil, or_false, Prod.mk.injEq] at m
  rcases m with ⟨rfl, rfl, rfl⟩ | ⟨rfl, rfl, rfl⟩
  · obtain ⟨g1, I, iC, tI⟩ := iniB_ok X G (by decide +kernel) (c.fx 0 (f := .ini "NoMeeting" "KeptError" ["thing"]) rfl)
    obtain ⟨fd, F⟩ := c.1.def_ 28 (d := dI0) rfl
    exact .ini g1 (by decide +kernel) I iC tI F scI0 (by decide +kernel) (by decide +kernel) (by decide +kernel) (FunD.bindsN F fun _ _ _ _ _ _ us hl => (match us, hl with | [_, _], _ => rfl)) rfl (by simp) (by decide)
  · obtain ⟨g1, I, iC, tI⟩ := iniB_ok X G (by decide +kernel) (c.fx 1 (f := .ini "NoRows" "KeptError" ["number"]) rfl)
    obtain ⟨fd, F⟩ := c.1.def_ 29 (d := dI1) rfl
    exact .ini g1 (by decide +kernel) I iC tI F scI1 (by decide +kernel) (by decide +kernel) (by decide +kernel) (FunD.bindsN F fun _ _ _ _ _ _ us hl => (match us, hl with | [_, _], _ => rfl)) rfl (by simp) (by decide)
theorem kwfs (X : K.In h) (G : h.Ns mainGlobals mg) (c : SaysX fa dd fx K) (g : Str) (n : Nat) (ks : List Str) (i : Nat) (hx : (g, n, ks, i) ∈ tb.kwf) : (g == ("__debug__" : Str)) = false ∧ ∃ fn d f fd dvs kws, fs[i]? = some fn ∧ FnD K mg tb fn d f fd dvs kws ∧ d.x = g ∧ L2.KBn K fd d.ps n ks (fun us ws => us ++ ws) (fun vs zs => vs ++ zs) ∧ n + ks.length = fn.np := by
  have m : (g, n, ks, i) ∈ ([("lets_rows", 2, ["end"], 11)] : List (Str × Nat × List Str × Nat)) := hx
  simp only [List.mem_cons, List.not_mem_nil, or_false, Prod.mk.injEq] at m
  rcases m with ⟨rfl, rfl, rfl, rfl⟩
  · obtain ⟨fd, D⟩ := ok11 X G c; exact ⟨by decide +kernel, _, _, _, fd, _, _, rfl, D, rfl, kbAll D.F fun _ _ _ _ _ _ us ws l1 l2 => (match us, ws, l1, l2 with | [_, _], [_], _, _ => rfl), rfl⟩
theorem txt (X : K.In h) (G : h.Ns mainGlobals mg) (c : SaysX fa dd fx K) : Txt K mg tb fs := by
  refine ⟨fun i x lo hi h => ?_, all_free X G c, consts X G c, exg X G c, clsd X G c, kwfs X G c⟩
  match i, h with
  | 0, e => have e : some (("is_whole" : Str), 1, 1) = some (x, lo, hi) := e; cases e; obtain ⟨fd, D⟩ := ok0 X G c; exact ⟨by decide +kernel, _, _, _, fd, _, _, rfl, D, rfl, rfl, rfl⟩
  | 1, e => have e : some (("is_within" : Str), 3, 3) = some (x, lo, hi) := e; cases e; obtain ⟨fd, D⟩ := ok1 X G c; exact ⟨by decide +kernel, _, _, _, fd, _, _, rfl, D, rfl, rfl, rfl⟩
  | 2, e => have e : some (("clause_of" : Str), 1, 1) = some (x, lo, hi) := e; cases e; obtain ⟨fd, D⟩ := ok2 X G c; exact ⟨by decide +kernel, _, _, _, fd, _, _, rfl, D, rfl, rfl, rfl⟩
  | 3, e => have e : some (("says" : Str), 2, 2) = some (x, lo, hi) := e; cases e; obtain ⟨fd, D⟩ := ok3 X G c; exact ⟨by decide +kernel, _, _, _, fd, _, _, rfl, D, rfl, rfl, rfl⟩
  | 4, e => have e : some (("holds" : Str), 2, 2) = some (x, lo, hi) := e; cases e; obtain ⟨fd, D⟩ := ok4 X G c; exact ⟨by decide +kernel, _, _, _, fd, _, _, rfl, D, rfl, rfl, rfl⟩
  | 5, e => have e : some (("within" : Str), 2, 2) = some (x, lo, hi) := e; cases e; obtain ⟨fd, D⟩ := ok5 X G c; exact ⟨by decide +kernel, _, _, _, fd, _, _, rfl, D, rfl, rfl, rfl⟩
  | 6, e => have e : some (("met" : Str), 3, 3) = some (x, lo, hi) := e; cases e; obtain ⟨fd, D⟩ := ok6 X G c; exact ⟨by decide +kernel, _, _, _, fd, _, _, rfl, D, rfl, rfl, rfl⟩
  | 7, e => have e : some (("is_told" : Str), 2, 2) = some (x, lo, hi) := e; cases e; obtain ⟨fd, D⟩ := ok7 X G c; exact ⟨by decide +kernel, _, _, _, fd, _, _, rfl, D, rfl, rfl, rfl⟩
  | 8, e => have e : some (("is_met" : Str), 2, 2) = some (x, lo, hi) := e; cases e; obtain ⟨fd, D⟩ := ok8 X G c; exact ⟨by decide +kernel, _, _, _, fd, _, _, rfl, D, rfl, rfl, rfl⟩
  | 9, e => have e : some (("row_clause" : Str), 3, 3) = some (x, lo, hi) := e; cases e; obtain ⟨fd, D⟩ := ok9 X G c; exact ⟨by decide +kernel, _, _, _, fd, _, _, rfl, D, rfl, rfl, rfl⟩
  | 10, e => have e : some (("row_clauses" : Str), 2, 2) = some (x, lo, hi) := e; cases e; obtain ⟨fd, D⟩ := ok10 X G c; exact ⟨by decide +kernel, _, _, _, fd, _, _, rfl, D, rfl, rfl, rfl⟩
  | 11, e => have e : some (("lets_rows" : Str), 2, 2) = some (x, lo, hi) := e; cases e; obtain ⟨fd, D⟩ := ok11 X G c; exact ⟨by decide +kernel, _, _, _, fd, _, _, rfl, D, rfl, rfl, rfl⟩
  | 12, e => have e : some (("_law_pool" : Str), 2, 2) = some (x, lo, hi) := e; cases e; obtain ⟨fd, D⟩ := ok12 X G c; exact ⟨by decide +kernel, _, _, _, fd, _, _, rfl, D, rfl, rfl, rfl⟩
  | 13, e => have e : some (("_law_take" : Str), 2, 2) = some (x, lo, hi) := e; cases e; obtain ⟨fd, D⟩ := ok13 X G c; exact ⟨by decide +kernel, _, _, _, fd, _, _, rfl, D, rfl, rfl, rfl⟩
  | 14, e => have e : some (("_law_whole" : Str), 1, 1) = some (x, lo, hi) := e; cases e; obtain ⟨fd, D⟩ := ok14 X G c; exact ⟨by decide +kernel, _, _, _, fd, _, _, rfl, D, rfl, rfl, rfl⟩
  | 15, e => have e : some (("_law_fillings" : Str), 1, 1) = some (x, lo, hi) := e; cases e; obtain ⟨fd, D⟩ := ok15 X G c; exact ⟨by decide +kernel, _, _, _, fd, _, _, rfl, D, rfl, rfl, rfl⟩
  | 16, e => have e : some (("_law_says" : Str), 2, 2) = some (x, lo, hi) := e; cases e; obtain ⟨fd, D⟩ := ok16 X G c; exact ⟨by decide +kernel, _, _, _, fd, _, _, rfl, D, rfl, rfl, rfl⟩
  | 17, e => have e : some (("_law_hold" : Str), 2, 2) = some (x, lo, hi) := e; cases e; obtain ⟨fd, D⟩ := ok17 X G c; exact ⟨by decide +kernel, _, _, _, fd, _, _, rfl, D, rfl, rfl, rfl⟩
  | 18, e => have e : some (("_law_clause" : Str), 3, 3) = some (x, lo, hi) := e; cases e; obtain ⟨fd, D⟩ := ok18 X G c; exact ⟨by decide +kernel, _, _, _, fd, _, _, rfl, D, rfl, rfl, rfl⟩
  | 19, e => have e : some (("_law_sign" : Str), 2, 2) = some (x, lo, hi) := e; cases e; obtain ⟨fd, D⟩ := ok19 X G c; exact ⟨by decide +kernel, _, _, _, fd, _, _, rfl, D, rfl, rfl, rfl⟩
  | 20, e => have e : some (("_law_meet" : Str), 3, 3) = some (x, lo, hi) := e; cases e; obtain ⟨fd, D⟩ := ok20 X G c; exact ⟨by decide +kernel, _, _, _, fd, _, _, rfl, D, rfl, rfl, rfl⟩
  | 21, e => have e : some (("_law_row_clauses" : Str), 2, 2) = some (x, lo, hi) := e; cases e; obtain ⟨fd, D⟩ := ok21 X G c; exact ⟨by decide +kernel, _, _, _, fd, _, _, rfl, D, rfl, rfl, rfl⟩
  | 22, e => have e : some (("_law_lets_rows" : Str), 3, 3) = some (x, lo, hi) := e; cases e; obtain ⟨fd, D⟩ := ok22 X G c; exact ⟨by decide +kernel, _, _, _, fd, _, _, rfl, D, rfl, rfl, rfl⟩
  | 23, e => have e : some (("_law_drawn_rows" : Str), 2, 2) = some (x, lo, hi) := e; cases e; obtain ⟨fd, D⟩ := ok23 X G c; exact ⟨by decide +kernel, _, _, _, fd, _, _, rfl, D, rfl, rfl, rfl⟩
  | 24, e => have e : some (("_law_bent_rows" : Str), 2, 2) = some (x, lo, hi) := e; cases e; obtain ⟨fd, D⟩ := ok24 X G c; exact ⟨by decide +kernel, _, _, _, fd, _, _, rfl, D, rfl, rfl, rfl⟩
  | 25, e => have e : some (("_law_follows" : Str), 3, 3) = some (x, lo, hi) := e; cases e; obtain ⟨fd, D⟩ := ok25 X G c; exact ⟨by decide +kernel, _, _, _, fd, _, _, rfl, D, rfl, rfl, rfl⟩
  | 26, e => have e : some (("_law_last" : Str), 2, 2) = some (x, lo, hi) := e; cases e; obtain ⟨fd, D⟩ := ok26 X G c; exact ⟨by decide +kernel, _, _, _, fd, _, _, rfl, D, rfl, rfl, rfl⟩
  | 27, e => have e : some (("law" : Str), 1, 1) = some (x, lo, hi) := e; cases e; obtain ⟨fd, D⟩ := ok27 X G c; exact ⟨by decide +kernel, _, _, _, fd, _, _, rfl, D, rfl, rfl, rfl⟩
  | n + 28, e => exact absurd (show none = some (x, lo, hi) from e) (by simp)
end
end K06H

set_option maxHeartbeats 0
open PySem PySem.W PySem.Calls PyProof.Rows
theorem PySem.Challenge.cw_keptclauses_k06_whole_what_rows_end_with_holds : PySem.Challenge.rw_keptclauses_k06_whole_what_rows_end_with.Holds := by
  w_on; o_law
  refine HandSHeadRun.head_any (r := K06H.R) (q := K06H.qv) (H := K06H.hk) (ob := K06H.ob) (M := 20000) (loose := K06H.names) (d := HandSHeadRun.topDef K06H.R.prog 35) (kwd := []) K06H.ob_eq
    (by kernel_rfl) (fun s => by kernel_rfl) K06H.run (by kernel_rfl) (by kernel_rfl) (by kernel_rfl) (by rfl) (by first | assumption | decide +kernel) (by decide +kernel) ⟨rfl, rfl, rfl, rfl, rfl, by decide +kernel⟩ ?hw ?hc
  case hw => w_witness2
  case hc =>
    refine VM.walk_G (l := PySem.Challenge.rw_keptclauses_k06_whole_what_rows_end_with) (n := 63) (k := K06.lvl + 3) (x := "_law_script") (RX := fun K => VM.RXc K K06H.tb.kn) (f := VM.run K06.fs K06.fuel (fun _ => none) K06.lvl 27) rfl (by decide) (by kernel_rfl) ⟨rfl, by decide, by decide⟩ ?F K06.plain
    intro w mg fa h Y G hmg0
    obtain ⟨K, KX, c⟩ := Y
    have hmg : mg ("law" : PySem.Str) = some (.ref fa) := by
      have e : (HandSHeadRun.topDef K06H.R.prog 35).name = ("law" : PySem.Str) := by kernel_rfl
      rw [← e]
      exact hmg0
    obtain ⟨fd, D⟩ := K06H.ok27 KX G c
    have e2 := hmg.symm.trans D.glo
    cases e2
    have bind := L2.FunD.bindsA (ps := ["_law_script"]) D.F fun _ _ _ _ _ _ us hl => (match us, hl with | [_], _ => rfl)
    refine ⟨K, fd, KX, fun s u => bind s [u] rfl, fun base bK bG => VM.run_ok (K06H.txt bK bG c) K06.lvl 27 K06.f27 _ _ fd _ _ rfl D⟩
