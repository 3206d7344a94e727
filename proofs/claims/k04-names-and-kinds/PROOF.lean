import PyProof.Rows.All
import Wide.All
import OpenK.AllK
import Wide.FinOn
import HandS.ForMost
import HandS.ForExc
import HandS.Wide
import HandS.Deep
import HandS.IsInst
import HandS.Text
import HandS.SortInts
import HandS.SetFor
import HandS.Style
import HandS.Conv
import HandS.Iter
import HandS.Zip
import HandS.HeadHook2
import HandS.HeadEnd
import HandS.Head2
import PySem.Challenge.RW_farthestcut_k04_names_and_kinds
set_option Elab.async false
set_option linter.all false
section
/-! The plain language: values, terms, what they come to. No heap. -/
namespace Fc
open PySem L2

/-- a value as data -/
inductive D where
  | non | bl (b : Bool) | int (i : Int) | str (s : Str)
  | tup (xs : List D) | lst (xs : List D) | dic (ks : List Key) (vs : List D)
  | exc (c : Nat) (ns : List Str) (vs : List D)
  | obj (c : Nat) (ns : List Str) (vs : List D)
  deriving Inhabited

inductive Op where | add | sub | mul | fdiv | mod | pow | band | shr
  deriving DecidableEq
inductive Cp where | eq | ne | lt | le | gt | ge | isn | nn | mem | nmem
  deriving DecidableEq
inductive Bf where | len | abs | int | str | bool | list | tuple | dict | sorted | min | max | sum | any | all | repr
  deriving DecidableEq
inductive Mf where | join | split | partition | isdigit | index | count | get
  deriving DecidableEq
inductive Ty where | int | bool | str | list | tuple | dict | vErr | cls (c : Nat)
  deriving DecidableEq
inductive Ik where | of | range | enum | zip | items | values
  deriving DecidableEq
inductive Mu where | append | pop | clear | remove | reverse
  deriving DecidableEq
inductive Tg where
  | nm (i : Nat)
  | tp (ts : List Tg)

mutual
inductive E where
  | var (i : Nat) | con (d : D) | bin (o : Op) (a b : E) | neg (a : E)
  | and (a b : E) | or (a b : E) | not (a : E)
  | cmp (o : Cp) (a b : E) | chain (o o' : Cp) (a b c : E) | ife (c : T) (a b : E)
  | tup (es : List E) | lst (es : List E) | dic (ks : List Key) (vs : List E)
  | idx (a i : E) | slc (fl fh : Bool) (a lo hi : E)
  | fld (a : E) (f : Str)
  | call (f : Nat) (es : List E) (wb : List Nat)
  | blt (b : Bf) (es : List E) | mth (m : Mf) (a : E) (es : List E) | isi (a : E) (ts : List Ty)
  | lc (elt : E) (tg : Tg) (k : Ik) (src : List E) (cs : List T) (own : List Nat)
  | fst (es : List E)
  | mut (i : Nat) (path : List E) (m : Mu) (es : List E)
  | rep (a n : E) | rev (a : E)
/-- a test -/
inductive T where
  | val (e : E) | and (a b : T) | or (a b : T) | not (a : T) | ife (c a b : T)
end

inductive S where
  | ex (e : E) | asg (t : Tg) (e : E) | par (ts : List Nat) (es : List E)
  | aug (i : Nat) (o : Op) (e : E)
  | seti (i : Nat) (path : List E) (ix e : E)
  | augi (i : Nat) (path : List E) (ix : E) (o : Op) (e : E)
  | ret (e : E) | rse (c : Nat) (ns : List Str) (es : List E)
  | ife (c : T) (a b : List S) | whl (c : T) (b : List S)
  | loop (tg : Tg) (k : Ik) (src : List E) (b : List S)
  | tryx (b : List S) (t : Ty) (i : Option Nat) (h : List S)
  | pass

abbrev Env := List (Option D)

inductive Out (α : Type) where
  | ok (a : α) (env : Env)
  | exn (e : D) (env : Env)
  | err
inductive FRes where
  | ok (r : D) (ios : List D)
  | exn (e : D) (ios : List D)
  | err
inductive SO where
  | nx (env : Env)
  | rt (d : D) (env : Env)
  | exn (e : D) (env : Env)
  | err

@[inline] def Out.bind {α β : Type} (x : Out α) (f : α → Env → Out β) : Out β :=
  match x with
  | .ok a env => f a env
  | .exn e env => .exn e env
  | .err => .err
/-- a value that may be none -/
def Out.of {α : Type} (o : Option α) (env : Env) : Out α :=
  match o with
  | some a => .ok a env
  | none => .err

/-! ### operations on values -/
def D.imm : D → Bool
  | .non => true | .bl _ => true | .int _ => true | .str _ => true
  | .tup ds => imms ds
  | _ => false
where imms : List D → Bool
  | [] => true
  | d :: ds => d.imm && imms ds

def mulOk (a b : Int) : Bool := decide (a.natAbs.log2 + b.natAbs.log2 < 1000000)
def divOk (b : Int) : Bool := decide (b ≠ 0) && decide (b.natAbs.log2 < 9000)
def lenOk (n : Nat) : Bool := decide (n ≤ sizeLine)
def lenLt (n : Nat) : Bool := decide (n < sizeLine)
def powOk (a b : Int) : Bool := decide (0 ≤ b ∧ b ≤ 1000000 ∧ a.natAbs < 2 ^ 64)

def binD : Op → D → D → Option D
  | .add, .int a, .int b => some (.int (a + b))
  | .add, .str a, .str b => if lenOk (a.length + b.length) then some (.str (a ++ b)) else none
  | .add, .lst a, .lst b => if lenOk (a.length + b.length) then some (.lst (a ++ b)) else none
  | .add, .tup a, .tup b => if !a.isEmpty && !b.isEmpty && lenOk (a.length + b.length) then some (.tup (a ++ b)) else none
  | .sub, .int a, .int b => some (.int (a - b))
  | .mul, .int a, .int b => if mulOk a b then some (.int (a * b)) else none
  | .fdiv, .int a, .int b => if divOk b then some (.int (a.fdiv b)) else none
  | .mod, .int a, .int b => if decide (b ≠ 0) then some (.int (a.fmod b)) else none
  | .pow, .int a, .int b => if powOk a b then some (.int (a ^ b.toNat)) else none
  | _, _, _ => none

mutual
def D.toP : D → Option PyData
  | .non => some .none
  | .bl b => some (.bool b)
  | .int i => some (.int i)
  | .str s => some (.str s)
  | .tup ds => (toPs ds).map .tuple
  | .lst ds => (toPs ds).map .list
  | _ => none
def toPs : List D → Option (List PyData)
  | [] => some []
  | d :: ds => match d.toP, toPs ds with
    | some p, some ps => some (p :: ps)
    | _, _ => none
end
def eqD (a b : D) : Option Bool :=
  match a.toP, b.toP with
  | some p, some q => if SeqAt.shaped p && SeqAt.shaped q then some (PyData.eqv p q) else none
  | _, _ => none

def D.flat : D → Bool
  | .non => true | .bl _ => true | .int _ => true | .str _ => true
  | _ => false
/-- == of flat values -/
def eqF : D → D → Bool
  | .non, .non => true
  | .bl a, .bl b => a == b
  | .bl a, .int b => (if a then 1 else 0) == b
  | .int a, .bl b => a == (if b then 1 else 0)
  | .int a, .int b => a == b
  | .str a, .str b => a == b
  | _, _ => false
def inF (x : D) (xs : List D) : Bool := xs.any fun y => eqF y x
/-- .. of values that may hold values -/
def memP (x : D) (xs : List D) : Option Bool :=
  match x.toP, toPs xs with
  | some p, some ps => if SeqAt.shaped p && SeqAt.shaped (.list ps) then some (ps.any fun z => PyData.eqv z p) else none
  | _, _ => none
def memD (x y : D) : Option Bool :=
  match y with
  | .lst xs => if x.flat && xs.all D.flat then some (inF x xs) else memP x xs
  | .tup xs => if x.flat && xs.all D.flat then some (inF x xs) else none
  | .str t => match x with
    | .str s => some (!(Builtin.Str.occurrences t s 0 t.length 1).isEmpty)
    | _ => none
  | _ => none
def isNonD : D → Bool
  | .non => true
  | _ => false
def cmpD : Cp → D → D → Option Bool
  | .eq, a, b => eqD a b
  | .ne, a, b => (eqD a b).map (!·)
  | .lt, .int a, .int b => some (decide (a < b))
  | .le, .int a, .int b => some (decide (a ≤ b))
  | .gt, .int a, .int b => some (decide (b < a))
  | .ge, .int a, .int b => some (decide (b ≤ a))
  | .isn, a, .non => some (isNonD a)
  | .nn, a, .non => some (!isNonD a)
  | .mem, a, b => memD a b
  | .nmem, a, b => (memD a b).map (!·)
  | _, _, _ => none

/-- truth -/
def truD : D → Option Bool
  | .non => some false
  | .bl b => some b
  | .int i => some (i != 0)
  | .str s => if lenOk s.length then some ((s.length : Int) != 0) else none
  | .tup xs => some (!xs.isEmpty)
  | .lst xs => some (!xs.isEmpty)
  | _ => none

/-- an item by an index of any sign -/
def atD {α : Type} (xs : List α) (i : Int) : Option α := atI xs i
def idxD : D → D → Option D
  | .lst xs, .int i => atI xs i
  | .tup xs, .int i => atI xs i
  | .str s, .int i => if lenOk s.length then (atI s.cps.toList i).map fun c => .str ⟨#[c]⟩ else none
  | _, _ => none
def cutD {α : Type} (xs : List α) (lo hi : Option Int) : List α := (xs.drop (HT.sIx xs.length 0 lo)).take (HT.sIx xs.length xs.length hi - HT.sIx xs.length 0 lo)
def partD (f : Bool) (d : D) : Option (Option Int) :=
  if f then (match d with | .int i => some (some i) | _ => none) else some none
def slcD (d : D) (lo hi : Option Int) : Option D :=
  match d with
  | .lst xs => some (.lst (cutD xs lo hi))
  | .tup xs => if HT.sIx xs.length 0 lo = 0 ∧ HT.sIx xs.length xs.length hi = xs.length then none else some (.tup (cutD xs lo hi))
  | .str s => if lenOk s.length then some (.str (cutS s lo hi)) else none
  | _ => none
def fldD : D → Str → Option D
  | .exc _ ns vs, f => (ns.zip vs).lookup f
  | .obj _ ns vs, f => (ns.zip vs).lookup f
  | _, _ => none
def keyD : Key → D
  | .inl i => .int i
  | .inr s => .str s

def lenD : D → Option Nat
  | .str s => if lenOk s.length then some s.length else none
  | .tup xs => some xs.length
  | .lst xs => some xs.length
  | _ => none
def getInts : List D → Option (List Int)
  | [] => some []
  | .int i :: ds => (getInts ds).map (i :: ·)
  | _ :: _ => none
def getBls : List D → Option (List Bool)
  | [] => some []
  | .bl i :: ds => (getBls ds).map (i :: ·)
  | _ :: _ => none
def bltD : Bf → List D → Option D
  | .len, [d] => (lenD d).map fun n => .int n
  | .abs, [.int i] => some (.int (if i < 0 then -i else i))
  | .max, [.int i, .int j] => some (.int (if j > i then j else i))
  | .min, [.int i, .int j] => some (.int (if j < i then j else i))
  | .int, [.int i] => some (.int i)
  | .int, [.bl b] => some (.int (if b then 1 else 0))
  | .list, [.lst xs] => some (.lst xs)
  | .list, [.tup xs] => some (.lst xs)
  | .tuple, [.lst xs] => some (.tup xs)
  | .tuple, [.tup xs] => some (.tup xs)
  | .sorted, [.lst xs] => (getInts xs).map fun ns => .lst ((ns.mergeSort fun a b => decide (a ≤ b)).map .int)
  | .sum, [.lst xs] => (getInts xs).map fun ns => .int ns.sum
  | .any, [.lst xs] => (getBls xs).map fun bs => .bl (bs.any id)
  | .all, [.lst xs] => (getBls xs).map fun bs => .bl (bs.all id)
  | _, _ => none
def strsD : List D → Option (List Str)
  | [] => some []
  | .str s :: ds => (strsD ds).map (s :: ·)
  | _ :: _ => none
def joinLen (a : Str) (ys : List Str) : Nat := (ys.map (·.length)).sum + a.length * ys.length
/-- where x stands first among flat things -/
def posF (x : D) : List D → Option Nat
  | [] => none
  | y :: ys => if eqF y x then some 0 else (posF x ys).map (· + 1)
def cntF (x : D) (ys : List D) : Nat := (ys.filter fun y => eqF y x).length
def mthD : Mf → D → List D → Option D
  | .join, .str a, [.lst ds] => match strsD ds with
    | some ys => if decide ((ys.map (·.length)).sum + ys.length * a.length ≤ 16777216) then some (.str (Txt.join a ys)) else none
    | none => none
  | .split, .str a, [.str b] => if !(b.length == 0) && decide (a.length + 2 ≤ sizeLine) then some (.lst ((Txt.split a b).map .str)) else none
  | .partition, .str a, [.str b] => if !(b.length == 0) && lenOk a.length then some (.tup [.str (Txt.partition a b).1, .str (Txt.partition a b).2.1, .str (Txt.partition a b).2.2]) else none
  | .isdigit, .str a, [] => some (.bl (Txt.isdigit a))
  | .index, .lst xs, [y] => if y.flat && xs.all D.flat then (posF y xs).map fun (j : Nat) => .int (j : Int) else none
  | .count, .lst xs, [y] => if y.flat && xs.all D.flat then some (.int (cntF y xs : Nat)) else none
  | _, _, _ => none
/-- what a method wants -/
def mthT (m : Mf) (d : D) : Bool :=
  match m with
  | .join => (match d with | .str _ => true | _ => false)
  | .split => (match d with | .str _ => true | _ => false)
  | .partition => (match d with | .str _ => true | _ => false)
  | .isdigit => (match d with | .str _ => true | _ => false)
  | .index => (match d with | .lst _ => true | _ => false)
  | .count => (match d with | .lst _ => true | _ => false)
  | .get => false
def repD : D → D → Option D
  | .lst xs, .int k => if decide (-(2 ^ 63) ≤ k ∧ k < 2 ^ 63 ∧ xs.length * k.toNat ≤ sizeLine) then some (.lst (List.replicate k.toNat xs).flatten) else none
  | _, _ => none
def revD : D → Option D
  | .lst xs => some (.lst xs.reverse)
  | _ => none

/-- exceptions' classes: parents -/
structure Cls where
  sup : Nat → Nat → Bool    -- class a is b or under it
def isiT (C : Nat → Nat → Bool) (d : D) : Ty → Bool
  | .int => match d with | .int _ => true | .bl _ => true | _ => false
  | .bool => match d with | .bl _ => true | _ => false
  | .str => match d with | .str _ => true | _ => false
  | .list => match d with | .lst _ => true | _ => false
  | .tuple => match d with | .tup _ => true | _ => false
  | .dict => match d with | .dic _ _ => true | _ => false
  | .vErr => match d with | .exc _ _ _ => true | _ => false
  | .cls c => match d with | .exc e _ _ => C e c | .obj e _ _ => C e c | _ => false

def tyPlain : Ty → Bool
  | .vErr => false | .cls _ => false
  | _ => true
def dPlain : D → Bool
  | .exc _ _ _ => false | .obj _ _ _ => false
  | _ => true
/-- isinstance -/
def isiD (C : Nat → Nat → Bool) (d : D) (ts : List Ty) : Option D :=
  if dPlain d && ts.all tyPlain then some (.bl (ts.any (isiT C d))) else none
def itemsD : Ik → List D → Option (List D)
  | .of, [.lst xs] => some xs
  | .of, [.tup xs] => some xs
  | .of, [.str s] => some (s.cps.toList.map fun c => .str ⟨#[c]⟩)
  | .range, [.int n] => if decide (n < 2 ^ 62 ∧ -(2 ^ 62) ≤ n) then some ((List.range n.toNat).map fun (k : Nat) => D.int (k : Int)) else none
  | .range, [.int a, .int b] => if decide (b < 2 ^ 62 ∧ -(2 ^ 62) ≤ b ∧ a < 2 ^ 62 ∧ -(2 ^ 62) ≤ a) then some ((List.range (b - a).toNat).map fun (k : Nat) => D.int (a + (k : Int))) else none
  | .enum, [.lst xs] => some (xs.zipIdx.map fun p => .tup [.int p.2, p.1])
  | .zip, [.lst xs, .lst ys] => some ((xs.zip ys).map fun p => .tup [p.1, p.2])
  | _, _ => none

/-- a value handed to a target -/
def asgT : Tg → D → Env → Option Env
  | .nm i, d, env => some (env.set i (some d))
  | .tp ts, .tup ds, env => if ts.length = ds.length then asgTs ts ds env else none
  | .tp ts, .lst ds, env => if ts.length = ds.length then asgTs ts ds env else none
  | _, _, _ => none
where asgTs : List Tg → List D → Env → Option Env
  | [], [], env => some env
  | t :: ts, d :: ds, env => match asgT t d env with
    | some env' => asgTs ts ds env'
    | none => none
  | _, _, _ => none

/-- a change of a list or dict -/
def mutD : Mu → D → List D → Option (D × D)
  | .append, .lst xs, [d] => if lenLt xs.length then some (.non, .lst (xs ++ [d])) else none
  | .pop, .lst xs, [] => match xs[xs.length - 1]? with
    | some y => some (y, .lst xs.dropLast)
    | none => none
  | .pop, .lst xs, [.int i] => if decide (-(2 ^ 63) ≤ i ∧ i < 2 ^ 63) then (match seqIndex? i xs.length with
      | some k => (match xs[k]? with | some y => some (y, .lst (xs.eraseIdx k)) | none => none)
      | none => none) else none
  | .clear, .lst _, [] => some (.non, .lst [])
  | .reverse, .lst xs, [] => some (.non, .lst xs.reverse)
  | _, _, _ => none
/-- .. within a value, by a path of indices -/
def pathD : List D → D → (D → Option (D × D)) → Option (D × D)
  | [], d, f => f d
  | .int i :: ps, .lst xs, f => match ixN xs.length i with
    | some k => match xs[k]? with
      | some x => (pathD ps x f).map fun q => (q.1, .lst (xs.set k q.2))
      | none => none
    | none => none
  | .int i :: ps, .tup xs, f => match ixN xs.length i with
    | some k => match xs[k]? with
      | some x => (pathD ps x f).map fun q => (q.1, .tup (xs.set k q.2))
      | none => none
    | none => none
  | _, _, _ => none
def setD (ix v : D) : D → Option (D × D)
  | .lst xs => match ix with
    | .int i => (ixN xs.length i).map fun k => (.non, .lst (xs.set k v))
    | _ => none
  | _ => none
def augD (o : Op) (ix v : D) (d : D) : Option (D × D) :=
  match idxD d ix with
  | some x => match binD o x v with
    | some y => setD ix y d
    | none => none
  | none => none
def slotD (env : Env) (i : Nat) : Option D :=
  match env[i]? with
  | some (some d) => some d
  | _ => none
def wbk : Env → List Nat → List D → Env
  | env, i :: is, d :: ds => wbk (env.set i (some d)) is ds
  | env, _, _ => env
def wipeE : Env → List Nat → Env
  | env, [] => env
  | env, v :: vs => (wipeE env vs).set v none
/-- the slots vs as they were in old -/
def backE (env old : Env) : List Nat → Env
  | [] => env
  | v :: vs => (backE env old vs).set v (old[v]?.getD none)

/-! ### what a term comes to -/
structure Gam where
  call : Nat → List D → FRes
  sup : Nat → Nat → Bool
  fuel : Nat

/-- a comprehension's turns: items left, what is made -/
def lcL (turn : D → Env → Out (Option D)) : List D → List D → Env → Out D
  | [], acc, env => .ok (.lst acc) env
  | d :: ds, acc, env => (turn d env).bind fun o env' => match o with
    | some y => if lenLt acc.length then lcL turn ds (acc ++ [y]) env' else .err
    | none => lcL turn ds acc env'
/-- a thing that a method may be asked of -/
def whenK {α : Type} (b : Bool) (f : Out α) : Out α := match b with
  | true => f
  | false => .err
def noExn {α : Type} : Out α → Out α
  | .exn _ _ => .err
  | o => o

def negD : D → Option D
  | .int i => some (.int (-i))
  | _ => none
def notD : D → Option D
  | .bl b => some (.bl (!b))
  | _ => none
def blD (o : Option Bool) : Option D := o.map D.bl
/-- ways that part by a value -/
def andK (x : D) (env : Env) (k : Env → Out D) : Out D :=
  match x with
  | .bl true => k env
  | .bl false => .ok (.bl false) env
  | _ => .err
def orK (x : D) (env : Env) (k : Env → Out D) : Out D :=
  match x with
  | .bl true => .ok (.bl true) env
  | .bl false => k env
  | _ => .err
def chainK (o : Option Bool) (env : Env) (k : Env → Out D) : Out D :=
  match o with
  | some true => k env
  | some false => .ok (.bl false) env
  | none => .err
def iteK {α : Type} (b : Bool) (env : Env) (k k' : Env → Out α) : Out α :=
  match b with
  | true => k env
  | false => k' env
def lenK (f : List D → D) (ds : List D) (env : Env) : Out D := if lenOk ds.length then .ok (f ds) env else .err
def callK (r : FRes) (wb : List Nat) (env : Env) : Out D :=
  match r with
  | .ok r ios => .ok r (wbk env wb ios)
  | .exn e ios => .exn e (wbk env wb ios)
  | .err => .err
def lcTurn (tg : Tg) (own : List Nat) (d : D) (env : Env) (k : Env → Out (Option D)) : Out (Option D) :=
  match asgT tg d (wipeE env own) with
  | some env2 => noExn (k env2)
  | none => .err
def lcEnd (own : List Nat) (env1 : Env) (o : Out D) : Out D :=
  match o with
  | .ok d env' => .ok d (backE env' env1 own)
  | _ => .err
def itemsK {α : Type} (o : Option (List D)) (k : List D → Out α) : Out α :=
  match o with
  | some xs => k xs
  | none => .err
def mutK (env : Env) (i : Nat) (ps : List D) (f : D → Option (D × D)) : Out D :=
  match slotD env i with
  | some d => match pathD ps d f with
    | some (r, d') => .ok r (env.set i (some d'))
    | none => .err
  | none => .err
/-- a list is 1, a dict 2 -/
def kindD : D → Nat
  | .lst _ => 1
  | .dic _ _ => 2
  | _ => 0
def kindAt (env : Env) (i : Nat) : Option Nat := (slotD env i).bind fun d => if kindD d = 1 then some 1 else none
def sameK (q : Nat) (env : Env) (i : Nat) (o : Out D) : Out D := if kindAt env i = some q then o else .err

set_option maxHeartbeats 4000000
mutual
def evE (Γ : Gam) : E → Env → Out D
  | .var i, env => .of (slotD env i) env
  | .con d, env => .ok d env
  | .bin o a b, env => (evE Γ a env).bind fun x env1 => (evE Γ b env1).bind fun y env2 => .of (binD o x y) env2
  | .neg a, env => (evE Γ a env).bind fun x env1 => .of (negD x) env1
  | .and a b, env => (evE Γ a env).bind fun x env1 => andK x env1 (evE Γ b)
  | .or a b, env => (evE Γ a env).bind fun x env1 => orK x env1 (evE Γ b)
  | .not a, env => (evE Γ a env).bind fun x env1 => .of (notD x) env1
  | .cmp o a b, env => (evE Γ a env).bind fun x env1 => (evE Γ b env1).bind fun y env2 => .of (blD (cmpD o x y)) env2
  | .chain o o' a b c, env => (evE Γ a env).bind fun x env1 => (evE Γ b env1).bind fun y env2 => chainK (cmpD o x y) env2 fun env2 =>
      (evE Γ c env2).bind fun z env3 => .of (blD (cmpD o' y z)) env3
  | .ife c a b, env => (evT Γ c env).bind fun t env1 => iteK t env1 (evE Γ a) (evE Γ b)
  | .tup es, env => (evEs Γ es env).bind (lenK D.tup)
  | .lst es, env => (evEs Γ es env).bind (lenK D.lst)
  | .dic ks es, env => (evEs Γ es env).bind fun ds env1 => .ok (.dic ks ds) env1
  | .idx a i, env => (evE Γ a env).bind fun x env1 => (evE Γ i env1).bind fun y env2 => .of (idxD x y) env2
  | .slc fl fh a lo hi, env => (evE Γ a env).bind fun x env1 => ((evE Γ lo env1).bind fun l env2 => .of (partD fl l) env2).bind fun l env2 => ((evE Γ hi env2).bind fun h env3 => .of (partD fh h) env3).bind fun h env3 => .of (slcD x l h) env3
  | .fld a f, env => (evE Γ a env).bind fun x env1 => .of (fldD x f) env1
  | .call f es wb, env => (evEs Γ es env).bind fun ds env1 => callK (Γ.call f ds) wb env1
  | .blt b es, env => (evEs Γ es env).bind fun ds env1 => .of (bltD b ds) env1
  | .mth m a es, env => (evE Γ a env).bind fun x env1 => whenK (mthT m x) ((evEs Γ es env1).bind fun ds env2 => .of (mthD m x ds) env2)
  | .isi a ts, env => (evE Γ a env).bind fun x env1 => .of (isiD Γ.sup x ts) env1
  | .lc elt tg k src cs own, env => (evEs Γ src env).bind fun ds env1 => itemsK (itemsD k ds) fun xs =>
      lcEnd own env1 (lcL (fun d env' => lcTurn tg own d env' fun env2 => (evTs Γ cs env2).bind fun t env3 =>
        iteK t env3 (fun env3 => (evE Γ elt env3).bind fun y env4 => .ok (some y) env4) (fun env3 => .ok none env3)) xs [] env1)
  | .fst es, env => (evEs Γ es env).bind fun ds env1 => .err
  | .rep a n, env => (evE Γ a env).bind fun x env1 => (evE Γ n env1).bind fun y env2 => .of (repD x y) env2
  | .rev a, env => (evE Γ a env).bind fun x env1 => .of (revD x) env1
  | .mut i path m es, env => (Out.of (kindAt env i) env).bind fun q env0 => (evEs Γ path env0).bind fun ps env1 => (evEs Γ es env1).bind fun ds env2 => sameK q env2 i (mutK env2 i ps fun x => mutD m x ds)
def evEs (Γ : Gam) : List E → Env → Out (List D)
  | [], env => .ok [] env
  | e :: es, env => (evE Γ e env).bind fun x env1 => (evEs Γ es env1).bind fun xs env2 => .ok (x :: xs) env2
/-- as a test -/
def evT (Γ : Gam) : T → Env → Out Bool
  | .val e, env => (evE Γ e env).bind fun x env1 => .of (truD x) env1
  | .and a b, env => (evT Γ a env).bind fun x env1 => iteK x env1 (evT Γ b) (.ok false)
  | .or a b, env => (evT Γ a env).bind fun x env1 => iteK x env1 (.ok true) (evT Γ b)
  | .not a, env => (evT Γ a env).bind fun x env1 => .ok (!x) env1
  | .ife c a b, env => (evT Γ c env).bind fun t env1 => iteK t env1 (evT Γ a) (evT Γ b)
def evTs (Γ : Gam) : List T → Env → Out Bool
  | [], env => .ok true env
  | e :: es, env => (evT Γ e env).bind fun x env1 => iteK x env1 (evTs Γ es) (.ok false)
end
/-! ### statements -/
def SO.after {α : Type} (o : Out α) (f : α → Env → SO) : SO :=
  match o with
  | .ok a env => f a env
  | .exn e env => .exn e env
  | .err => .err
def SO.seq (o : SO) (f : Env → SO) : SO :=
  match o with
  | .nx env => f env
  | o => o
def SO.of (o : Option Env) : SO :=
  match o with
  | some env => .nx env
  | none => .err
def oK {α : Type} (o : Option α) (f : α → SO) : SO :=
  match o with
  | some a => f a
  | none => .err
def iteS (b : Bool) (env : Env) (k k' : Env → SO) : SO :=
  match b with
  | true => k env
  | false => k' env
def whlL (test : Env → Out Bool) (turn : Env → SO) : Nat → Env → SO
  | 0, _ => .err
  | n + 1, env => .after (test env) fun b env1 => iteS b env1 (fun env1 => (turn env1).seq (whlL test turn n)) .nx
def forL (turn : D → Env → SO) : List D → Env → SO
  | [], env => .nx env
  | d :: ds, env => (turn d env).seq (forL turn ds)
def setK (env : Env) (i : Nat) (ps : List D) (f : D → Option (D × D)) : SO :=
  match mutK env i ps f with
  | .ok _ env' => .nx env'
  | _ => .err
def outS (i : Nat) : SO → SO
  | .nx env => .nx (env.set i none)
  | .rt d env => .rt d (env.set i none)
  | .exn e env => .exn e env
  | .err => .err
def tryK (sup : Nat → Nat → Bool) (o : SO) (t : Ty) (h : D → Env → SO) : SO :=
  match o with
  | .exn e env => if isiT sup e t then h e env else .exn e env
  | o => o
/-- name op= e: ints alone -/
def augB : Op → D → D → Option D
  | .add, .int a, .int b => some (.int (a + b))
  | .sub, .int a, .int b => some (.int (a - b))
  | _, _, _ => none
mutual
def exS (Γ : Gam) : S → Env → SO
  | .ex e, env => .after (evE Γ e env) fun _ env1 => .nx env1
  | .asg t e, env => .after (evE Γ e env) fun d env1 => .of (asgT t d env1)
  | .par ts es, env => .after (evEs Γ es env) fun ds env1 => if ts.length = ds.length then .nx (wbk env1 ts ds) else .err
  | .aug i o e, env => oK (slotD env i) fun x => .after (evE Γ e env) fun y env1 => oK (augB o x y) fun z => .nx (env1.set i (some z))
  | .seti i path ix e, env => .after (evE Γ e env) fun v env1 => oK (slotD env1 i) fun _ => .after (evEs Γ path env1) fun ps env2 => .after (evE Γ ix env2) fun k env3 => setK env3 i ps (setD k v)
  | .augi i path ix o e, env => .after (evEs Γ path env) fun ps env1 => .after (evE Γ ix env1) fun k env2 => .after (evE Γ e env2) fun v env3 => setK env3 i ps (augD o k v)
  | .ret e, env => .after (evE Γ e env) fun d env1 => .rt d env1
  | .rse c ns es, env => .after (evEs Γ es env) fun ds env1 => .exn (.exc c ns (ds.take ns.length)) env1
  | .ife c a b, env => .after (evT Γ c env) fun t env1 => iteS t env1 (exSs Γ a) (exSs Γ b)
  | .whl c b, env => whlL (evT Γ c) (exSs Γ b) Γ.fuel env
  | .loop tg k src b, env => .after (evEs Γ src env) fun ds env1 => oK (itemsD k ds) fun xs => forL (fun d env' => (SO.of (asgT tg d env')).seq (exSs Γ b)) xs env1
  | .tryx b t i h, env => tryK Γ.sup (exSs Γ b env) t fun e env1 => match i with
    | some i => outS i (exSs Γ h (env1.set i (some e)))
    | none => exSs Γ h env1
  | .pass, env => .nx env
def exSs (Γ : Gam) : List S → Env → SO
  | [], env => .nx env
  | s :: ss, env => (exS Γ s env).seq (exSs Γ ss)
end
/-- a def: its number of slots, which parameters are handed back -/
structure Fn where
  np : Nat
  ns : Nat
  io : List Nat
  imm : Bool
  body : List S
def iosD (env : Env) : List Nat → Option (List D)
  | [] => some []
  | i :: is => match slotD env i, iosD env is with
    | some d, some ds => some (d :: ds)
    | _, _ => none
def retD (imm : Bool) (d : D) (o : Option (List D)) : FRes :=
  match o with
  | some ios => if imm && !d.imm then .err else .ok d ios
  | none => .err
def exnD (e : D) (o : Option (List D)) : FRes :=
  match o with
  | some ios => .exn e ios
  | none => .err
def endF (f : Fn) (o : SO) : FRes :=
  match o with
  | .nx env => retD f.imm .non (iosD env f.io)
  | .rt d env => retD f.imm d (iosD env f.io)
  | .exn e env => exnD e (iosD env f.io)
  | .err => .err
def runF (Γ : Gam) (f : Fn) (ds : List D) : FRes :=
  if ds.length = f.np then endF f (exSs Γ f.body (ds.map some ++ List.replicate (f.ns - f.np) none)) else .err
/-- the defs of a text, by their numbers, to a depth -/
def callN (fs : Nat → Option Fn) (sup : Nat → Nat → Bool) (fuel : Nat) : Nat → Nat → List D → FRes
  | 0, _, _ => .err
  | n + 1, f, ds => match fs f with
    | some fn => runF ⟨callN fs sup fuel n, sup, fuel⟩ fn ds
    | none => .err
end Fc
end

section
set_option maxRecDepth 100000
/-! Stepping by what is wanted behind. -/
namespace Fc
open PySem L2

/-- a wish that a rewriting does not enter -/
class Kk (φ : Type) where
  f : φ
abbrev KE := Kk (Env → Prop)
abbrev KD := Kk (D → Prop)
abbrev KB := Kk (Bool → Prop)
abbrev KQ := Kk (D → Env → Prop)
def wpO {α : Type} (o : Out α) (Q : α → Env → Prop) (X : D → Env → Prop) : Prop :=
  match o with | .ok a e => Q a e | .exn x e => X x e | .err => False
def wpS (o : SO) (N : Env → Prop) (R X : D → Env → Prop) : Prop :=
  match o with | .nx e => N e | .rt d e => R d e | .exn x e => X x e | .err => False
def wpF (r : FRes) [Q : Kk (D → List D → Prop)] [X : Kk (D → List D → Prop)] : Prop :=
  match r with | .ok d i => Q.f d i | .exn x i => X.f x i | .err => False
def wpD {α : Type} (o : Option α) [Q : Kk (α → Prop)] : Prop := match o with | some a => Q.f a | none => False
def wGet (env : Env) (i : Nat) [Q : KD] : Prop := wpD (slotD env i)
def wSet (env : Env) (i : Nat) (o : Option D) [K : KE] : Prop := K.f (env.set i o)
def wE (Γ : Gam) (e : E) (env : Env) [Q : KQ] [X : KQ] : Prop := wpO (evE Γ e env) Q.f X.f
def wEs (Γ : Gam) (es : List E) (env : Env) [Q : Kk (List D → Env → Prop)] [X : KQ] : Prop := wpO (evEs Γ es env) Q.f X.f
def wT (Γ : Gam) (c : Fc.T) (env : Env) [Q : Kk (Bool → Env → Prop)] [X : KQ] : Prop := wpO (evT Γ c env) Q.f X.f
/-- a test that parts the way -/
def wIf (Γ : Gam) (c : Fc.T) (env : Env) [Y : KE] [N : KE] [X : KQ] : Prop := wpO (evT Γ c env) (fun b e => if b = true then Y.f e else N.f e) X.f
def wS (Γ : Gam) (s : S) (env : Env) [N : KE] [R : KQ] [X : KQ] : Prop := wpS (exS Γ s env) N.f R.f X.f
def wSs (Γ : Gam) (ss : List S) (env : Env) [N : KE] [R : KQ] [X : KQ] : Prop := wpS (exSs Γ ss env) N.f R.f X.f
def wAsg (t : Tg) (d : D) (env : Env) [K : KE] : Prop := wpD (asgT t d env)
def wAsgs (ts : List Tg) (ds : List D) (env : Env) [K : KE] : Prop := wpD (asgT.asgTs ts ds env)
def turnW (Γ : Gam) (tg : Tg) (b : List S) : D → Env → SO := fun d env' => (SO.of (asgT tg d env')).seq (exSs Γ b)
def wFor (Γ : Gam) (tg : Tg) (b : List S) (xs : List D) (env : Env) [N : KE] [R : KQ] [X : KQ] : Prop := wpS (forL (turnW Γ tg b) xs env) N.f R.f X.f
def wWhl (Γ : Gam) (c : Fc.T) (b : List S) (n : Nat) (env : Env) [N : KE] [R : KQ] [X : KQ] : Prop := wpS (whlL (evT Γ c) (exSs Γ b) n env) N.f R.f X.f
def wBin (o : Op) (x y : D) [Q : KD] : Prop := wpD (binD o x y)
def wCmp (o : Cp) (x y : D) [Q : KB] : Prop := wpD (cmpD o x y)
def wIdx (x y : D) [Q : KD] : Prop := wpD (idxD x y)
def wSlc (x : D) (l h : Option Int) [Q : KD] : Prop := wpD (slcD x l h)
def wBlt (b : Bf) (ds : List D) [Q : KD] : Prop := wpD (bltD b ds)
def wMth (m : Mf) (x : D) (ds : List D) [Q : KD] : Prop := wpD (mthD m x ds)
def wIsi (sup : Nat → Nat → Bool) (x : D) (ts : List Ty) [Q : KD] : Prop := wpD (isiD sup x ts)
def wTru (x : D) [Q : KB] : Prop := wpD (truD x)
def wItm (k : Ik) (ds : List D) [Q : Kk (List D → Prop)] : Prop := wpD (itemsD k ds)
def wRep (x y : D) [Q : KD] : Prop := wpD (repD x y)
/-- a truth, parted -/
def wBl (x : D) [Q : KB] : Prop := match x with | .bl b => Q.f b | _ => False
/-- a part of a slice -/
def wPart (f : Bool) (d : D) [Q : Kk (Option Int → Prop)] : Prop := wpD (partD f d)
def wBack (env : Env) (wb : List Nat) (ds : List D) [K : KE] : Prop := K.f (wbk env wb ds)
def wLc (Γ : Gam) (elt : E) (tg : Tg) (cs : List Fc.T) (own : List Nat) (xs : List D) (env : Env) [Q : KQ] : Prop :=
  wpO (lcEnd own env (lcL (fun d env' => lcTurn tg own d env' fun env2 => (evTs Γ cs env2).bind fun t env3 =>
        iteK t env3 (fun env3 => (evE Γ elt env3).bind fun y env4 => .ok (some y) env4) (fun env3 => .ok none env3)) xs [] env)) Q.f (fun _ _ => False)
/-- list.append's end -/
def wApp (x y : D) (env : Env) (i : Nat) [Q : KQ] : Prop := match x with
  | .lst xs => lenLt xs.length = true ∧ Q.f .non (env.set i (some (.lst (xs ++ [y]))))
  | _ => False
section
variable {Γ : Gam} {env e1 e2 : Env} {α β : Type} {N : KE} {R X : KQ} {Q : KQ}
theorem wpO_bind {o : Out α} {f : α → Env → Out β} {Q : β → Env → Prop} {X : D → Env → Prop} : wpO (o.bind f) Q X = wpO o (fun a e => wpO (f a e) Q X) X := by cases o <;> rfl
theorem wpO_of {o : Option α} {Q : α → Env → Prop} {X : D → Env → Prop} : wpO (Out.of o env) Q X = @wpD _ o ⟨fun a => Q a env⟩ := by cases o <;> rfl
theorem wpD_some {a : α} {Q : Kk (α → Prop)} : wpD (some a) = Q.f a := rfl
theorem wpD_none {Q : Kk (α → Prop)} : wpD (none : Option α) = False := rfl
theorem wpF_ok' {d : D} {i : List D} {Q X : Kk (D → List D → Prop)} : @wpF (.ok d i) Q X = Q.f d i := rfl
theorem wpF_exn' {d : D} {i : List D} {Q X : Kk (D → List D → Prop)} : @wpF (.exn d i) Q X = X.f d i := rfl
theorem wpF_ok {r : FRes} {d : D} {i : List D} {Q X : Kk (D → List D → Prop)} (h : r = .ok d i) : @wpF r Q X = Q.f d i := by rw [h]; rfl
theorem wpF_exn {r : FRes} {d : D} {i : List D} {Q X : Kk (D → List D → Prop)} (h : r = .exn d i) : @wpF r Q X = X.f d i := by rw [h]; rfl
theorem wGet_zero {d : D} {Q : KD} : wGet (some d :: env) 0 = Q.f d := rfl
theorem wGet_succ {o : Option D} {i : Nat} {Q : KD} : @wGet (o :: env) (i + 1) Q = @wGet env i Q := by
  unfold wGet slotD
  rw [List.getElem?_cons_succ]
theorem wSet_zero {o u : Option D} {K : KE} : wSet (u :: env) 0 o = K.f (o :: env) := rfl
theorem wSet_succ {o u : Option D} {i : Nat} {K : KE} : @wSet (u :: env) (i + 1) o K = @wSet env i o ⟨fun ys => K.f (u :: ys)⟩ := rfl
/-! expressions -/
theorem wE_var {i : Nat} : @wE Γ (.var i) env Q X = @wGet env i ⟨fun d => Q.f d env⟩ := by show wpO (Out.of _ _) _ _ = _; rw [wpO_of]; rfl
theorem wE_con {d : D} : @wE Γ (.con d) env Q X = Q.f d env := rfl
theorem wE_bin {o : Op} {a b : E} : @wE Γ (.bin o a b) env Q X = @wE Γ a env ⟨fun x e1 => @wE Γ b e1 ⟨fun y e2 => @wBin o x y ⟨fun z => Q.f z e2⟩⟩ X⟩ X := by
  show wpO (Out.bind _ _) _ _ = _
  simp only [wpO_bind, wpO_of]
  rfl
theorem wE_neg {a : E} : @wE Γ (.neg a) env Q X = @wE Γ a env ⟨fun x e1 => @wpD _ (negD x) ⟨fun z => Q.f z e1⟩⟩ X := by
  show wpO (Out.bind _ _) _ _ = _
  simp only [wpO_bind, wpO_of]
  rfl
theorem wE_not {a : E} : @wE Γ (.not a) env Q X = @wE Γ a env ⟨fun x e1 => @wpD _ (notD x) ⟨fun z => Q.f z e1⟩⟩ X := by
  show wpO (Out.bind _ _) _ _ = _
  simp only [wpO_bind, wpO_of]
  rfl
theorem wBl_bl {b : Bool} {Q : KB} : wBl (.bl b) = Q.f b := rfl
theorem wE_and {a b : E} : @wE Γ (.and a b) env Q X = @wE Γ a env ⟨fun x e1 => @wBl x ⟨fun t => if t = true then @wE Γ b e1 Q X else Q.f (.bl false) e1⟩⟩ X := by
  show wpO (Out.bind _ _) _ _ = _
  rw [wpO_bind]
  show wpO _ _ _ = wpO _ _ _
  congr 1; funext x e1
  cases x with
  | bl b => cases b <;> rfl
  | _ => rfl
theorem wE_or {a b : E} : @wE Γ (.or a b) env Q X = @wE Γ a env ⟨fun x e1 => @wBl x ⟨fun t => if t = true then Q.f (.bl true) e1 else @wE Γ b e1 Q X⟩⟩ X := by
  show wpO (Out.bind _ _) _ _ = _
  rw [wpO_bind]
  show wpO _ _ _ = wpO _ _ _
  congr 1; funext x e1
  cases x with
  | bl b => cases b <;> rfl
  | _ => rfl
theorem wE_cmp {o : Cp} {a b : E} : @wE Γ (.cmp o a b) env Q X = @wE Γ a env ⟨fun x e1 => @wE Γ b e1 ⟨fun y e2 => @wCmp o x y ⟨fun z => Q.f (.bl z) e2⟩⟩ X⟩ X := by
  show wpO (Out.bind _ _) _ _ = _
  simp only [wpO_bind, wpO_of]
  show wpO _ _ _ = wpO _ _ _
  congr 1; funext x e1
  show wpO _ _ _ = wpO _ _ _
  congr 1; funext y e2
  dsimp only [wCmp]
  cases cmpD o x y <;> rfl
theorem wE_chain {o o' : Cp} {a b c : E} : @wE Γ (.chain o o' a b c) env Q X = @wE Γ a env ⟨fun x e1 => @wE Γ b e1 ⟨fun y e2 => @wCmp o x y ⟨fun t => if t = true then @wE Γ c e2 ⟨fun z e3 => @wCmp o' y z ⟨fun t' => Q.f (.bl t') e3⟩⟩ X else Q.f (.bl false) e2⟩⟩ X⟩ X := by
  show wpO (Out.bind _ _) _ _ = _
  simp only [wpO_bind]
  show wpO _ _ _ = wpO _ _ _
  congr 1; funext x e1
  show wpO _ _ _ = wpO _ _ _
  congr 1; funext y e2
  dsimp only
  unfold wCmp
  cases cmpD o x y with
  | none => rfl
  | some t =>
    cases t with
    | false => rfl
    | true =>
      show wpO (Out.bind _ _) _ _ = wpO (evE Γ c e2) _ _
      rw [wpO_bind]
      congr 1; funext z e3
      rw [wpO_of]
      dsimp only
      cases cmpD o' y z <;> rfl
theorem wE_ife {c : Fc.T} {a b : E} : @wE Γ (.ife c a b) env Q X = @wIf Γ c env ⟨fun e => @wE Γ a e Q X⟩ ⟨fun e => @wE Γ b e Q X⟩ X := by
  show wpO (Out.bind _ _) _ _ = wpO _ _ _
  rw [wpO_bind]
  congr 1; funext x e1
  cases x <;> rfl
theorem wE_tup {es : List E} : @wE Γ (.tup es) env Q X = @wEs Γ es env ⟨fun ds e1 => lenOk ds.length = true ∧ Q.f (.tup ds) e1⟩ X := by
  show wpO (Out.bind _ _) _ _ = wpO _ _ _
  rw [wpO_bind]
  congr 1; funext x e1
  unfold lenK
  show _ = (lenOk x.length = true ∧ Q.f (.tup x) e1)
  cases lenOk x.length <;> simp [wpO]
theorem wE_lst {es : List E} : @wE Γ (.lst es) env Q X = @wEs Γ es env ⟨fun ds e1 => lenOk ds.length = true ∧ Q.f (.lst ds) e1⟩ X := by
  show wpO (Out.bind _ _) _ _ = wpO _ _ _
  rw [wpO_bind]
  congr 1; funext x e1
  unfold lenK
  show _ = (lenOk x.length = true ∧ Q.f (.lst x) e1)
  cases lenOk x.length <;> simp [wpO]
theorem wE_dic {ks : List Key} {es : List E} : @wE Γ (.dic ks es) env Q X = @wEs Γ es env ⟨fun ds e1 => Q.f (.dic ks ds) e1⟩ X := by
  show wpO (Out.bind _ _) _ _ = _
  rw [wpO_bind]
  rfl
theorem wE_idx {a b : E} : @wE Γ (.idx a b) env Q X = @wE Γ a env ⟨fun x e1 => @wE Γ b e1 ⟨fun y e2 => @wIdx x y ⟨fun z => Q.f z e2⟩⟩ X⟩ X := by
  show wpO (Out.bind _ _) _ _ = _
  simp only [wpO_bind, wpO_of]
  rfl
theorem wE_slc {fl fh : Bool} {a lo hi : E} : @wE Γ (.slc fl fh a lo hi) env Q X = @wE Γ a env ⟨fun x e1 => @wE Γ lo e1 ⟨fun l e2 => @wPart fl l ⟨fun l => @wE Γ hi e2 ⟨fun h e3 => @wPart fh h ⟨fun h => @wSlc x l h ⟨fun z => Q.f z e3⟩⟩⟩ X⟩⟩ X⟩ X := by
  show wpO (Out.bind _ _) _ _ = _
  simp only [wpO_bind, wpO_of]
  rfl
theorem wE_fld {a : E} {f : Str} : @wE Γ (.fld a f) env Q X = @wE Γ a env ⟨fun x e1 => @wpD _ (fldD x f) ⟨fun z => Q.f z e1⟩⟩ X := by
  show wpO (Out.bind _ _) _ _ = _
  simp only [wpO_bind, wpO_of]
  rfl
theorem wBack_nil {ds : List D} {K : KE} : wBack env [] ds = K.f env := by cases ds <;> rfl
theorem wBack_cons {i : Nat} {is : List Nat} {d : D} {ds : List D} {K : KE} : @wBack env (i :: is) (d :: ds) K = @wSet env i (some d) ⟨fun e => @wBack e is ds K⟩ := rfl
theorem wE_call {f : Nat} {es : List E} {wb : List Nat} : @wE Γ (.call f es wb) env Q X = @wEs Γ es env ⟨fun ds e1 => @wpF (Γ.call f ds) ⟨fun r ios => @wBack e1 wb ios ⟨fun e => Q.f r e⟩⟩ ⟨fun x ios => @wBack e1 wb ios ⟨fun e => X.f x e⟩⟩⟩ X := by
  show wpO (Out.bind _ _) _ _ = wpO _ _ _
  rw [wpO_bind]
  congr 1; funext ds e1
  dsimp only
  cases Γ.call f ds <;> rfl
theorem wE_blt {b : Bf} {es : List E} : @wE Γ (.blt b es) env Q X = @wEs Γ es env ⟨fun ds e1 => @wBlt b ds ⟨fun z => Q.f z e1⟩⟩ X := by
  show wpO (Out.bind _ _) _ _ = _
  simp only [wpO_bind, wpO_of]
  rfl
theorem wE_mth {m : Mf} {a : E} {es : List E} : @wE Γ (.mth m a es) env Q X = @wE Γ a env ⟨fun x e1 => mthT m x = true ∧ @wEs Γ es e1 ⟨fun ds e2 => @wMth m x ds ⟨fun z => Q.f z e2⟩⟩ X⟩ X := by
  show wpO (Out.bind _ _) _ _ = wpO _ _ _
  rw [wpO_bind]
  congr 1; funext x e1
  show _ = (mthT m x = true ∧ @wEs Γ es e1 ⟨fun ds e2 => @wMth m x ds ⟨fun z => Q.f z e2⟩⟩ X)
  cases h : mthT m x with
  | false => simp [whenK, wpO]
  | true =>
    show wpO (Out.bind _ _) _ _ = _
    rw [wpO_bind]
    simp only [wpO_of, true_and]
    rfl
theorem wE_rep {a b : E} : @wE Γ (.rep a b) env Q X = @wE Γ a env ⟨fun x e1 => @wE Γ b e1 ⟨fun y e2 => @wRep x y ⟨fun z => Q.f z e2⟩⟩ X⟩ X := by
  show wpO (Out.bind _ _) _ _ = _
  simp only [wpO_bind, wpO_of]
  rfl
theorem wE_rev {a : E} : @wE Γ (.rev a) env Q X = @wE Γ a env ⟨fun x e1 => @wpD _ (revD x) ⟨fun z => Q.f z e1⟩⟩ X := by
  show wpO (Out.bind _ _) _ _ = _
  simp only [wpO_bind, wpO_of]
  rfl
theorem wE_isi {a : E} {ts : List Ty} : @wE Γ (.isi a ts) env Q X = @wE Γ a env ⟨fun x e1 => @wIsi Γ.sup x ts ⟨fun z => Q.f z e1⟩⟩ X := by
  show wpO (Out.bind _ _) _ _ = _
  simp only [wpO_bind, wpO_of]
  rfl
theorem wEs_nil {Q : Kk (List D → Env → Prop)} : @wEs Γ [] env Q X = Q.f [] env := rfl
theorem wEs_cons {e : E} {es : List E} {Q : Kk (List D → Env → Prop)} : @wEs Γ (e :: es) env Q X = @wE Γ e env ⟨fun x e1 => @wEs Γ es e1 ⟨fun xs e2 => Q.f (x :: xs) e2⟩ X⟩ X := by
  show wpO (Out.bind _ _) _ _ = _
  simp only [wpO_bind]
  rfl
theorem wE_lc {elt : E} {tg : Tg} {k : Ik} {src : List E} {cs : List Fc.T} {own : List Nat} : @wE Γ (.lc elt tg k src cs own) env Q X = @wEs Γ src env ⟨fun ds e1 => @wItm k ds ⟨fun xs => @wLc Γ elt tg cs own xs e1 Q⟩⟩ X := by
  show wpO (Out.bind _ _) _ _ = wpO _ _ _
  rw [wpO_bind]
  congr 1; funext ds e1
  dsimp only
  unfold wItm
  cases itemsD k ds with
  | none => rfl
  | some xs =>
    show wpO (lcEnd _ _ _) _ _ = wpO (lcEnd _ _ _) _ _
    unfold lcEnd
    split <;> rfl
theorem wE_app {i : Nat} {e : E} : @wE Γ (.mut i [] .append [e]) env Q X = @wGet env i ⟨fun d0 => kindD d0 = 1 ∧ @wE Γ e env ⟨fun y e1 => @wGet e1 i ⟨fun d => @wApp d y e1 i Q⟩⟩ X⟩ := by
  show wpO (Out.bind _ _) _ _ = _
  rw [wpO_bind, wpO_of]
  unfold wGet kindAt
  cases h0 : slotD env i with
  | none => rfl
  | some d0 =>
    show _ = (kindD d0 = 1 ∧ @wE Γ e env ⟨fun y e1 => @wGet e1 i ⟨fun d => @wApp d y e1 i Q⟩⟩ X)
    have hb : ((some d0 : Option D).bind fun d => if kindD d = 1 then some 1 else none) = if kindD d0 = 1 then some 1 else none := rfl
    rw [hb]
    by_cases hk : kindD d0 = 1
    · rw [if_pos hk]
      rw [eq_true hk, true_and]
      show wpO (Out.bind (evEs Γ [] env) _) _ _ = _
      rw [wpO_bind]
      show wpO (Out.bind (evEs Γ [e] env) _) _ _ = _
      rw [wpO_bind]
      show wpO (Out.bind (evE Γ e env) _) _ _ = wpO (evE Γ e env) _ _
      rw [wpO_bind]
      congr 1; funext y e1
      show wpO (sameK 1 e1 i (mutK e1 i [] fun x => mutD .append x [y])) Q.f X.f = _
      dsimp only
      unfold sameK kindAt wGet
      cases h1 : slotD e1 i with
      | none => rfl
      | some d =>
        cases d with
        | lst xs =>
          show wpO (mutK e1 i [] fun x => mutD .append x [y]) Q.f X.f = (lenLt xs.length = true ∧ Q.f .non (e1.set i (some (.lst (xs ++ [y])))))
          unfold mutK
          rw [h1]
          by_cases hl : lenLt xs.length = true
          · rw [eq_true hl, true_and]
            show wpO (match (if lenLt xs.length = true then some (D.non, D.lst (xs ++ [y])) else none) with | some (r, d') => Out.ok r (e1.set i (some d')) | none => Out.err) Q.f X.f = _
            rw [if_pos hl]
            rfl
          · rw [eq_false hl, false_and]
            show wpO (match (if lenLt xs.length = true then some (D.non, D.lst (xs ++ [y])) else none) with | some (r, d') => Out.ok r (e1.set i (some d')) | none => Out.err) Q.f X.f = _
            rw [if_neg hl]
            rfl
        | _ => rfl
    · rw [if_neg hk, eq_false hk, false_and]
      rfl
theorem wApp_lst {xs : List D} {y : D} {i : Nat} : wApp (.lst xs) y env i = (lenLt xs.length = true ∧ @wSet env i (some (.lst (xs ++ [y]))) ⟨fun e => Q.f .non e⟩) := rfl
/-! tests -/
theorem wT_val {e : E} {Q : Kk (Bool → Env → Prop)} : @wT Γ (.val e) env Q X = @wE Γ e env ⟨fun x e1 => @wTru x ⟨fun b => Q.f b e1⟩⟩ X := by
  show wpO (Out.bind _ _) _ _ = _
  simp only [wpO_bind, wpO_of]
  rfl
theorem wIf_val {e : E} {Y N : KE} : @wIf Γ (.val e) env Y N X = @wE Γ e env ⟨fun x e1 => @wTru x ⟨fun b => if b = true then Y.f e1 else N.f e1⟩⟩ X := by
  show wpO (Out.bind _ _) _ _ = _
  simp only [wpO_bind, wpO_of]
  rfl
theorem wIf_and {a b : Fc.T} {Y N : KE} : @wIf Γ (.and a b) env Y N X = @wIf Γ a env ⟨fun e => @wIf Γ b e Y N X⟩ N X := by
  show wpO (Out.bind _ _) _ _ = wpO _ _ _
  rw [wpO_bind]
  congr 1; funext x e1
  cases x <;> rfl
theorem wIf_or {a b : Fc.T} {Y N : KE} : @wIf Γ (.or a b) env Y N X = @wIf Γ a env Y ⟨fun e => @wIf Γ b e Y N X⟩ X := by
  show wpO (Out.bind _ _) _ _ = wpO _ _ _
  rw [wpO_bind]
  congr 1; funext x e1
  cases x <;> rfl
theorem wIf_not {a : Fc.T} {Y N : KE} : @wIf Γ (.not a) env Y N X = @wIf Γ a env N Y X := by
  show wpO (Out.bind _ _) _ _ = wpO _ _ _
  rw [wpO_bind]
  congr 1; funext x e1
  cases x <;> rfl
theorem wIf_ife {c a b : Fc.T} {Y N : KE} : @wIf Γ (.ife c a b) env Y N X = @wIf Γ c env ⟨fun e => @wIf Γ a e Y N X⟩ ⟨fun e => @wIf Γ b e Y N X⟩ X := by
  show wpO (Out.bind _ _) _ _ = wpO _ _ _
  rw [wpO_bind]
  congr 1; funext x e1
  cases x <;> rfl
/-! statements -/
theorem wpS_after {o : Out α} {f : α → Env → SO} {N : Env → Prop} {R X : D → Env → Prop} : wpS (SO.after o f) N R X = wpO o (fun a e => wpS (f a e) N R X) X := by cases o <;> rfl
theorem wpS_seq {o : SO} {f : Env → SO} {N : Env → Prop} {R X : D → Env → Prop} : wpS (o.seq f) N R X = wpS o (fun e => wpS (f e) N R X) R X := by cases o <;> rfl
theorem wpS_of {o : Option Env} {N : Env → Prop} {R X : D → Env → Prop} : wpS (SO.of o) N R X = @wpD _ o ⟨N⟩ := by cases o <;> rfl
theorem wpS_oK {o : Option α} {f : α → SO} {N : Env → Prop} {R X : D → Env → Prop} : wpS (oK o f) N R X = @wpD _ o ⟨fun a => wpS (f a) N R X⟩ := by cases o <;> rfl
theorem wSs_nil : @wSs Γ [] env N R X = N.f env := rfl
theorem wSs_cons {s : S} {ss : List S} : @wSs Γ (s :: ss) env N R X = @wS Γ s env ⟨fun e => @wSs Γ ss e N R X⟩ R X := by
  show wpS (SO.seq _ _) _ _ _ = _
  rw [wpS_seq]; rfl
theorem wS_ex {e : E} : @wS Γ (.ex e) env N R X = @wE Γ e env ⟨fun _ e1 => N.f e1⟩ X := by
  show wpS (SO.after _ _) _ _ _ = _
  rw [wpS_after]; rfl
theorem wS_pass : @wS Γ .pass env N R X = N.f env := rfl
theorem wS_asg {t : Tg} {e : E} : @wS Γ (.asg t e) env N R X = @wE Γ e env ⟨fun d e1 => @wAsg t d e1 N⟩ X := by
  show wpS (SO.after _ _) _ _ _ = _
  simp only [wpS_after, wpS_of]
  rfl
theorem wAsg_nm {i : Nat} {d : D} {K : KE} : @wAsg (.nm i) d env K = @wSet env i (some d) K := rfl
theorem wAsg_tp {ts : List Tg} {ds : List D} {K : KE} : @wAsg (.tp ts) (.tup ds) env K = (ts.length = ds.length ∧ @wAsgs ts ds env K) := by
  show @wpD _ (if ts.length = ds.length then asgT.asgTs ts ds env else none) K = _
  by_cases h : ts.length = ds.length
  · rw [if_pos h, eq_true h, true_and]; rfl
  · rw [if_neg h, eq_false h, false_and]; rfl
theorem wAsg_lp {ts : List Tg} {ds : List D} {K : KE} : @wAsg (.tp ts) (.lst ds) env K = (ts.length = ds.length ∧ @wAsgs ts ds env K) := by
  show @wpD _ (if ts.length = ds.length then asgT.asgTs ts ds env else none) K = _
  by_cases h : ts.length = ds.length
  · rw [if_pos h, eq_true h, true_and]; rfl
  · rw [if_neg h, eq_false h, false_and]; rfl
theorem wAsgs_nil {K : KE} : @wAsgs [] [] env K = K.f env := rfl
theorem wAsgs_cons {t : Tg} {ts : List Tg} {d : D} {ds : List D} {K : KE} : @wAsgs (t :: ts) (d :: ds) env K = @wAsg t d env ⟨fun e => @wAsgs ts ds e K⟩ := by
  show @wpD _ (match asgT t d env with | some env' => asgT.asgTs ts ds env' | none => none) K = _
  unfold wAsg
  cases asgT t d env <;> rfl
theorem wS_par {ts : List Nat} {es : List E} : @wS Γ (.par ts es) env N R X = @wEs Γ es env ⟨fun ds e1 => ts.length = ds.length ∧ @wBack e1 ts ds N⟩ X := by
  show wpS (SO.after _ _) _ _ _ = wpO _ _ _
  rw [wpS_after]
  congr 1; funext ds e1
  show _ = (ts.length = ds.length ∧ N.f (wbk e1 ts ds))
  by_cases h : ts.length = ds.length
  · rw [if_pos h, eq_true h, true_and]; rfl
  · rw [if_neg h, eq_false h, false_and]; rfl
theorem wS_aug {i : Nat} {o : Op} {e : E} : @wS Γ (.aug i o e) env N R X = @wGet env i ⟨fun x => @wE Γ e env ⟨fun y e1 => @wpD _ (augB o x y) ⟨fun z => @wSet e1 i (some z) N⟩⟩ X⟩ := by
  show wpS (oK (slotD env i) _) _ _ _ = _
  unfold wGet
  cases slotD env i with
  | none => rfl
  | some x =>
    show wpS (SO.after (evE Γ e env) _) _ _ _ = wpO (evE Γ e env) _ _
    rw [wpS_after]
    congr 1; funext y e1
    rw [wpS_oK]
    rfl
theorem wS_ret {e : E} : @wS Γ (.ret e) env N R X = @wE Γ e env R X := by
  show wpS (SO.after _ _) _ _ _ = _
  rw [wpS_after]; rfl
theorem wS_rse {c : Nat} {ns : List Str} {es : List E} : @wS Γ (.rse c ns es) env N R X = @wEs Γ es env ⟨fun ds e1 => X.f (.exc c ns (ds.take ns.length)) e1⟩ X := by
  show wpS (SO.after _ _) _ _ _ = _
  rw [wpS_after]; rfl
theorem wS_ife {c : Fc.T} {a b : List S} : @wS Γ (.ife c a b) env N R X = @wIf Γ c env ⟨fun e => @wSs Γ a e N R X⟩ ⟨fun e => @wSs Γ b e N R X⟩ X := by
  show wpS (SO.after _ _) _ _ _ = wpO _ _ _
  rw [wpS_after]
  congr 1; funext t e1
  cases t <;> rfl
theorem wS_whl {c : Fc.T} {b : List S} : @wS Γ (.whl c b) env N R X = @wWhl Γ c b Γ.fuel env N R X := rfl
theorem wS_loop {tg : Tg} {k : Ik} {src : List E} {b : List S} : @wS Γ (.loop tg k src b) env N R X = @wEs Γ src env ⟨fun ds e1 => @wItm k ds ⟨fun xs => @wFor Γ tg b xs e1 N R X⟩⟩ X := by
  show wpS (SO.after (evEs Γ src env) _) _ _ _ = wpO (evEs Γ src env) _ _
  rw [wpS_after]
  congr 1; funext ds e1
  rw [wpS_oK]
  rfl
/-- an item stored: i a list's slot -/
def wSeti (d k v : D) (env : Env) (i : Nat) [N : KE] : Prop := match d, k with
  | .lst xs, .int j => match ixN xs.length j with
    | some n => N.f (env.set i (some (.lst (xs.set n v))))
    | none => False
  | _, _ => False
theorem wS_seti {i : Nat} {ix e : E} : @wS Γ (.seti i [] ix e) env N R X = @wE Γ e env ⟨fun v e1 => @wGet e1 i ⟨fun _ => @wE Γ ix e1 ⟨fun k e2 => @wGet e2 i ⟨fun d => @wSeti d k v e2 i N⟩⟩ X⟩⟩ X := by
  show wpS (SO.after _ _) _ _ _ = wpO _ _ _
  rw [wpS_after]
  congr 1; funext v e1
  rw [wpS_oK]
  dsimp only
  unfold wGet
  cases slotD e1 i with
  | none => rfl
  | some d0 =>
    show wpS (SO.after (evEs Γ [] e1) _) _ _ _ = _
    rw [wpS_after]
    show wpS (SO.after (evE Γ ix e1) _) _ _ _ = wpO (evE Γ ix e1) _ _
    rw [wpS_after]
    congr 1; funext k e2
    show wpS (setK e2 i [] (setD k v)) _ _ _ = _
    dsimp only
    unfold setK mutK
    cases slotD e2 i with
    | none => rfl
    | some d =>
      show wpS (match (match pathD [] d (setD k v) with | some (r, d') => Out.ok r (e2.set i (some d')) | none => Out.err) with | .ok _ env' => SO.nx env' | _ => SO.err) _ _ _ = @wSeti d k v e2 i N
      show wpS (match (match setD k v d with | some (r, d') => Out.ok r (e2.set i (some d')) | none => Out.err) with | .ok _ env' => SO.nx env' | _ => SO.err) _ _ _ = @wSeti d k v e2 i N
      cases d with
      | lst xs =>
        cases k with
        | int j =>
          show wpS (match (match (ixN xs.length j).map fun k => (D.non, D.lst (xs.set k v)) with | some (r, d') => Out.ok r (e2.set i (some d')) | none => Out.err) with | .ok _ env' => SO.nx env' | _ => SO.err) _ _ _ = (match ixN xs.length j with | some n => N.f (e2.set i (some (.lst (xs.set n v)))) | none => False)
          cases ixN xs.length j <;> rfl
        | _ => rfl
      | _ => rfl
theorem wSeti_at {xs : List D} {j : Int} {n : Nat} {v : D} {i : Nat} (h : ixN xs.length j = some n) : @wSeti (.lst xs) (.int j) v env i N = @wSet env i (some (.lst (xs.set n v))) N := by
  show (match ixN xs.length j with | some n => N.f (env.set i (some (.lst (xs.set n v)))) | none => False) = _
  rw [h]
  rfl
theorem wFor_nil {tg : Tg} {b : List S} : @wFor Γ tg b [] env N R X = N.f env := rfl
theorem wFor_cons {tg : Tg} {b : List S} {d : D} {ds : List D} : @wFor Γ tg b (d :: ds) env N R X = @wAsg tg d env ⟨fun e => @wSs Γ b e ⟨fun e' => @wFor Γ tg b ds e' N R X⟩ R X⟩ := by
  show wpS (SO.seq _ _) _ _ _ = _
  rw [wpS_seq]
  show wpS (SO.seq _ _) _ _ _ = _
  rw [wpS_seq, wpS_of]; rfl
/-! what is enough -/
theorem wpS_mono {o : SO} {N N' : Env → Prop} {R R' X X' : D → Env → Prop} (h : wpS o N R X) (hn : ∀ e, N e → N' e) (hr : ∀ d e, R d e → R' d e) (hx : ∀ d e, X d e → X' d e) : wpS o N' R' X' := by
  cases o with
  | nx e => exact hn _ h
  | rt d e => exact hr _ _ h
  | exn d e => exact hx _ _ h
  | err => exact h
theorem wS_mono {s : S} {N N' : KE} (h : @wS Γ s env N R X) (hn : ∀ e, N.f e → N'.f e) : @wS Γ s env N' R X := wpS_mono h hn (fun _ _ h => h) fun _ _ h => h
theorem wSs_mono {s : List S} {N N' : KE} (h : @wSs Γ s env N R X) (hn : ∀ e, N.f e → N'.f e) : @wSs Γ s env N' R X := wpS_mono h hn (fun _ _ h => h) fun _ _ h => h
theorem wSs_app {s t : List S} (h : @wSs Γ s env ⟨fun e => @wSs Γ t e N R X⟩ R X) : @wSs Γ (s ++ t) env N R X := by
  induction s generalizing env with
  | nil => exact h
  | cons a s ih =>
    rw [wSs_cons] at h
    rw [List.cons_append, wSs_cons]
    exact wS_mono h fun e q => ih q
/-- a statement whose ways meet -/
theorem wS_join {s : S} (P : Env → Prop) (h : @wS Γ s env ⟨P⟩ R X) (h2 : ∀ e, P e → N.f e) : @wS Γ s env N R X := wS_mono h h2
theorem wIf_join {c : Fc.T} {a b : List S} (P : Env → Prop) (h : @wIf Γ c env ⟨fun e => @wSs Γ a e ⟨P⟩ R X⟩ ⟨fun e => @wSs Γ b e ⟨P⟩ R X⟩ X) (h2 : ∀ e, P e → N.f e) :
    @wIf Γ c env ⟨fun e => @wSs Γ a e N R X⟩ ⟨fun e => @wSs Γ b e N R X⟩ X := by
  rw [← wS_ife] at h ⊢
  exact wS_join P h h2
theorem wSs_join {s : S} {ss : List S} (P : Env → Prop) (h : @wS Γ s env ⟨P⟩ R X) (h2 : ∀ e, P e → @wSs Γ ss e N R X) : @wSs Γ (s :: ss) env N R X := by
  rw [wSs_cons]
  exact wS_mono h h2
theorem wE_mono {e : E} {Q' : KQ} (h : @wE Γ e env Q X) (hq : ∀ d e', Q.f d e' → Q'.f d e') : @wE Γ e env Q' X := by
  unfold wE at *
  cases q : evE Γ e env with
  | ok d e' => rw [q] at h; exact hq _ _ h
  | exn d e' => rw [q] at h; exact h
  | err => rw [q] at h; exact h
theorem wpF_mono {r : FRes} {Q Q' X X' : Kk (D → List D → Prop)} (h : @wpF r Q X) (hq : ∀ d i, Q.f d i → Q'.f d i) (hx : ∀ d i, X.f d i → X'.f d i) : @wpF r Q' X' := by
  cases r with
  | ok d i => exact hq _ _ h
  | exn d i => exact hx _ _ h
  | err => exact h
/-- what may come of a call -/
theorem wpF_of {r : FRes} {Q X : Kk (D → List D → Prop)} (P : D → Prop) (h : ∃ d, P d ∧ r = .ok d []) (hq : ∀ d, P d → Q.f d []) : @wpF r Q X := by
  obtain ⟨d, p, rfl⟩ := h
  exact hq d p
/-- a loop by an invariant over what is left -/
theorem wFor_inv {tg : Tg} {b : List S} (I : List D → Env → Prop) : ∀ {xs : List D} {env : Env}, I xs env → (∀ d ds e, I (d :: ds) e → @wAsg tg d e ⟨fun e => @wSs Γ b e ⟨I ds⟩ R X⟩) → (∀ e, I [] e → N.f e) → @wFor Γ tg b xs env N R X
  | [], env, h, hs, he => he _ h
  | d :: ds, env, h, hs, he => by
    rw [wFor_cons]
    have q := hs d ds env h
    unfold wAsg at q ⊢
    cases hx : asgT tg d env with
    | none => rw [hx] at q; exact q
    | some e =>
      rw [hx] at q
      exact wSs_mono (show @wSs Γ b e ⟨I ds⟩ R X from q) fun e' h' => wFor_inv I h' hs he
/-- .. by places: i turns done -/
theorem wFor_ix {tg : Tg} {b : List S} (I : Nat → Env → Prop) {xs : List D} (h : I 0 env) (hs : ∀ i d e, xs[i]? = some d → I i e → @wAsg tg d e ⟨fun e => @wSs Γ b e ⟨I (i + 1)⟩ R X⟩) (he : ∀ e, I xs.length e → N.f e) : @wFor Γ tg b xs env N R X := by
  refine wFor_inv (fun ds e => ∃ i, i + ds.length = xs.length ∧ ds = xs.drop i ∧ I i e) ⟨0, by simp, by simp, h⟩ (fun d ds e ⟨i, h1, h2, h3⟩ => ?_) (fun e ⟨i, h1, h2, h3⟩ => he e (by simpa using h1 ▸ h3))
  have hd : xs[i]? = some d := by
    have : (xs.drop i)[0]? = some d := by rw [← h2]; rfl
    simpa using this
  have q := hs i d e hd h3
  unfold wAsg at q ⊢
  cases hx : asgT tg d e with
  | none => rw [hx] at q; exact q
  | some e' =>
    rw [hx] at q
    refine wSs_mono (show @wSs Γ b e' ⟨I (i + 1)⟩ R X from q) fun e2 h' => ⟨i + 1, by simp at h1; omega, ?_, h'⟩
    have : ds = (d :: ds).drop 1 := rfl
    rw [this, h2, List.drop_drop]
/-- a while by an invariant and a measure -/
theorem wWhl_inv {c : Fc.T} {b : List S} (I : Env → Prop) (m : Env → Nat) : ∀ {n : Nat} {env : Env}, I env → m env < n → (∀ e, I e → @wIf Γ c e ⟨fun e1 => @wSs Γ b e1 ⟨fun e2 => I e2 ∧ m e2 < m e⟩ R X⟩ N X) → @wWhl Γ c b n env N R X
  | 0, _, _, h, _ => absurd h (Nat.not_lt_zero _)
  | n + 1, env, hi, hm, hs => by
    have q := hs env hi
    show wpS (SO.after _ _) _ _ _
    rw [wpS_after]
    unfold wIf at q
    cases hx : evT Γ c env with
    | err => rw [hx] at q; exact q
    | exn d e => rw [hx] at q; exact q
    | ok t e =>
      rw [hx] at q
      cases t with
      | false => exact q
      | true =>
        show wpS (SO.seq _ _) _ _ _
        rw [wpS_seq]
        exact wpS_mono (show wpS (exSs Γ b e) (fun e2 => I e2 ∧ m e2 < m env) R.f X.f from q) (fun e2 h2 => wWhl_inv I m h2.1 (by omega) hs) (fun _ _ h => h) fun _ _ h => h
end
/-! values -/
section
variable {Q : KD} {B : KB}
theorem wBin_add {a b : Int} : wBin .add (.int a) (.int b) = Q.f (.int (a + b)) := rfl
theorem wBin_sub {a b : Int} : wBin .sub (.int a) (.int b) = Q.f (.int (a - b)) := rfl
theorem wp_if {c : Bool} {d : D} : @wpD _ (if c = true then some d else none) Q = (c = true ∧ Q.f d) := by cases c <;> simp [wpD]
theorem wBin_mul {a b : Int} : wBin .mul (.int a) (.int b) = (mulOk a b = true ∧ Q.f (.int (a * b))) := wp_if
theorem wBin_fdiv {a b : Int} : wBin .fdiv (.int a) (.int b) = (divOk b = true ∧ Q.f (.int (a.fdiv b))) := wp_if
theorem wBin_mod {a b : Int} : wBin .mod (.int a) (.int b) = (b ≠ 0 ∧ Q.f (.int (a.fmod b))) := by
  show @wpD _ (if decide (b ≠ 0) = true then some (D.int (a.fmod b)) else none) Q = _
  rw [wp_if]
  simp
theorem wBin_pow {a b : Int} : wBin .pow (.int a) (.int b) = (powOk a b = true ∧ Q.f (.int (a ^ b.toNat))) := wp_if
theorem wBin_adds {a b : Str} : wBin .add (.str a) (.str b) = (lenOk (a.length + b.length) = true ∧ Q.f (.str (a ++ b))) := wp_if
theorem wBin_addl {a b : List D} : wBin .add (.lst a) (.lst b) = (lenOk (a.length + b.length) = true ∧ Q.f (.lst (a ++ b))) := wp_if
theorem wBin_addt {a b : List D} : wBin .add (.tup a) (.tup b) = ((!a.isEmpty && !b.isEmpty && lenOk (a.length + b.length)) = true ∧ Q.f (.tup (a ++ b))) := wp_if
theorem wCmp_lt {a b : Int} : wCmp .lt (.int a) (.int b) = B.f (decide (a < b)) := rfl
theorem wCmp_le {a b : Int} : wCmp .le (.int a) (.int b) = B.f (decide (a ≤ b)) := rfl
theorem wCmp_gt {a b : Int} : wCmp .gt (.int a) (.int b) = B.f (decide (b < a)) := rfl
theorem wCmp_ge {a b : Int} : wCmp .ge (.int a) (.int b) = B.f (decide (b ≤ a)) := rfl
theorem wCmp_isn {a : D} : wCmp .isn a .non = B.f (isNonD a) := rfl
theorem wCmp_nn {a : D} : wCmp .nn a .non = B.f (!isNonD a) := rfl
theorem wCmp_eq {a b : D} : @wCmp .eq a b B = @wpD _ (eqD a b) B := rfl
theorem wCmp_ne {a b : D} : @wCmp .ne a b B = @wpD _ (eqD a b) ⟨fun t => B.f (!t)⟩ := by
  show @wpD _ ((eqD a b).map _) B = _
  cases eqD a b <;> rfl
theorem wCmp_mem {a b : D} : @wCmp .mem a b B = @wpD _ (memD a b) B := rfl
theorem wCmp_nmem {a b : D} : @wCmp .nmem a b B = @wpD _ (memD a b) ⟨fun t => B.f (!t)⟩ := by
  show @wpD _ ((memD a b).map _) B = _
  cases memD a b <;> rfl
theorem eqD_int (a b : Int) : eqD (.int a) (.int b) = some (a == b) := rfl
theorem eqD_bl (a b : Bool) : eqD (.bl a) (.bl b) = some (a == b) := rfl
theorem eqD_str (a b : Str) (ha : PyData.strOk a = true) (hb : PyData.strOk b = true) : eqD (.str a) (.str b) = some (a == b) := by
  unfold eqD D.toP
  simp [PyData.eqv, SeqAt.shaped, PyData.canLay0, PyData.depth, ha, hb]
/-- one sign in a text -/
theorem memD_sign (c : Nat) (t : Str) : memD (.str ⟨#[c]⟩) (.str t) = some (decide (c ∈ t.cps.toList)) := by
  show some (!(Builtin.Str.occurrences t ⟨#[c]⟩ 0 t.length 1).isEmpty) = _
  exact congrArg some (PySem.StrLaws.found_one t c)
theorem wTru_bl {b : Bool} : wTru (.bl b) = B.f b := rfl
theorem wTru_int {b : Int} : wTru (.int b) = B.f (b != 0) := rfl
theorem wTru_lst {b : List D} : wTru (.lst b) = B.f (!b.isEmpty) := rfl
theorem wTru_tup {b : List D} : wTru (.tup b) = B.f (!b.isEmpty) := rfl
theorem negD_int {i : Int} : negD (.int i) = some (.int (-i)) := rfl
theorem notD_bl {i : Bool} : notD (.bl i) = some (.bl (!i)) := rfl
theorem wPart_f {d : D} {Q : Kk (Option Int → Prop)} : wPart false d = Q.f none := rfl
theorem wPart_t {i : Int} {Q : Kk (Option Int → Prop)} : wPart true (.int i) = Q.f (some i) := rfl
theorem wBlt_len {xs : List D} : wBlt .len [.lst xs] = Q.f (.int xs.length) := rfl
theorem wBlt_lent {xs : List D} : wBlt .len [.tup xs] = Q.f (.int xs.length) := rfl
theorem wBlt_lens {s : Str} : wBlt .len [.str s] = (lenOk s.length = true ∧ Q.f (.int s.length)) := by
  cases h : lenOk s.length <;> simp [wBlt, bltD, lenD, wpD, h]
theorem wBlt_abs {a : Int} : wBlt .abs [.int a] = Q.f (.int a.natAbs) := by
  have : (if a < 0 then -a else a) = (a.natAbs : Int) := by split <;> omega
  show Q.f (.int (if a < 0 then -a else a)) = _
  rw [this]
theorem wBlt_max {a b : Int} : wBlt .max [.int a, .int b] = Q.f (.int (max a b)) := by
  show Q.f (.int (if b > a then b else a)) = _
  have : (if b > a then b else a) = max a b := by split <;> omega
  rw [this]
theorem wBlt_min {a b : Int} : wBlt .min [.int a, .int b] = Q.f (.int (min a b)) := by
  show Q.f (.int (if b < a then b else a)) = _
  have : (if b < a then b else a) = min a b := by split <;> omega
  rw [this]
theorem wBlt_int {a : Int} : wBlt .int [.int a] = Q.f (.int a) := rfl
theorem wBlt_intb {a : Bool} : wBlt .int [.bl a] = Q.f (.int (if a then 1 else 0)) := rfl
theorem wBlt_list {xs : List D} : wBlt .list [.lst xs] = Q.f (.lst xs) := rfl
theorem wBlt_listt {xs : List D} : wBlt .list [.tup xs] = Q.f (.lst xs) := rfl
theorem wBlt_tuple {xs : List D} : wBlt .tuple [.lst xs] = Q.f (.tup xs) := rfl
theorem wBlt_tuplet {xs : List D} : wBlt .tuple [.tup xs] = Q.f (.tup xs) := rfl
theorem wRep_lst {xs : List D} {k : Int} : wRep (.lst xs) (.int k) = ((-(2 ^ 63) ≤ k ∧ k < 2 ^ 63 ∧ xs.length * k.toNat ≤ sizeLine) ∧ Q.f (.lst (List.replicate k.toNat xs).flatten)) := by
  show @wpD _ (if decide (-(2 ^ 63) ≤ k ∧ k < 2 ^ 63 ∧ xs.length * k.toNat ≤ sizeLine) = true then some (D.lst (List.replicate k.toNat xs).flatten) else none) Q = _
  rw [wp_if]
  simp
theorem revD_lst {xs : List D} : revD (.lst xs) = some (.lst xs.reverse) := rfl
theorem wMth_join {a : Str} {ds : List D} : @wMth .join (.str a) [.lst ds] Q = @wpD _ (strsD ds) ⟨fun ys => decide ((ys.map (·.length)).sum + ys.length * a.length ≤ 16777216) = true ∧ Q.f (.str (Txt.join a ys))⟩ := by
  show @wpD _ (match strsD ds with | some ys => if decide ((ys.map (·.length)).sum + ys.length * a.length ≤ 16777216) = true then some (D.str (Txt.join a ys)) else none | none => none) Q = _
  cases strsD ds with
  | none => rfl
  | some ys => exact wp_if
theorem wMth_index {xs : List D} {y : D} : @wMth .index (.lst xs) [y] Q = ((y.flat && xs.all D.flat) = true ∧ @wpD _ (posF y xs) ⟨fun j => Q.f (.int (j : Int))⟩) := by
  show @wpD _ (if (y.flat && xs.all D.flat) = true then (posF y xs).map fun (j : Nat) => D.int (j : Int) else none) Q = _
  by_cases h : (y.flat && xs.all D.flat) = true
  · rw [if_pos h, eq_true h, true_and]
    cases posF y xs <;> rfl
  · rw [if_neg h, eq_false h, false_and]
    rfl
theorem wMth_count {xs : List D} {y : D} : wMth .count (.lst xs) [y] = ((y.flat && xs.all D.flat) = true ∧ Q.f (.int (cntF y xs : Nat))) := wp_if
theorem wIdx_lst {xs : List D} {i : Int} : @wIdx (.lst xs) (.int i) Q = @wpD _ (atI xs i) Q := rfl
theorem wIdx_tup {xs : List D} {i : Int} : @wIdx (.tup xs) (.int i) Q = @wpD _ (atI xs i) Q := rfl
theorem wSlc_lst {xs : List D} {l h : Option Int} : wSlc (.lst xs) l h = Q.f (.lst (cutD xs l h)) := rfl
theorem wSlc_str {s : Str} {l h : Option Int} : wSlc (.str s) l h = (lenOk s.length = true ∧ Q.f (.str (cutS s l h))) := wp_if
theorem wItm_of {xs : List D} {Q : Kk (List D → Prop)} : wItm .of [.lst xs] = Q.f xs := rfl
theorem wItm_oft {xs : List D} {Q : Kk (List D → Prop)} : wItm .of [.tup xs] = Q.f xs := rfl
theorem wItm_ofs {s : Str} {Q : Kk (List D → Prop)} : wItm .of [.str s] = Q.f (s.cps.toList.map fun c => .str ⟨#[c]⟩) := rfl
theorem wItm_enum {xs : List D} {Q : Kk (List D → Prop)} : wItm .enum [.lst xs] = Q.f (xs.zipIdx.map fun p => .tup [.int p.2, p.1]) := rfl
theorem wItm_zip {xs ys : List D} {Q : Kk (List D → Prop)} : wItm .zip [.lst xs, .lst ys] = Q.f ((xs.zip ys).map fun p => .tup [p.1, p.2]) := rfl
theorem wItm_range {n : Nat} {Q : Kk (List D → Prop)} (h : n < 2 ^ 62) : wItm .range [.int (n : Int)] = Q.f ((List.range n).map fun (k : Nat) => D.int (k : Int)) := by
  unfold wItm itemsD
  simp only
  rw [if_pos (decide_eq_true ⟨by omega, by omega⟩)]
  rfl
end
/-! isinstance -/
section
variable {sup : Nat → Nat → Bool} {Q : KD}
theorem wi_non_int : wIsi sup .non [.int] = Q.f (.bl false) := rfl
theorem wi_non_bool : wIsi sup .non [.bool] = Q.f (.bl false) := rfl
theorem wi_non_str : wIsi sup .non [.str] = Q.f (.bl false) := rfl
theorem wi_non_list : wIsi sup .non [.list] = Q.f (.bl false) := rfl
theorem wi_non_tuple : wIsi sup .non [.tuple] = Q.f (.bl false) := rfl
theorem wi_non_dict : wIsi sup .non [.dict] = Q.f (.bl false) := rfl
theorem isNon_non : isNonD .non = true := rfl
theorem wi_bl_int {b : Bool} : wIsi sup (.bl b) [.int] = Q.f (.bl true) := rfl
theorem wi_bl_bool {b : Bool} : wIsi sup (.bl b) [.bool] = Q.f (.bl true) := rfl
theorem wi_bl_str {b : Bool} : wIsi sup (.bl b) [.str] = Q.f (.bl false) := rfl
theorem wi_bl_list {b : Bool} : wIsi sup (.bl b) [.list] = Q.f (.bl false) := rfl
theorem wi_bl_tuple {b : Bool} : wIsi sup (.bl b) [.tuple] = Q.f (.bl false) := rfl
theorem wi_bl_dict {b : Bool} : wIsi sup (.bl b) [.dict] = Q.f (.bl false) := rfl
theorem isNon_bl {b : Bool} : isNonD (.bl b) = false := rfl
theorem wi_int_int {i : Int} : wIsi sup (.int i) [.int] = Q.f (.bl true) := rfl
theorem wi_int_bool {i : Int} : wIsi sup (.int i) [.bool] = Q.f (.bl false) := rfl
theorem wi_int_str {i : Int} : wIsi sup (.int i) [.str] = Q.f (.bl false) := rfl
theorem wi_int_list {i : Int} : wIsi sup (.int i) [.list] = Q.f (.bl false) := rfl
theorem wi_int_tuple {i : Int} : wIsi sup (.int i) [.tuple] = Q.f (.bl false) := rfl
theorem wi_int_dict {i : Int} : wIsi sup (.int i) [.dict] = Q.f (.bl false) := rfl
theorem isNon_int {i : Int} : isNonD (.int i) = false := rfl
theorem wi_str_int {s : Str} : wIsi sup (.str s) [.int] = Q.f (.bl false) := rfl
theorem wi_str_bool {s : Str} : wIsi sup (.str s) [.bool] = Q.f (.bl false) := rfl
theorem wi_str_str {s : Str} : wIsi sup (.str s) [.str] = Q.f (.bl true) := rfl
theorem wi_str_list {s : Str} : wIsi sup (.str s) [.list] = Q.f (.bl false) := rfl
theorem wi_str_tuple {s : Str} : wIsi sup (.str s) [.tuple] = Q.f (.bl false) := rfl
theorem wi_str_dict {s : Str} : wIsi sup (.str s) [.dict] = Q.f (.bl false) := rfl
theorem isNon_str {s : Str} : isNonD (.str s) = false := rfl
theorem wi_tup_int {ds : List D} : wIsi sup (.tup ds) [.int] = Q.f (.bl false) := rfl
theorem wi_tup_bool {ds : List D} : wIsi sup (.tup ds) [.bool] = Q.f (.bl false) := rfl
theorem wi_tup_str {ds : List D} : wIsi sup (.tup ds) [.str] = Q.f (.bl false) := rfl
theorem wi_tup_list {ds : List D} : wIsi sup (.tup ds) [.list] = Q.f (.bl false) := rfl
theorem wi_tup_tuple {ds : List D} : wIsi sup (.tup ds) [.tuple] = Q.f (.bl true) := rfl
theorem wi_tup_dict {ds : List D} : wIsi sup (.tup ds) [.dict] = Q.f (.bl false) := rfl
theorem isNon_tup {ds : List D} : isNonD (.tup ds) = false := rfl
theorem wi_lst_int {ds : List D} : wIsi sup (.lst ds) [.int] = Q.f (.bl false) := rfl
theorem wi_lst_bool {ds : List D} : wIsi sup (.lst ds) [.bool] = Q.f (.bl false) := rfl
theorem wi_lst_str {ds : List D} : wIsi sup (.lst ds) [.str] = Q.f (.bl false) := rfl
theorem wi_lst_list {ds : List D} : wIsi sup (.lst ds) [.list] = Q.f (.bl true) := rfl
theorem wi_lst_tuple {ds : List D} : wIsi sup (.lst ds) [.tuple] = Q.f (.bl false) := rfl
theorem wi_lst_dict {ds : List D} : wIsi sup (.lst ds) [.dict] = Q.f (.bl false) := rfl
theorem isNon_lst {ds : List D} : isNonD (.lst ds) = false := rfl
theorem wi_dic_int {ks : List Key} {ds : List D} : wIsi sup (.dic ks ds) [.int] = Q.f (.bl false) := rfl
theorem wi_dic_bool {ks : List Key} {ds : List D} : wIsi sup (.dic ks ds) [.bool] = Q.f (.bl false) := rfl
theorem wi_dic_str {ks : List Key} {ds : List D} : wIsi sup (.dic ks ds) [.str] = Q.f (.bl false) := rfl
theorem wi_dic_list {ks : List Key} {ds : List D} : wIsi sup (.dic ks ds) [.list] = Q.f (.bl false) := rfl
theorem wi_dic_tuple {ks : List Key} {ds : List D} : wIsi sup (.dic ks ds) [.tuple] = Q.f (.bl false) := rfl
theorem wi_dic_dict {ks : List Key} {ds : List D} : wIsi sup (.dic ks ds) [.dict] = Q.f (.bl true) := rfl
theorem isNon_dic {ks : List Key} {ds : List D} : isNonD (.dic ks ds) = false := rfl
end
/-! items at a written place -/
section
variable {α : Type}
theorem atI_nat' {xs : List α} {k : Nat} {x : α} (h : xs[k]? = some x) : atI xs (k : Int) = some x := by
  have hl : k < xs.length := (List.getElem?_eq_some_iff.mp h).1
  have e : ixN xs.length (k : Int) = some k := by
    unfold ixN
    rw [if_pos (by omega), if_pos (by omega)]
    simp
  unfold atI
  rw [e]
  exact h
theorem at0 {x0 : α} {xs : List α} : atI (x0 :: xs) 0 = some x0 := atI_nat' (k := 0) rfl
theorem at1 {x0 x1 : α} {xs : List α} : atI (x0 :: x1 :: xs) 1 = some x1 := atI_nat' (k := 1) rfl
theorem at2 {x0 x1 x2 : α} {xs : List α} : atI (x0 :: x1 :: x2 :: xs) 2 = some x2 := atI_nat' (k := 2) rfl
theorem at3 {x0 x1 x2 x3 : α} {xs : List α} : atI (x0 :: x1 :: x2 :: x3 :: xs) 3 = some x3 := atI_nat' (k := 3) rfl
theorem at4 {x0 x1 x2 x3 x4 : α} {xs : List α} : atI (x0 :: x1 :: x2 :: x3 :: x4 :: xs) 4 = some x4 := atI_nat' (k := 4) rfl
theorem at5 {x0 x1 x2 x3 x4 x5 : α} {xs : List α} : atI (x0 :: x1 :: x2 :: x3 :: x4 :: x5 :: xs) 5 = some x5 := atI_nat' (k := 5) rfl
theorem at6 {x0 x1 x2 x3 x4 x5 x6 : α} {xs : List α} : atI (x0 :: x1 :: x2 :: x3 :: x4 :: x5 :: x6 :: xs) 6 = some x6 := atI_nat' (k := 6) rfl
theorem at7 {x0 x1 x2 x3 x4 x5 x6 x7 : α} {xs : List α} : atI (x0 :: x1 :: x2 :: x3 :: x4 :: x5 :: x6 :: x7 :: xs) 7 = some x7 := atI_nat' (k := 7) rfl
theorem at8 {x0 x1 x2 x3 x4 x5 x6 x7 x8 : α} {xs : List α} : atI (x0 :: x1 :: x2 :: x3 :: x4 :: x5 :: x6 :: x7 :: x8 :: xs) 8 = some x8 := atI_nat' (k := 8) rfl
theorem at9 {x0 x1 x2 x3 x4 x5 x6 x7 x8 x9 : α} {xs : List α} : atI (x0 :: x1 :: x2 :: x3 :: x4 :: x5 :: x6 :: x7 :: x8 :: x9 :: xs) 9 = some x9 := atI_nat' (k := 9) rfl
theorem at10 {x0 x1 x2 x3 x4 x5 x6 x7 x8 x9 x10 : α} {xs : List α} : atI (x0 :: x1 :: x2 :: x3 :: x4 :: x5 :: x6 :: x7 :: x8 :: x9 :: x10 :: xs) 10 = some x10 := atI_nat' (k := 10) rfl
theorem at11 {x0 x1 x2 x3 x4 x5 x6 x7 x8 x9 x10 x11 : α} {xs : List α} : atI (x0 :: x1 :: x2 :: x3 :: x4 :: x5 :: x6 :: x7 :: x8 :: x9 :: x10 :: x11 :: xs) 11 = some x11 := atI_nat' (k := 11) rfl
theorem at12 {x0 x1 x2 x3 x4 x5 x6 x7 x8 x9 x10 x11 x12 : α} {xs : List α} : atI (x0 :: x1 :: x2 :: x3 :: x4 :: x5 :: x6 :: x7 :: x8 :: x9 :: x10 :: x11 :: x12 :: xs) 12 = some x12 := atI_nat' (k := 12) rfl
theorem at13 {x0 x1 x2 x3 x4 x5 x6 x7 x8 x9 x10 x11 x12 x13 : α} {xs : List α} : atI (x0 :: x1 :: x2 :: x3 :: x4 :: x5 :: x6 :: x7 :: x8 :: x9 :: x10 :: x11 :: x12 :: x13 :: xs) 13 = some x13 := atI_nat' (k := 13) rfl
theorem at14 {x0 x1 x2 x3 x4 x5 x6 x7 x8 x9 x10 x11 x12 x13 x14 : α} {xs : List α} : atI (x0 :: x1 :: x2 :: x3 :: x4 :: x5 :: x6 :: x7 :: x8 :: x9 :: x10 :: x11 :: x12 :: x13 :: x14 :: xs) 14 = some x14 := atI_nat' (k := 14) rfl
theorem at15 {x0 x1 x2 x3 x4 x5 x6 x7 x8 x9 x10 x11 x12 x13 x14 x15 : α} {xs : List α} : atI (x0 :: x1 :: x2 :: x3 :: x4 :: x5 :: x6 :: x7 :: x8 :: x9 :: x10 :: x11 :: x12 :: x13 :: x14 :: x15 :: xs) 15 = some x15 := atI_nat' (k := 15) rfl
theorem at16 {x0 x1 x2 x3 x4 x5 x6 x7 x8 x9 x10 x11 x12 x13 x14 x15 x16 : α} {xs : List α} : atI (x0 :: x1 :: x2 :: x3 :: x4 :: x5 :: x6 :: x7 :: x8 :: x9 :: x10 :: x11 :: x12 :: x13 :: x14 :: x15 :: x16 :: xs) 16 = some x16 := atI_nat' (k := 16) rfl
theorem at17 {x0 x1 x2 x3 x4 x5 x6 x7 x8 x9 x10 x11 x12 x13 x14 x15 x16 x17 : α} {xs : List α} : atI (x0 :: x1 :: x2 :: x3 :: x4 :: x5 :: x6 :: x7 :: x8 :: x9 :: x10 :: x11 :: x12 :: x13 :: x14 :: x15 :: x16 :: x17 :: xs) 17 = some x17 := atI_nat' (k := 17) rfl
theorem at18 {x0 x1 x2 x3 x4 x5 x6 x7 x8 x9 x10 x11 x12 x13 x14 x15 x16 x17 x18 : α} {xs : List α} : atI (x0 :: x1 :: x2 :: x3 :: x4 :: x5 :: x6 :: x7 :: x8 :: x9 :: x10 :: x11 :: x12 :: x13 :: x14 :: x15 :: x16 :: x17 :: x18 :: xs) 18 = some x18 := atI_nat' (k := 18) rfl
theorem at19 {x0 x1 x2 x3 x4 x5 x6 x7 x8 x9 x10 x11 x12 x13 x14 x15 x16 x17 x18 x19 : α} {xs : List α} : atI (x0 :: x1 :: x2 :: x3 :: x4 :: x5 :: x6 :: x7 :: x8 :: x9 :: x10 :: x11 :: x12 :: x13 :: x14 :: x15 :: x16 :: x17 :: x18 :: x19 :: xs) 19 = some x19 := atI_nat' (k := 19) rfl
theorem at20 {x0 x1 x2 x3 x4 x5 x6 x7 x8 x9 x10 x11 x12 x13 x14 x15 x16 x17 x18 x19 x20 : α} {xs : List α} : atI (x0 :: x1 :: x2 :: x3 :: x4 :: x5 :: x6 :: x7 :: x8 :: x9 :: x10 :: x11 :: x12 :: x13 :: x14 :: x15 :: x16 :: x17 :: x18 :: x19 :: x20 :: xs) 20 = some x20 := atI_nat' (k := 20) rfl
theorem at21 {x0 x1 x2 x3 x4 x5 x6 x7 x8 x9 x10 x11 x12 x13 x14 x15 x16 x17 x18 x19 x20 x21 : α} {xs : List α} : atI (x0 :: x1 :: x2 :: x3 :: x4 :: x5 :: x6 :: x7 :: x8 :: x9 :: x10 :: x11 :: x12 :: x13 :: x14 :: x15 :: x16 :: x17 :: x18 :: x19 :: x20 :: x21 :: xs) 21 = some x21 := atI_nat' (k := 21) rfl
theorem at22 {x0 x1 x2 x3 x4 x5 x6 x7 x8 x9 x10 x11 x12 x13 x14 x15 x16 x17 x18 x19 x20 x21 x22 : α} {xs : List α} : atI (x0 :: x1 :: x2 :: x3 :: x4 :: x5 :: x6 :: x7 :: x8 :: x9 :: x10 :: x11 :: x12 :: x13 :: x14 :: x15 :: x16 :: x17 :: x18 :: x19 :: x20 :: x21 :: x22 :: xs) 22 = some x22 := atI_nat' (k := 22) rfl
theorem at23 {x0 x1 x2 x3 x4 x5 x6 x7 x8 x9 x10 x11 x12 x13 x14 x15 x16 x17 x18 x19 x20 x21 x22 x23 : α} {xs : List α} : atI (x0 :: x1 :: x2 :: x3 :: x4 :: x5 :: x6 :: x7 :: x8 :: x9 :: x10 :: x11 :: x12 :: x13 :: x14 :: x15 :: x16 :: x17 :: x18 :: x19 :: x20 :: x21 :: x22 :: x23 :: xs) 23 = some x23 := atI_nat' (k := 23) rfl
theorem at24 {x0 x1 x2 x3 x4 x5 x6 x7 x8 x9 x10 x11 x12 x13 x14 x15 x16 x17 x18 x19 x20 x21 x22 x23 x24 : α} {xs : List α} : atI (x0 :: x1 :: x2 :: x3 :: x4 :: x5 :: x6 :: x7 :: x8 :: x9 :: x10 :: x11 :: x12 :: x13 :: x14 :: x15 :: x16 :: x17 :: x18 :: x19 :: x20 :: x21 :: x22 :: x23 :: x24 :: xs) 24 = some x24 := atI_nat' (k := 24) rfl
theorem at25 {x0 x1 x2 x3 x4 x5 x6 x7 x8 x9 x10 x11 x12 x13 x14 x15 x16 x17 x18 x19 x20 x21 x22 x23 x24 x25 : α} {xs : List α} : atI (x0 :: x1 :: x2 :: x3 :: x4 :: x5 :: x6 :: x7 :: x8 :: x9 :: x10 :: x11 :: x12 :: x13 :: x14 :: x15 :: x16 :: x17 :: x18 :: x19 :: x20 :: x21 :: x22 :: x23 :: x24 :: x25 :: xs) 25 = some x25 := atI_nat' (k := 25) rfl
theorem at26 {x0 x1 x2 x3 x4 x5 x6 x7 x8 x9 x10 x11 x12 x13 x14 x15 x16 x17 x18 x19 x20 x21 x22 x23 x24 x25 x26 : α} {xs : List α} : atI (x0 :: x1 :: x2 :: x3 :: x4 :: x5 :: x6 :: x7 :: x8 :: x9 :: x10 :: x11 :: x12 :: x13 :: x14 :: x15 :: x16 :: x17 :: x18 :: x19 :: x20 :: x21 :: x22 :: x23 :: x24 :: x25 :: x26 :: xs) 26 = some x26 := atI_nat' (k := 26) rfl
theorem at27 {x0 x1 x2 x3 x4 x5 x6 x7 x8 x9 x10 x11 x12 x13 x14 x15 x16 x17 x18 x19 x20 x21 x22 x23 x24 x25 x26 x27 : α} {xs : List α} : atI (x0 :: x1 :: x2 :: x3 :: x4 :: x5 :: x6 :: x7 :: x8 :: x9 :: x10 :: x11 :: x12 :: x13 :: x14 :: x15 :: x16 :: x17 :: x18 :: x19 :: x20 :: x21 :: x22 :: x23 :: x24 :: x25 :: x26 :: x27 :: xs) 27 = some x27 := atI_nat' (k := 27) rfl
theorem at28 {x0 x1 x2 x3 x4 x5 x6 x7 x8 x9 x10 x11 x12 x13 x14 x15 x16 x17 x18 x19 x20 x21 x22 x23 x24 x25 x26 x27 x28 : α} {xs : List α} : atI (x0 :: x1 :: x2 :: x3 :: x4 :: x5 :: x6 :: x7 :: x8 :: x9 :: x10 :: x11 :: x12 :: x13 :: x14 :: x15 :: x16 :: x17 :: x18 :: x19 :: x20 :: x21 :: x22 :: x23 :: x24 :: x25 :: x26 :: x27 :: x28 :: xs) 28 = some x28 := atI_nat' (k := 28) rfl
theorem at29 {x0 x1 x2 x3 x4 x5 x6 x7 x8 x9 x10 x11 x12 x13 x14 x15 x16 x17 x18 x19 x20 x21 x22 x23 x24 x25 x26 x27 x28 x29 : α} {xs : List α} : atI (x0 :: x1 :: x2 :: x3 :: x4 :: x5 :: x6 :: x7 :: x8 :: x9 :: x10 :: x11 :: x12 :: x13 :: x14 :: x15 :: x16 :: x17 :: x18 :: x19 :: x20 :: x21 :: x22 :: x23 :: x24 :: x25 :: x26 :: x27 :: x28 :: x29 :: xs) 29 = some x29 := atI_nat' (k := 29) rfl
theorem at30 {x0 x1 x2 x3 x4 x5 x6 x7 x8 x9 x10 x11 x12 x13 x14 x15 x16 x17 x18 x19 x20 x21 x22 x23 x24 x25 x26 x27 x28 x29 x30 : α} {xs : List α} : atI (x0 :: x1 :: x2 :: x3 :: x4 :: x5 :: x6 :: x7 :: x8 :: x9 :: x10 :: x11 :: x12 :: x13 :: x14 :: x15 :: x16 :: x17 :: x18 :: x19 :: x20 :: x21 :: x22 :: x23 :: x24 :: x25 :: x26 :: x27 :: x28 :: x29 :: x30 :: xs) 30 = some x30 := atI_nat' (k := 30) rfl
theorem at31 {x0 x1 x2 x3 x4 x5 x6 x7 x8 x9 x10 x11 x12 x13 x14 x15 x16 x17 x18 x19 x20 x21 x22 x23 x24 x25 x26 x27 x28 x29 x30 x31 : α} {xs : List α} : atI (x0 :: x1 :: x2 :: x3 :: x4 :: x5 :: x6 :: x7 :: x8 :: x9 :: x10 :: x11 :: x12 :: x13 :: x14 :: x15 :: x16 :: x17 :: x18 :: x19 :: x20 :: x21 :: x22 :: x23 :: x24 :: x25 :: x26 :: x27 :: x28 :: x29 :: x30 :: x31 :: xs) 31 = some x31 := atI_nat' (k := 31) rfl
theorem at32 {x0 x1 x2 x3 x4 x5 x6 x7 x8 x9 x10 x11 x12 x13 x14 x15 x16 x17 x18 x19 x20 x21 x22 x23 x24 x25 x26 x27 x28 x29 x30 x31 x32 : α} {xs : List α} : atI (x0 :: x1 :: x2 :: x3 :: x4 :: x5 :: x6 :: x7 :: x8 :: x9 :: x10 :: x11 :: x12 :: x13 :: x14 :: x15 :: x16 :: x17 :: x18 :: x19 :: x20 :: x21 :: x22 :: x23 :: x24 :: x25 :: x26 :: x27 :: x28 :: x29 :: x30 :: x31 :: x32 :: xs) 32 = some x32 := atI_nat' (k := 32) rfl
theorem at33 {x0 x1 x2 x3 x4 x5 x6 x7 x8 x9 x10 x11 x12 x13 x14 x15 x16 x17 x18 x19 x20 x21 x22 x23 x24 x25 x26 x27 x28 x29 x30 x31 x32 x33 : α} {xs : List α} : atI (x0 :: x1 :: x2 :: x3 :: x4 :: x5 :: x6 :: x7 :: x8 :: x9 :: x10 :: x11 :: x12 :: x13 :: x14 :: x15 :: x16 :: x17 :: x18 :: x19 :: x20 :: x21 :: x22 :: x23 :: x24 :: x25 :: x26 :: x27 :: x28 :: x29 :: x30 :: x31 :: x32 :: x33 :: xs) 33 = some x33 := atI_nat' (k := 33) rfl
theorem at34 {x0 x1 x2 x3 x4 x5 x6 x7 x8 x9 x10 x11 x12 x13 x14 x15 x16 x17 x18 x19 x20 x21 x22 x23 x24 x25 x26 x27 x28 x29 x30 x31 x32 x33 x34 : α} {xs : List α} : atI (x0 :: x1 :: x2 :: x3 :: x4 :: x5 :: x6 :: x7 :: x8 :: x9 :: x10 :: x11 :: x12 :: x13 :: x14 :: x15 :: x16 :: x17 :: x18 :: x19 :: x20 :: x21 :: x22 :: x23 :: x24 :: x25 :: x26 :: x27 :: x28 :: x29 :: x30 :: x31 :: x32 :: x33 :: x34 :: xs) 34 = some x34 := atI_nat' (k := 34) rfl
theorem at35 {x0 x1 x2 x3 x4 x5 x6 x7 x8 x9 x10 x11 x12 x13 x14 x15 x16 x17 x18 x19 x20 x21 x22 x23 x24 x25 x26 x27 x28 x29 x30 x31 x32 x33 x34 x35 : α} {xs : List α} : atI (x0 :: x1 :: x2 :: x3 :: x4 :: x5 :: x6 :: x7 :: x8 :: x9 :: x10 :: x11 :: x12 :: x13 :: x14 :: x15 :: x16 :: x17 :: x18 :: x19 :: x20 :: x21 :: x22 :: x23 :: x24 :: x25 :: x26 :: x27 :: x28 :: x29 :: x30 :: x31 :: x32 :: x33 :: x34 :: x35 :: xs) 35 = some x35 := atI_nat' (k := 35) rfl
theorem at36 {x0 x1 x2 x3 x4 x5 x6 x7 x8 x9 x10 x11 x12 x13 x14 x15 x16 x17 x18 x19 x20 x21 x22 x23 x24 x25 x26 x27 x28 x29 x30 x31 x32 x33 x34 x35 x36 : α} {xs : List α} : atI (x0 :: x1 :: x2 :: x3 :: x4 :: x5 :: x6 :: x7 :: x8 :: x9 :: x10 :: x11 :: x12 :: x13 :: x14 :: x15 :: x16 :: x17 :: x18 :: x19 :: x20 :: x21 :: x22 :: x23 :: x24 :: x25 :: x26 :: x27 :: x28 :: x29 :: x30 :: x31 :: x32 :: x33 :: x34 :: x35 :: x36 :: xs) 36 = some x36 := atI_nat' (k := 36) rfl
theorem at37 {x0 x1 x2 x3 x4 x5 x6 x7 x8 x9 x10 x11 x12 x13 x14 x15 x16 x17 x18 x19 x20 x21 x22 x23 x24 x25 x26 x27 x28 x29 x30 x31 x32 x33 x34 x35 x36 x37 : α} {xs : List α} : atI (x0 :: x1 :: x2 :: x3 :: x4 :: x5 :: x6 :: x7 :: x8 :: x9 :: x10 :: x11 :: x12 :: x13 :: x14 :: x15 :: x16 :: x17 :: x18 :: x19 :: x20 :: x21 :: x22 :: x23 :: x24 :: x25 :: x26 :: x27 :: x28 :: x29 :: x30 :: x31 :: x32 :: x33 :: x34 :: x35 :: x36 :: x37 :: xs) 37 = some x37 := atI_nat' (k := 37) rfl
theorem at38 {x0 x1 x2 x3 x4 x5 x6 x7 x8 x9 x10 x11 x12 x13 x14 x15 x16 x17 x18 x19 x20 x21 x22 x23 x24 x25 x26 x27 x28 x29 x30 x31 x32 x33 x34 x35 x36 x37 x38 : α} {xs : List α} : atI (x0 :: x1 :: x2 :: x3 :: x4 :: x5 :: x6 :: x7 :: x8 :: x9 :: x10 :: x11 :: x12 :: x13 :: x14 :: x15 :: x16 :: x17 :: x18 :: x19 :: x20 :: x21 :: x22 :: x23 :: x24 :: x25 :: x26 :: x27 :: x28 :: x29 :: x30 :: x31 :: x32 :: x33 :: x34 :: x35 :: x36 :: x37 :: x38 :: xs) 38 = some x38 := atI_nat' (k := 38) rfl
theorem at39 {x0 x1 x2 x3 x4 x5 x6 x7 x8 x9 x10 x11 x12 x13 x14 x15 x16 x17 x18 x19 x20 x21 x22 x23 x24 x25 x26 x27 x28 x29 x30 x31 x32 x33 x34 x35 x36 x37 x38 x39 : α} {xs : List α} : atI (x0 :: x1 :: x2 :: x3 :: x4 :: x5 :: x6 :: x7 :: x8 :: x9 :: x10 :: x11 :: x12 :: x13 :: x14 :: x15 :: x16 :: x17 :: x18 :: x19 :: x20 :: x21 :: x22 :: x23 :: x24 :: x25 :: x26 :: x27 :: x28 :: x29 :: x30 :: x31 :: x32 :: x33 :: x34 :: x35 :: x36 :: x37 :: x38 :: x39 :: xs) 39 = some x39 := atI_nat' (k := 39) rfl
theorem at40 {x0 x1 x2 x3 x4 x5 x6 x7 x8 x9 x10 x11 x12 x13 x14 x15 x16 x17 x18 x19 x20 x21 x22 x23 x24 x25 x26 x27 x28 x29 x30 x31 x32 x33 x34 x35 x36 x37 x38 x39 x40 : α} {xs : List α} : atI (x0 :: x1 :: x2 :: x3 :: x4 :: x5 :: x6 :: x7 :: x8 :: x9 :: x10 :: x11 :: x12 :: x13 :: x14 :: x15 :: x16 :: x17 :: x18 :: x19 :: x20 :: x21 :: x22 :: x23 :: x24 :: x25 :: x26 :: x27 :: x28 :: x29 :: x30 :: x31 :: x32 :: x33 :: x34 :: x35 :: x36 :: x37 :: x38 :: x39 :: x40 :: xs) 40 = some x40 := atI_nat' (k := 40) rfl
end
/-! ways that meet again -/
theorem ite_and_c {p q A B : Prop} [Decidable p] [Decidable q] : (if p then (if q then A else B) else B) = (if p ∧ q then A else B) := by
  by_cases hp : p <;> simp [hp]
theorem ite_or_c {p q A B : Prop} [Decidable p] [Decidable q] : (if p then A else (if q then A else B)) = (if p ∨ q then A else B) := by
  by_cases hp : p <;> simp [hp]
theorem ite_nand_c {p q A B : Prop} [Decidable p] [Decidable q] : (if p then (if q then B else A) else B) = (if p ∧ ¬ q then A else B) := by
  by_cases hp : p <;> by_cases hq : q <;> simp [hp, hq]
theorem ite_nor_c {p q A B : Prop} [Decidable p] [Decidable q] : (if p then A else (if q then B else A)) = (if p ∨ ¬ q then A else B) := by
  by_cases hp : p <;> by_cases hq : q <;> simp [hp, hq]
end Fc
end

section
set_option maxRecDepth 100000
/-! What a def comes to hangs on the defs that it calls alone. -/
namespace Fc
open PySem L2
mutual
def clE : E → List Nat
  | .var _ => [] | .con _ => []
  | .bin _ a b => clE a ++ clE b | .neg a => clE a
  | .and a b => clE a ++ clE b | .or a b => clE a ++ clE b | .not a => clE a
  | .cmp _ a b => clE a ++ clE b | .chain _ _ a b c => clE a ++ (clE b ++ clE c)
  | .ife c a b => clT c ++ (clE a ++ clE b)
  | .tup es => clEs es | .lst es => clEs es | .dic _ es => clEs es
  | .idx a i => clE a ++ clE i | .slc _ _ a l h => clE a ++ (clE l ++ clE h)
  | .fld a _ => clE a
  | .call f es _ => f :: clEs es
  | .blt _ es => clEs es | .mth _ a es => clE a ++ clEs es | .isi a _ => clE a
  | .lc e _ _ src cs _ => clEs src ++ (clTs cs ++ clE e)
  | .fst es => clEs es
  | .mut _ p _ es => clEs p ++ clEs es
  | .rep a n => clE a ++ clE n | .rev a => clE a
def clEs : List E → List Nat
  | [] => []
  | e :: es => clE e ++ clEs es
def clT : Fc.T → List Nat
  | .val e => clE e | .and a b => clT a ++ clT b | .or a b => clT a ++ clT b | .not a => clT a | .ife c a b => clT c ++ (clT a ++ clT b)
def clTs : List Fc.T → List Nat
  | [] => []
  | e :: es => clT e ++ clTs es
end
mutual
def clS : S → List Nat
  | .ex e => clE e
  | .asg _ e => clE e
  | .par _ es => clEs es
  | .aug _ _ e => clE e
  | .seti _ p ix e => clE e ++ (clEs p ++ clE ix)
  | .augi _ p ix _ e => clEs p ++ (clE ix ++ clE e)
  | .ret e => clE e
  | .rse _ _ es => clEs es
  | .ife c a b => clT c ++ (clSs a ++ clSs b)
  | .whl c b => clT c ++ clSs b
  | .loop _ _ src b => clEs src ++ clSs b
  | .tryx b _ _ h => clSs b ++ clSs h
  | .pass => []
def clSs : List S → List Nat
  | [] => []
  | s :: ss => clS s ++ clSs ss
end
section
variable {Γ Γ' : Gam} (hs : Γ.sup = Γ'.sup) (hf : Γ.fuel = Γ'.fuel)
abbrev Ag (Γ Γ' : Gam) (l : List Nat) : Prop := ∀ f ∈ l, Γ.call f = Γ'.call f
theorem Ag.l {a b : List Nat} (h : Ag Γ Γ' (a ++ b)) : Ag Γ Γ' a := fun f hf => h f (List.mem_append_left _ hf)
theorem Ag.r {a b : List Nat} (h : Ag Γ Γ' (a ++ b)) : Ag Γ Γ' b := fun f hf => h f (List.mem_append_right _ hf)
include hs hf
set_option maxHeartbeats 4000000
mutual
theorem agE : ∀ e : E, Ag Γ Γ' (clE e) → evE Γ e = evE Γ' e
  | .var _, _ => by funext env; rfl
  | .con _, _ => by funext env; rfl
  | .bin _ a b, h => by funext env; simp only [evE, agE a h.l, agE b h.r]
  | .neg a, h => by funext env; simp only [evE, agE a h]
  | .and a b, h => by funext env; simp only [evE, agE a h.l, agE b h.r]
  | .or a b, h => by funext env; simp only [evE, agE a h.l, agE b h.r]
  | .not a, h => by funext env; simp only [evE, agE a h]
  | .cmp _ a b, h => by funext env; simp only [evE, agE a h.l, agE b h.r]
  | .chain _ _ a b c, h => by funext env; simp only [evE, agE a h.l, agE b (Ag.l (Ag.r h)), agE c (Ag.r (Ag.r h))]
  | .ife c a b, h => by funext env; simp only [evE, agT c h.l, agE a (Ag.l (Ag.r h)), agE b (Ag.r (Ag.r h))]
  | .tup es, h => by funext env; simp only [evE, agEs es h]
  | .lst es, h => by funext env; simp only [evE, agEs es h]
  | .dic _ es, h => by funext env; simp only [evE, agEs es h]
  | .idx a b, h => by funext env; simp only [evE, agE a h.l, agE b h.r]
  | .slc _ _ a b c, h => by funext env; simp only [evE, agE a h.l, agE b (Ag.l (Ag.r h)), agE c (Ag.r (Ag.r h))]
  | .fld a _, h => by funext env; simp only [evE, agE a h]
  | .call f es _, h => by
    funext env
    have h1 : Γ.call f = Γ'.call f := h f List.mem_cons_self
    simp only [evE, agEs es (fun f hf => h f (List.mem_cons_of_mem _ hf)), h1]
  | .blt _ es, h => by funext env; simp only [evE, agEs es h]
  | .mth _ a es, h => by funext env; simp only [evE, agE a h.l, agEs es h.r]
  | .isi a _, h => by funext env; simp only [evE, agE a h, hs]
  | .lc e _ _ src cs _, h => by funext env; simp only [evE, agEs src h.l, agTs cs (Ag.l (Ag.r h)), agE e (Ag.r (Ag.r h))]
  | .fst es, h => by funext env; simp only [evE, agEs es h]
  | .mut _ p _ es, h => by funext env; simp only [evE, agEs p h.l, agEs es h.r]
  | .rep a b, h => by funext env; simp only [evE, agE a h.l, agE b h.r]
  | .rev a, h => by funext env; simp only [evE, agE a h]
theorem agEs : ∀ es : List E, Ag Γ Γ' (clEs es) → evEs Γ es = evEs Γ' es
  | [], _ => by funext env; rfl
  | e :: es, h => by funext env; simp only [evEs, agE e h.l, agEs es h.r]
theorem agT : ∀ e : Fc.T, Ag Γ Γ' (clT e) → evT Γ e = evT Γ' e
  | .val e, h => by funext env; simp only [evT, agE e h]
  | .and a b, h => by funext env; simp only [evT, agT a h.l, agT b h.r]
  | .or a b, h => by funext env; simp only [evT, agT a h.l, agT b h.r]
  | .not a, h => by funext env; simp only [evT, agT a h]
  | .ife c a b, h => by funext env; simp only [evT, agT c h.l, agT a (Ag.l (Ag.r h)), agT b (Ag.r (Ag.r h))]
theorem agTs : ∀ es : List Fc.T, Ag Γ Γ' (clTs es) → evTs Γ es = evTs Γ' es
  | [], _ => by funext env; rfl
  | e :: es, h => by funext env; simp only [evTs, agT e h.l, agTs es h.r]
end
mutual
theorem agS : ∀ s : S, Ag Γ Γ' (clS s) → exS Γ s = exS Γ' s
  | .ex e, h => by funext env; simp only [exS, agE hs hf e h]
  | .asg _ e, h => by funext env; simp only [exS, agE hs hf e h]
  | .par _ es, h => by funext env; simp only [exS, agEs hs hf es h]
  | .aug _ _ e, h => by funext env; simp only [exS, agE hs hf e h]
  | .seti _ p ix e, h => by funext env; simp only [exS, agE hs hf e h.l, agEs hs hf p (Ag.l (Ag.r h)), agE hs hf ix (Ag.r (Ag.r h))]
  | .augi _ p ix _ e, h => by funext env; simp only [exS, agEs hs hf p h.l, agE hs hf ix (Ag.l (Ag.r h)), agE hs hf e (Ag.r (Ag.r h))]
  | .ret e, h => by funext env; simp only [exS, agE hs hf e h]
  | .rse _ _ es, h => by funext env; simp only [exS, agEs hs hf es h]
  | .ife c a b, h => by funext env; simp only [exS, agT hs hf c h.l, agSs a (Ag.l (Ag.r h)), agSs b (Ag.r (Ag.r h))]
  | .whl c b, h => by funext env; simp only [exS, agT hs hf c h.l, agSs b h.r, hf]
  | .loop _ _ src b, h => by funext env; simp only [exS, agEs hs hf src h.l, agSs b h.r]
  | .tryx b _ i q, h => by funext env; simp only [exS, agSs b h.l, agSs q h.r, hs]
  | .pass, _ => by funext env; rfl
theorem agSs : ∀ ss : List S, Ag Γ Γ' (clSs ss) → exSs Γ ss = exSs Γ' ss
  | [], _ => by funext env; rfl
  | e :: es, h => by funext env; simp only [exSs, agS e h.l, agSs es h.r]
end
end
/-- two tables that agree on what is reached -/
theorem callN_agree {fs gs : Nat → Option Fn} {sup : Nat → Nat → Bool} {fuel : Nat} (P : Nat → Prop) (h : ∀ i, P i → fs i = gs i) (hc : ∀ i fn, P i → gs i = some fn → ∀ j ∈ clSs fn.body, P j) :
    ∀ (n i : Nat), P i → callN fs sup fuel n i = callN gs sup fuel n i
  | 0, i, _ => rfl
  | n + 1, i, hi => by
    funext ds
    show (match fs i with | some fn => runF ⟨callN fs sup fuel n, sup, fuel⟩ fn ds | none => .err) = (match gs i with | some fn => runF ⟨callN gs sup fuel n, sup, fuel⟩ fn ds | none => .err)
    rw [h i hi]
    cases q : gs i with
    | none => rfl
    | some fn =>
      show runF _ fn ds = runF _ fn ds
      unfold runF
      rw [agSs (Γ := ⟨callN fs sup fuel n, sup, fuel⟩) (Γ' := ⟨callN gs sup fuel n, sup, fuel⟩) rfl rfl fn.body fun j hj => callN_agree P h hc n j (hc i fn hi q j hj)]
/-- .. by a list of numbers -/
def closedB (gs : Nat → Option Fn) (ids : List Nat) : Bool := ids.all fun i => match gs i with
  | some fn => (clSs fn.body).all fun j => ids.contains j
  | none => true
def AllN (p : Nat → Prop) : List Nat → Prop
  | [] => True
  | i :: is => p i ∧ AllN p is
theorem allN {p : Nat → Prop} : ∀ {is : List Nat}, AllN p is → ∀ i ∈ is, p i
  | [], _, i, h => by simp at h
  | e :: es, a, i, h => by
    rcases List.mem_cons.mp h with rfl | h
    · exact a.1
    · exact allN a.2 i h
theorem agree_of {fs gs : Nat → Option Fn} {sup : Nat → Nat → Bool} {fuel : Nat} {ids : List Nat} (h : AllN (fun i => fs i = gs i) ids) (hc : closedB gs ids = true) (n i : Nat) (hi : ids.contains i = true) : callN fs sup fuel n i = callN gs sup fuel n i := by
  refine callN_agree (fun i => i ∈ ids) (fun i hi => allN h i hi) (fun i fn hi e j hj => ?_) n i (by simpa using hi)
  have := List.all_eq_true.mp hc i hi
  simp only [e] at this
  simpa using List.all_eq_true.mp this j hj
/-! ### calls, by what is wanted behind -/
section
variable {Γ : Gam} {α : Type}
/-- a def's end -/
def wEnd (imm : Bool) (io : List Nat) (d : D) (env : Env) [Q : Kk (D → List D → Prop)] : Prop := @wpD _ (iosD env io) ⟨fun ios => (imm = true → d.imm = true) ∧ Q.f d ios⟩
theorem wEnd_t {d : D} {env : Env} {Q : Kk (D → List D → Prop)} : wEnd true [] d env = (d.imm = true ∧ Q.f d []) := by
  show ((true = true → d.imm = true) ∧ _) = _
  simp
theorem wEnd_f {d : D} {env : Env} {Q : Kk (D → List D → Prop)} : wEnd false [] d env = Q.f d [] := by
  show ((false = true → d.imm = true) ∧ _) = _
  simp
theorem wEnd_io {i : Nat} {is : List Nat} {d : D} {env : Env} {Q : Kk (D → List D → Prop)} : @wEnd false (i :: is) d env Q = @wGet env i ⟨fun x => @wEnd false is d env ⟨fun r ios => Q.f r (x :: ios)⟩⟩ := by
  unfold wEnd wGet
  have e : iosD env (i :: is) = (match slotD env i, iosD env is with | some d, some ds => some (d :: ds) | _, _ => none) := rfl
  rw [e]
  cases slotD env i with
  | none => rfl
  | some x =>
    dsimp only [wpD]
    cases iosD env is <;> rfl
theorem retD_w {imm : Bool} {d : D} {o : Option (List D)} {Q X : Kk (D → List D → Prop)} (h : @wpD _ o ⟨fun ios => (imm = true → d.imm = true) ∧ Q.f d ios⟩) : @wpF (retD imm d o) Q X := by
  cases o with
  | none => exact h
  | some ios =>
    obtain ⟨h1, h2⟩ := h
    show @wpF (if imm && !d.imm then .err else .ok d ios) Q X
    rw [if_neg]
    · exact h2
    · intro q
      rw [Bool.and_eq_true] at q
      rw [h1 q.1] at q
      exact Bool.noConfusion q.2
/-- a call of def i -/
theorem wF_call {fs : Nat → Option Fn} {sup : Nat → Nat → Bool} {fuel m i : Nat} {ds : List D} {Q X : Kk (D → List D → Prop)} (fn : Fn) (h : fs i = some fn) (hl : ds.length = fn.np)
    (hw : @wSs ⟨callN fs sup fuel m, sup, fuel⟩ fn.body (ds.map some ++ List.replicate (fn.ns - fn.np) none) ⟨fun env => @wEnd fn.imm fn.io .non env Q⟩ ⟨fun d env => @wEnd fn.imm fn.io d env Q⟩ ⟨fun x env => @wpD _ (iosD env fn.io) ⟨fun ios => X.f x ios⟩⟩) : @wpF (callN fs sup fuel (m + 1) i ds) Q X := by
  show @wpF (match fs i with | some fn => runF ⟨callN fs sup fuel m, sup, fuel⟩ fn ds | none => .err) Q X
  rw [h]
  show @wpF (if ds.length = fn.np then endF fn (exSs ⟨callN fs sup fuel m, sup, fuel⟩ fn.body (ds.map some ++ List.replicate (fn.ns - fn.np) none)) else .err) Q X
  rw [if_pos hl]
  unfold wSs at hw
  cases q : exSs ⟨callN fs sup fuel m, sup, fuel⟩ fn.body (ds.map some ++ List.replicate (fn.ns - fn.np) none) with
  | nx env => rw [q] at hw; exact retD_w hw
  | rt d env => rw [q] at hw; exact retD_w hw
  | exn x env =>
    rw [q] at hw
    show @wpF (exnD x (iosD env fn.io)) Q X
    have hw : @wpD _ (iosD env fn.io) ⟨fun ios => X.f x ios⟩ := hw
    cases e : iosD env fn.io with
    | none => rw [e] at hw; exact hw
    | some ios => rw [e] at hw; exact hw
  | err => rw [q] at hw; exact hw.elim
theorem wF_go {fs : Nat → Option Fn} {sup : Nat → Nat → Bool} {fuel m i : Nat} {ds : List D} {Q X : Kk (D → List D → Prop)} (fn : Fn) (c : List S) (env : Env) (h : fs i = some fn) (hl : ds.length = fn.np) (hc : fn.body = c) (he : ds.map some ++ List.replicate (fn.ns - fn.np) none = env)
    (hw : @wSs ⟨callN fs sup fuel m, sup, fuel⟩ c env ⟨fun env => @wEnd fn.imm fn.io .non env Q⟩ ⟨fun d env => @wEnd fn.imm fn.io d env Q⟩ ⟨fun x env => @wpD _ (iosD env fn.io) ⟨fun ios => X.f x ios⟩⟩) : @wpF (callN fs sup fuel (m + 1) i ds) Q X := by
  subst hc he
  exact wF_call fn h hl hw
/-- what a call comes to, told -/
theorem wF_eq {r : FRes} {d : D} {i : List D} (h : @wpF r ⟨fun d' i' => d' = d ∧ i' = i⟩ ⟨fun _ _ => False⟩) : r = .ok d i := by
  cases r with
  | ok d' i' => obtain ⟨rfl, rfl⟩ := h; rfl
  | exn d' i' => exact h.elim
  | err => exact h.elim
/-- .. of what kind -/
theorem wF_ex {r : FRes} {P : D → Prop} (h : @wpF r ⟨fun d' i' => P d' ∧ i' = []⟩ ⟨fun _ _ => False⟩) : ∃ d, P d ∧ r = .ok d [] := by
  cases r with
  | ok d' i' => obtain ⟨h, rfl⟩ := h; exact ⟨d', h, rfl⟩
  | exn d' i' => exact h.elim
  | err => exact h.elim
theorem wF_ex2 {r : FRes} {P : D → List D → Prop} (h : @wpF r ⟨fun d' i' => P d' i'⟩ ⟨fun _ _ => False⟩) : ∃ d i, P d i ∧ r = .ok d i := by
  cases r with
  | ok d' i' => exact ⟨d', i', h, rfl⟩
  | exn d' i' => exact h.elim
  | err => exact h.elim
end
end Fc
end

section
set_option maxRecDepth 100000
/-! Comprehensions, by what each turn makes. -/
namespace Fc
open PySem L2
theorem wipeE_nil {env : Env} : wipeE env [] = env := rfl
theorem wipeE_cons {env : Env} {v : Nat} {vs : List Nat} : wipeE env (v :: vs) = (wipeE env vs).set v none := rfl
theorem kindD_lst {xs : List D} : (kindD (.lst xs) = 1) = True := eq_true rfl
theorem ix_nn {n : Nat} {j : Int} (h0 : 0 ≤ j) (h1 : j < n) : ixN n j = some j.toNat := by
  unfold ixN
  rw [if_pos h0, if_pos (by omega)]
theorem wSeti_lit {xs : List D} {j : Int} {v : D} {env : Env} {i : Nat} {N : KE} (h : (0 ≤ j ∧ j < (xs.length : Int)) = True) : @wSeti (.lst xs) (.int j) v env i N = @wSet env i (some (.lst (xs.set j.toNat v))) N :=
  wSeti_at (ix_nn (of_eq_true h).1 (of_eq_true h).2)
theorem mthT_join {s : Str} : mthT .join (.str s) = True := by simp [mthT]
theorem mthT_split {s : Str} : mthT .split (.str s) = True := by simp [mthT]
theorem mthT_partition {s : Str} : mthT .partition (.str s) = True := by simp [mthT]
theorem mthT_isdigit {s : Str} : mthT .isdigit (.str s) = True := by simp [mthT]
theorem mthT_index {s : List D} : mthT .index (.lst s) = True := by simp [mthT]
theorem mthT_count {s : List D} : mthT .count (.lst s) = True := by simp [mthT]
theorem lenOk_le {n : Nat} : (lenOk n = true) = (n ≤ 16777216) := propext ⟨fun h => of_decide_eq_true h, fun h => decide_eq_true h⟩
theorem lenLt_lt {n : Nat} : (lenLt n = true) = (n < 16777216) := propext ⟨fun h => of_decide_eq_true h, fun h => decide_eq_true h⟩
theorem wBin_pow10 {b : Int} {Q : KD} (h : (0 ≤ b ∧ b ≤ 1000000) = True) : wBin .pow (.int 10) (.int b) = Q.f (.int (10 ^ b.toNat)) := by
  have h : 0 ≤ b ∧ b ≤ 1000000 := of_eq_true h
  show @wpD _ (if powOk 10 b then some (D.int (10 ^ b.toNat)) else none) Q = _
  rw [if_pos (show powOk 10 b = true from decide_eq_true ⟨h.1, h.2, by decide⟩)]
  rfl
/-- what a comprehension's turns make: some of them nothing -/
inductive Made (P : D → Option D → Prop) : List D → List D → Prop
  | nil : Made P [] []
  | one {d y : D} {xs ys : List D} (h : P d (some y)) (r : Made P xs ys) : Made P (d :: xs) (y :: ys)
  | no {d : D} {xs ys : List D} (h : P d none) (r : Made P xs ys) : Made P (d :: xs) ys
theorem Made.len {P : D → Option D → Prop} {xs ys : List D} (h : Made P xs ys) : ys.length ≤ xs.length := by
  induction h with
  | nil => simp
  | one h r ih => simp; exact ih
  | no h r ih => simp; omega
theorem back_same : ∀ (own : List Nat) (env : Env), backE env env own = env
  | [], env => rfl
  | v :: own, env => by
    show (backE env env own).set v (env[v]?.getD none) = env
    rw [back_same own env]
    apply List.ext_getElem?
    intro j
    by_cases h : v = j
    · subst h
      by_cases hl : v < env.length
      · rw [List.getElem?_set_self hl]
        rw [List.getElem?_eq_getElem hl]
        rfl
      · rw [List.getElem?_eq_none (by simpa using hl), List.getElem?_eq_none (by simpa using hl)]
    · rw [List.getElem?_set_ne h]
/-- one turn's wish -/
def wTurn (Γ : Gam) (elt : E) (tg : Tg) (cs : List Fc.T) (own : List Nat) (env : Env) (d : D) (P : Option D → Prop) : Prop :=
  @wAsg tg d (wipeE env own) ⟨fun e2 => (wipeE e2 own = wipeE env own ∧ backE e2 env own = env) ∧
    match cs with
    | [] => @wE Γ elt e2 ⟨fun y e3 => e3 = e2 ∧ P (some y)⟩ ⟨fun _ _ => False⟩
    | [c] => @wIf Γ c e2 ⟨fun e3 => e3 = e2 ∧ @wE Γ elt e3 ⟨fun y e4 => e4 = e2 ∧ P (some y)⟩ ⟨fun _ _ => False⟩⟩ ⟨fun e3 => e3 = e2 ∧ P none⟩ ⟨fun _ _ => False⟩
    | _ => False⟩
section
variable {Γ : Gam} {elt : E} {tg : Tg} {cs : List Fc.T} {own : List Nat} {env : Env}
theorem turn_ok {d : D} {P : Option D → Prop} (h : wTurn Γ elt tg cs own env d P) {env' : Env} (he : wipeE env' own = wipeE env own) :
    ∃ o e3, P o ∧ wipeE e3 own = wipeE env own ∧ backE e3 env own = env ∧
      (lcTurn tg own d env' fun env2 => (evTs Γ cs env2).bind fun t env3 => iteK t env3 (fun env3 => (evE Γ elt env3).bind fun y env4 => .ok (some y) env4) (fun env3 => .ok none env3)) = .ok o e3 := by
  unfold wTurn wAsg at h
  unfold lcTurn
  rw [he]
  cases ha : asgT tg d (wipeE env own) with
  | none => rw [ha] at h; exact h.elim
  | some e2 =>
    rw [ha] at h
    obtain ⟨⟨g1, g2⟩, h⟩ : (wipeE e2 own = wipeE env own ∧ backE e2 env own = env) ∧ _ := h
    match cs with
    | [] =>
      have h : wpO (evE Γ elt e2) (fun y e3 => e3 = e2 ∧ P (some y)) (fun _ _ => False) := h
      cases hv : evE Γ elt e2 with
      | ok y e3 =>
        rw [hv] at h
        obtain ⟨rfl, hp⟩ := h
        refine ⟨some y, _, hp, g1, g2, ?_⟩
        show noExn ((Out.ok true e3).bind _) = _
        show noExn ((evE Γ elt e3).bind _) = _
        rw [hv]
        rfl
      | exn _ _ => rw [hv] at h; exact h.elim
      | err => rw [hv] at h; exact h.elim
    | [c] =>
      have h : wpO (evT Γ c e2) (fun b e => if b = true then (e = e2 ∧ @wE Γ elt e ⟨fun y e4 => e4 = e2 ∧ P (some y)⟩ ⟨fun _ _ => False⟩) else (e = e2 ∧ P none)) (fun _ _ => False) := h
      cases hc : evT Γ c e2 with
      | ok b e =>
        rw [hc] at h
        cases b with
        | true =>
          obtain ⟨rfl, h⟩ := h
          have h : wpO (evE Γ elt e) (fun y e4 => e4 = e ∧ P (some y)) (fun _ _ => False) := h
          cases hv : evE Γ elt e with
          | ok y e3 =>
            rw [hv] at h
            obtain ⟨rfl, hp⟩ := h
            refine ⟨some y, _, hp, g1, g2, ?_⟩
            show noExn ((((evT Γ c e3).bind fun x env1 => iteK x env1 (evTs Γ []) (.ok false))).bind _) = _
            rw [hc]
            show noExn ((evE Γ elt e3).bind _) = _
            rw [hv]
            rfl
          | exn _ _ => rw [hv] at h; exact h.elim
          | err => rw [hv] at h; exact h.elim
        | false =>
          obtain ⟨rfl, hp⟩ := h
          refine ⟨none, _, hp, g1, g2, ?_⟩
          show noExn ((((evT Γ c e).bind fun x env1 => iteK x env1 (evTs Γ []) (.ok false))).bind _) = _
          rw [hc]
          rfl
      | exn _ _ => rw [hc] at h; exact h.elim
      | err => rw [hc] at h; exact h.elim
    | _ :: _ :: _ => exact h.elim
theorem lc_go {P : D → Option D → Prop} : ∀ (xs : List D) (acc : List D) (env' : Env), wipeE env' own = wipeE env own → backE env' env own = env → acc.length + xs.length ≤ sizeLine → (∀ d ∈ xs, wTurn Γ elt tg cs own env d (P d)) →
    ∃ ys e3, Made P xs ys ∧ backE e3 env own = env ∧ lcL (fun d env' => lcTurn tg own d env' fun env2 => (evTs Γ cs env2).bind fun t env3 =>
        iteK t env3 (fun env3 => (evE Γ elt env3).bind fun y env4 => .ok (some y) env4) (fun env3 => .ok none env3)) xs acc env' = .ok (.lst (acc ++ ys)) e3
  | [], acc, env', _, h2, _, _ => ⟨[], env', .nil, h2, by simp [lcL]⟩
  | d :: xs, acc, env', h1, h2, hl, h => by
    obtain ⟨o, e3, hp, g1, g2, e⟩ := turn_ok (h d (by simp)) h1
    have hl : acc.length + (xs.length + 1) ≤ sizeLine := hl
    unfold lcL
    rw [e]
    cases o with
    | none =>
      obtain ⟨ys, e4, m, b, q⟩ := lc_go xs acc e3 g1 g2 (by omega) fun d hd => h d (by simp [hd])
      exact ⟨ys, e4, .no hp m, b, q⟩
    | some y =>
      obtain ⟨ys, e4, m, b, q⟩ := lc_go xs (acc ++ [y]) e3 g1 g2 (by rw [List.length_append, List.length_singleton]; omega) fun d hd => h d (by simp [hd])
      refine ⟨y :: ys, e4, .one hp m, b, ?_⟩
      show (if lenLt acc.length = true then _ else _) = _
      have hk : lenLt acc.length = true := decide_eq_true (by omega)
      rw [if_pos hk, q]
      simp
/-- a comprehension -/
theorem wLc_of (P : D → Option D → Prop) {xs : List D} {Q : KQ} (hl : xs.length ≤ sizeLine) (h : ∀ d ∈ xs, wTurn Γ elt tg cs own env d (P d)) (hq : ∀ ys, Made P xs ys → Q.f (.lst ys) env) : @wLc Γ elt tg cs own xs env Q := by
  obtain ⟨ys, e3, m, b, q⟩ := lc_go xs [] env rfl (back_same _ _) (by simpa using hl) h
  unfold wLc
  rw [q]
  show Q.f (.lst ([] ++ ys)) (backE e3 env own)
  rw [b]
  exact hq ys m
end
/-- where each turn makes just f d -/
theorem Made.map {P : D → Option D → Prop} {f : D → D} (hf : ∀ d o, P d o → o = some (f d)) : ∀ {xs ys : List D}, Made P xs ys → ys = xs.map f
  | _, _, .nil => rfl
  | _, _, .one h r => by
    have := hf _ _ h
    cases this
    rw [Made.map hf r]
    rfl
  | _, _, .no h r => by
    have := hf _ _ h
    cases this
theorem Made.all {P : D → Option D → Prop} {R : D → Prop} (hf : ∀ d y, P d (some y) → R y) : ∀ {xs ys : List D}, Made P xs ys → ∀ y ∈ ys, R y
  | _, _, .nil, y, h => absurd h (by simp)
  | _, _, .one h r, y, hy => by
    rcases List.mem_cons.mp hy with rfl | hy
    · exact hf _ _ h
    · exact Made.all hf r y hy
  | _, _, .no h r, y, hy => Made.all hf r y hy
theorem Made.full {P : D → Option D → Prop} (hf : ∀ d, ¬ P d none) : ∀ {xs ys : List D}, Made P xs ys → ys.length = xs.length
  | _, _, .nil => rfl
  | _, _, .one h r => by simp [Made.full hf r]
  | _, _, .no h r => absurd h (hf _)
end Fc
end

section
/-! From the program's terms to plain ones, with who may change what. -/
namespace Fc
open PySem L2

/-- what a slot holds: a value that others may know (sh), one whose own list or dict nobody else knows (top) -/
inductive M where | sh | top
  deriving DecidableEq
/-- what an expression gives: imm: nothing in it can change; sh; top: a list or dict of its own; bor i: just what slot i holds -/
inductive R where | imm | sh | top | bor (i : Nat)
  deriving DecidableEq
inductive RM where | imm | sh | top
  deriving DecidableEq
structure Sig where
  np : Nat
  io : List Nat
  res : RM
inductive GK where
  | fn (i : Nat) | con (d : D) | cls (c : Nat)
/-- how an exception of a class is made: of a text, or of fields -/
inductive CK where | text | flds (ns : List Str)
structure Ctx where
  N : List Str
  sc : Scope
  G : List (Str × GK)
  bn : List Str
  sig : Nat → Option Sig
  ck : Nat → Option CK
  io : List Nat
  res : RM
  lb : List M
  st : Str → Bool

def M.le : M → M → Bool
  | .sh, _ => true
  | .top, .top => true
  | _, _ => false
def M.meet : M → M → M
  | .top, .top => .top
  | _, _ => .sh
def leT : List M → List M → Bool
  | [], [] => true
  | a :: as, b :: bs => a.le b && leT as bs
  | _, _ => false
def meetT : List M → List M → List M
  | a :: as, b :: bs => a.meet b :: meetT as bs
  | _, _ => []
def frz (T : List M) : List R → List M
  | [] => T
  | .bor i :: rs => (frz T rs).set i .sh
  | _ :: rs => frz T rs
def R.noBor (mu : List Nat) : R → Bool
  | .bor i => !mu.contains i
  | _ => true

/-! the slots that a term changes -/
mutual
def muE : E → List Nat
  | .var _ => [] | .con _ => []
  | .bin _ a b => muE a ++ muE b | .neg a => muE a
  | .and a b => muE a ++ muE b | .or a b => muE a ++ muE b | .not a => muE a
  | .cmp _ a b => muE a ++ muE b | .chain _ _ a b c => muE a ++ (muE b ++ muE c)
  | .ife c a b => muT c ++ (muE a ++ muE b)
  | .tup es => muEs es | .lst es => muEs es | .dic _ es => muEs es
  | .idx a i => muE a ++ muE i | .slc _ _ a l h => muE a ++ (muE l ++ muE h)
  | .fld a _ => muE a
  | .call _ es wb => muEs es ++ wb
  | .blt _ es => muEs es | .mth _ a es => muE a ++ muEs es | .isi a _ => muE a
  | .lc e _ _ src cs own => muEs src ++ (own ++ (muTs cs ++ muE e))
  | .fst es => muEs es
  | .mut i p _ es => muEs p ++ (muEs es ++ [i])
  | .rep a n => muE a ++ muE n | .rev a => muE a
def muEs : List E → List Nat
  | [] => []
  | e :: es => muE e ++ muEs es
def muT : T → List Nat
  | .val e => muE e | .and a b => muT a ++ muT b | .or a b => muT a ++ muT b | .not a => muT a | .ife c a b => muT c ++ (muT a ++ muT b)
def muTs : List T → List Nat
  | [] => []
  | e :: es => muT e ++ muTs es
end
def tgS : Tg → List Nat
  | .nm i => [i]
  | .tp ts => tgSs ts
where tgSs : List Tg → List Nat
  | [] => []
  | t :: ts => tgS t ++ tgSs ts
mutual
def muS : S → List Nat
  | .ex e => muE e
  | .asg t e => muE e ++ tgS t
  | .par ts es => muEs es ++ ts
  | .aug i _ e => muE e ++ [i]
  | .seti i p ix e => muE e ++ (muEs p ++ (muE ix ++ [i]))
  | .augi i p ix _ e => muEs p ++ (muE ix ++ (muE e ++ [i]))
  | .ret e => muE e
  | .rse _ _ es => muEs es
  | .ife c a b => muT c ++ (muSs a ++ muSs b)
  | .whl c b => muT c ++ muSs b
  | .loop tg _ src b => muEs src ++ (tgS tg ++ muSs b)
  | .tryx b _ i h => muSs b ++ (i.toList ++ muSs h)
  | .pass => []
def muSs : List S → List Nat
  | [] => []
  | s :: ss => muS s ++ muSs ss
end

/-! names -/
def slotOf (C : Ctx) (x : Str) : Option Nat :=
  match C.sc.names.lookup x with
  | some .local => idx C.N
  | some .cell => idx C.N
  | some .free => idx C.N
  | _ => none
where idx (N : List Str) : Option Nat :=
  let i := N.findIdx (· == x)
  if N[i]? = some x then some i else none
def starred : Expr → Bool
  | .Starred .. => true
  | _ => false
/-- a name that the code here stores -/
def stOf (C : Ctx) (x : Str) : Option Nat := if C.st x then slotOf C x else none
mutual
def cTg (C : Ctx) : Nat → Expr → Option Tg
  | 0, _ => none
  | n + 1, e => match e with
    | .Name x _ => (stOf C x).map .nm
    | .Tuple es _ _ => (cTgs C n es).map .tp
    | _ => none
def cTgs (C : Ctx) : Nat → List Expr → Option (List Tg)
  | 0, _ => none
  | n + 1, es => match es with
    | [] => some []
    | e :: es => match cTg C n e, cTgs C n es with
      | some t, some ts => if starred e then none else some (t :: ts)
      | _, _ => none
end
/-- the slots is as values that all may know -/
def shS (T : List M) : List Nat → List M
  | [] => T
  | i :: is => (shS T is).set i .sh
def isGlob (C : Ctx) (x : Str) : Bool := decide (C.sc.names.lookup x = some .globalImplicit) && !(x == ("__debug__" : Str)) && !(x == ("__classdict__" : Str))
def globOf (C : Ctx) (x : Str) : Option GK := if isGlob C x then C.G.lookup x else none
def isB (C : Ctx) (x y : Str) : Bool := decide (x = y) && isGlob C x && C.bn.contains x

def opOf : Operator → Option Op
  | .Add => some .add | .Sub => some .sub | .Mult => some .mul | .FloorDiv => some .fdiv | .Mod => some .mod | .Pow => some .pow
  | _ => none
def opR : Op → R
  | .add => .top
  | _ => .imm
def cpOf : CmpOp → Option Cp
  | .Eq => some .eq | .NotEq => some .ne | .Lt => some .lt | .LtE => some .le | .Gt => some .gt | .GtE => some .ge
  | .Is => some .isn | .IsNot => some .nn | .In => some .mem | .NotIn => some .nmem
def plainTest : Expr → Bool
  | .UnaryOp .Not _ _ => false | .BoolOp .. => false | .IfExp .. => false | .Compare .. => false
  | _ => true
def isSetE : Expr → Bool
  | .Set .. => true
  | _ => false
def isSliceE : Expr → Bool
  | .Slice .. => true
  | _ => false
def baseOk : Expr → Bool
  | .Call (.Name _ _) [] [] _ => false
  | _ => true
def mtOf (x : Str) (n : Nat) : Option (Mf × R) :=
  if x = "join" ∧ n = 1 then some (.join, .imm)
  else if x = "split" ∧ n = 1 then some (.split, .top)
  else if x = "partition" ∧ n = 1 then some (.partition, .imm)
  else if x = "isdigit" ∧ n = 0 then some (.isdigit, .imm)
  else if x = "index" ∧ n = 1 then some (.index, .imm)
  else if x = "count" ∧ n = 1 then some (.count, .imm)
  else none
/-- a display's keys and values, where all are written -/
def dcon : Expr → Option D
  | .Constant (.int i) _ _ => some (.int i)
  | .Constant (.str s) _ _ => some (.str s)
  | .Constant (.bool b) _ _ => some (.bl b)
  | .Constant .none _ _ => some .non
  | _ => none
def dkey : Option Expr → Option Key
  | some (.Constant (.int i) _ _) => some (.inl i)
  | some (.Constant (.str s) _ _) => some (.inr s)
  | _ => none
def dkvs : List (Option Expr) → List Expr → Option (List Key × List D)
  | [], [] => some ([], [])
  | k :: ks, v :: vs => match dkey k, dcon v, dkvs ks vs with
    | some k', some d, some (ks', ds) => some (k' :: ks', d :: ds)
    | _, _, _ => none
  | _, _ => none
def bltOf (C : Ctx) (x : Str) (n : Nat) : Option (Bf × R) :=
  if isB C x "len" && n == 1 then some (.len, .imm)
  else if isB C x "abs" && n == 1 then some (.abs, .imm)
  else if isB C x "max" && n == 2 then some (.max, .imm)
  else if isB C x "min" && n == 2 then some (.min, .imm)
  else if isB C x "int" && n == 1 then some (.int, .imm)
  else if isB C x "list" && n == 1 then some (.list, .top)
  else none
def bltOf2 (C : Ctx) (x : Str) : Option Bf :=
  if isB C x "tuple" then some .tuple
  else if isB C x "sorted" then some .sorted
  else if isB C x "sum" then some .sum
  else if isB C x "any" then some .any
  else if isB C x "all" then some .all
  else none
def bfR2 : Bf → R
  | .tuple => .sh | .sorted => .top
  | _ => .imm
def muOf (x : Str) (n : Nat) : Option (Mu × R) :=
  if x = "append" ∧ n = 1 then some (.append, .imm)
  else if x = "pop" ∧ n ≤ 1 then some (.pop, .sh)
  else if x = "clear" ∧ n = 0 then some (.clear, .imm)
  else if x = "reverse" ∧ n = 0 then some (.reverse, .imm)
  else none
def rmR : RM → R
  | .imm => .imm | .sh => .sh | .top => .top
/-- the arguments that are handed back: each just a slot that is its own -/
def wbOf (T : List M) (es : List E) (rs : List R) : List Nat → Option (List Nat)
  | [] => some []
  | p :: ps => match es[p]?, rs[p]?, wbOf T es rs ps with
    | some (.var i), some (.bor j), some w => if i = j ∧ T[i]? = some .top ∧ !w.contains i then some (i :: w) else none
    | _, _, _ => none
/-- the arguments that are not handed back -/
def nonio (io : List Nat) (rs : List R) : List R := (rs.zipIdx.filter fun p => !io.contains p.2).map (·.1)
/-- none of the other arguments is one of these slots -/
def apart (wb : List Nat) (io : List Nat) (rs : List R) : Bool :=
  (rs.zipIdx).all fun p => io.contains p.2 || p.1.noBor wb

/-- behind an operand with r, one that changes mu -/
def okNext (r : R) (e : E) : Bool := r.noBor (muE e)
def okNexts (r : R) (es : List E) : Bool := r.noBor (muEs es)

def tyOf (C : Ctx) (x : Str) : Option Ty :=
  if isB C x "int" then some .int else if isB C x "bool" then some .bool else if isB C x "str" then some .str
  else if isB C x "list" then some .list else if isB C x "tuple" then some .tuple else if isB C x "dict" then some .dict else none
def cTy (C : Ctx) : Expr → Option (List Ty)
  | .Name x _ => (tyOf C x).map fun t => [t]
  | _ => none

/-- a comprehension's own names, with their slots -/
def ownOf (C : Ctx) (scope : Scope) : List (Str × Nat) := scope.names.filterMap fun p => match p.2 with
  | .local => (slotOf.idx p.1 C.N).map fun i => (p.1, i)
  | .cell => (slotOf.idx p.1 C.N).map fun i => (p.1, i)
  | _ => none
def ownSt (scope : Scope) (x : Str) : Bool := match scope.names.lookup x with
  | some .local => true
  | some .cell => true
  | _ => false
def blkCtx (C : Ctx) (scope : Scope) : Ctx := { C with sc := relS scope C.sc, st := ownSt scope }
def isTupE : Expr → Bool
  | .Tuple .. => true
  | _ => false
set_option maxHeartbeats 4000000
mutual
def cE (C : Ctx) : Nat → List M → Expr → Option (E × R × List M)
  | 0, _, _ => none
  | n + 1, T, e => match cX C n T e with
    | some q => some q
    | none => match e with
    | .Name x _ => match slotOf C x with
      | some i => if x == ("__debug__" : Str) || x == ("__classdict__" : Str) then none else match T[i]? with
        | some .sh => some (.var i, .sh, T)
        | some .top => some (.var i, .bor i, T)
        | _ => none
      | none => match globOf C x with
        | some (.con d) => some (.con d, .sh, T)
        | _ => none
    | .Constant (.int i) _ _ => some (.con (.int i), .imm, T)
    | .Constant (.str s) _ _ => some (.con (.str s), .imm, T)
    | .Constant (.bool b) _ _ => some (.con (.bl b), .imm, T)
    | .Constant .none _ _ => some (.con .non, .imm, T)
    | .BinOp a o b _ => match opOf o, cE C n T a with
      | some o', some (a', ra, T1) => match cE C n T1 b with
        | some (b', _, T2) => if okNext ra b' then some (.bin o' a' b', opR o', T2) else none
        | none => none
      | _, _ => none
    | .UnaryOp .USub a _ => match cE C n T a with
      | some (a', _, T1) => some (.neg a', .imm, T1)
      | none => none
    | .UnaryOp .Not a _ => match cE C n T a with
      | some (a', _, T1) => some (.not a', .imm, T1)
      | none => none
    | .BoolOp o es _ => cB C n T o es
    | .Compare a [o] [b] _ => match cpOf o, cE C n T a with
      | some o', some (a', ra, T1) => match cE C n T1 b with
        | some (b', _, T2) => if okNext ra b' && !isSetE b then some (.cmp o' a' b', .imm, T2) else none
        | none => none
      | _, _ => none
    | .Compare a [o, o2] [b, c] _ => match cpOf o, cpOf o2, cE C n T a with
      | some o', some o2', some (a', ra, T1) => match cE C n T1 b with
        | some (b', rb, T2) => match cE C n T2 c with
          | some (c', _, T3) => if okNext ra b' && okNext rb c' && !isSetE c && leT T3 T2 then some (.chain o' o2' a' b' c', .imm, T3) else none
          | none => none
        | none => none
      | _, _, _ => none
    | .IfExp c a b _ => match cT C n T c with
      | some (c', T1) => match cE C n T1 a, cE C n T1 b with
        | some (a', ra, Ta), some (b', rb, Tb) => if (frz Ta [ra]).length = (frz Tb [rb]).length then some (.ife c' a' b', .sh, meetT (frz Ta [ra]) (frz Tb [rb])) else none
        | _, _ => none
      | none => none
    | .Tuple es _ _ => match cEs C n T es with
      | some (es', rs, T1) => some (.tup es', .sh, frz T1 rs)
      | none => none
    | .List es _ => match cEs C n T es with
      | some (es', rs, T1) => some (.lst es', .top, frz T1 rs)
      | none => none
    | .Subscript a (.Slice lo hi none _) _ => match cE C n T a with
      | some (a', ra, T1) => match cP C n T1 lo with
        | some (fl, lo', T2) => match cP C n T2 hi with
          | some (fh, hi', T3) => if okNext ra lo' && okNext ra hi' then some (.slc fl fh a' lo' hi', .top, T3) else none
          | none => none
        | none => none
      | none => none
    | .Subscript a i _ => match cE C n T a with
      | some (a', ra, T1) => match cE C n T1 i with
        | some (i', _, T2) => if okNext ra i' && !isSliceE i then some (.idx a' i', .sh, T2) else none
        | none => none
      | none => none
    | .Call (.Name x _) (e :: es) [] _ => match globOf C x with
      | some (.fn f) => match C.sig f with
        | some s => match cEs C n T (e :: es) with
          | some (es', rs, T1) => if rs.length = s.np ∧ s.io.Nodup ∧ (e :: es).all (fun e => !starred e) then match wbOf T1 es' rs s.io with
            | some wb => if apart wb s.io rs then
                if leT C.lb (frz T1 (nonio s.io rs)) then some (.call f es' wb, rmR s.res, if s.res = .imm ∧ s.io = [] then T1 else frz T1 (nonio s.io rs)) else none
              else none
            | none => none else none
          | none => none
        | none => none
      | some _ => none
      | none => if isB C x "isinstance" then (match es with
          | [.Name y _] => match cE C n T e, tyOf C y with
            | some (a', _, T1), some t => if starred e then none else some (.isi a' [t], .imm, T1)
            | _, _ => none
          | _ => none)
        else match bltOf C x (es.length + 1) with
        | some (b, r) => match cEs C n T (e :: es) with
          | some (es', _, T1) => if (e :: es).all (fun e => !starred e) then some (.blt b es', r, T1) else none
          | none => none
        | none => none
    | .Call (.Attribute (.Name x _) m apos) [] [] cpos => match slotOf C x, muOf m 0 with
      | some i, some (mu, r) => if x == ("__debug__" : Str) || x == ("__classdict__" : Str) then none else
        if T[i]? = some .top ∧ apos.endLine = cpos.line then some (.mut i [] mu [], r, T) else none
      | _, _ => none
    | .Call (.Attribute (.Name x _) m apos) (e :: es) [] cpos => match slotOf C x, muOf m (e :: es).length with
      | some i, some (mu, r) => if x == ("__debug__" : Str) || x == ("__classdict__" : Str) then none else match cEs C n T (e :: es) with
        | some (es', rs, T1) => if T[i]? = some .top ∧ (frz T1 rs)[i]? = some .top ∧ apos.endLine = cpos.line ∧ (e :: es).length < 29 ∧ (e :: es).all (fun e => !starred e) then some (.mut i [] mu es', r, frz T1 rs) else none
        | _ => none
      | _, _ => none
    | .ListComp elt [⟨tg, iter, ifs, 0⟩] scope _ =>
      match cI C n T tg iter with
      | some (ik, src, rs, T1) => match cTg (blkCtx C scope) n tg, cIfs (blkCtx C scope) n (shS T1 ((ownOf C scope).map (·.2))) ifs with
        | some tg', some (cs, T3) => match cE (blkCtx C scope) n T3 elt with
          | some (e', r, T') =>
            if blkC C.N C.sc scope (ownOf C scope) && !isSetE iter && leT (shS T1 ((ownOf C scope).map (·.2))) (shS (shS T1 ((ownOf C scope).map (·.2))) (tgS tg'))
              && leT (shS T1 ((ownOf C scope).map (·.2))) (frz T' [r]) && leT (shS T1 ((ownOf C scope).map (·.2))) T3
              && (tgS tg').all (fun i => ((ownOf C scope).map (·.2)).contains i && decide (i < T1.length))
              && rs.all (fun r => r.noBor (T1.length :: ((ownOf C scope).map (·.2) ++ (muTs cs ++ muE e'))))
            then some (.lc e' tg' ik src cs ((ownOf C scope).map (·.2)), .top, shS T1 ((ownOf C scope).map (·.2))) else none
          | none => none
        | _, _ => none
      | none => none
    | _ => none
/-- further expressions -/
def cX (C : Ctx) : Nat → List M → Expr → Option (E × R × List M)
  | 0, _, _ => none
  | n + 1, T, e => match e with
    | .BinOp (.List es lp) .Mult b _ => match cE C n T (.List es lp) with
      | some (a', .top, T1) => match cE C n T1 b with
        | some (b', _, T2) => some (.rep a' b', .top, T2)
        | none => none
      | _ => none
    | .Subscript a (.Slice none none (some (.UnaryOp .USub (.Constant (.int 1) _ _) _)) _) _ => match cE C n T a with
      | some (a', _, T1) => some (.rev a', .top, T1)
      | none => none
    | .Call (.Attribute o m apos) [] [] cpos => match mtOf m 0, cE C n T o with
      | some (mf, r), some (a', _, T1) => if baseOk o = true ∧ apos.endLine = cpos.line then some (.mth mf a' [], r, T1) else none
      | _, _ => none
    | .Call (.Attribute o m apos) [e] [] cpos => match mtOf m 1, cE C n T o with
      | some (mf, r), some (a', ra, T1) => match cE C n T1 e with
        | some (e', _, T2) => if baseOk o = true ∧ apos.endLine = cpos.line ∧ starred e = false ∧ okNexts ra [e'] then some (.mth mf a' [e'], r, T2) else none
        | none => none
      | _, _ => none
    | .Call (.Name x _) [e] [] _ => match bltOf2 C x, cE C n T e with
      | some b, some (e', r, T1) => if starred e = false then some (.blt b [e'], bfR2 b, if b = .tuple then frz T1 [r] else T1) else none
      | _, _ => none
    | .Dict ks vs _ => match dkvs ks vs with
      | some (ks', vs') => if ks'.Nodup ∧ ks'.length ≤ 15 then some (.dic ks' (vs'.map .con), .top, T) else none
      | none => none
    | .Call (.Name x _) [e, .Name y _] [] _ => if isB C x "isinstance" then (match cE C n T e, tyOf C y with
      | some (a', _, T1), some t => if starred e then none else some (.isi a' [t], .imm, T1)
      | _, _ => none) else none
    | _ => none
/-- what a loop goes over -/
def cI (C : Ctx) : Nat → List M → Expr → Expr → Option (Ik × List E × List R × List M)
  | 0, _, _, _ => none
  | n + 1, T, tg, e => match e with
    | .Call (.Name x _) [a] [] _ =>
      if isB C x "range" && !starred a then (match cE C n T a with
        | some (a', r, T1) => some (.range, [a'], [r], T1)
        | none => none)
      else if isB C x "enumerate" && !starred a && isTupE tg then (match cE C n T a with
        | some (a', r, T1) => some (.enum, [a'], [r], T1)
        | none => none)
      else (match cE C n T e with
        | some (c, r, T1) => some (.of, [c], [r], T1)
        | none => none)
    | .Call (.Name x _) [a, b] [] _ =>
      if isB C x "range" && !starred a && !starred b then (match cE C n T a with
        | some (a', r, T1) => match cE C n T1 b with
          | some (b', r', T2) => if r.noBor (muEs [b']) then some (.range, [a', b'], [r, r'], T2) else none
          | none => none
        | none => none)
      else if isB C x "zip" && !starred a && !starred b && isTupE tg then (match cE C n T a with
        | some (a', r, T1) => match cE C n T1 b with
          | some (b', r', T2) => if r.noBor (muEs [b']) then some (.zip, [a', b'], [r, r'], T2) else none
          | none => none
        | none => none)
      else (match cE C n T e with
        | some (c, r, T1) => some (.of, [c], [r], T1)
        | none => none)
    | e => (match cE C n T e with
        | some (c, r, T1) => some (.of, [c], [r], T1)
        | none => none)
def cIfs (C : Ctx) : Nat → List M → List Expr → Option (List Fc.T × List M)
  | 0, _, _ => none
  | n + 1, T, es => match es with
    | [] => some ([], T)
    | [e] => match cT C n T e with
      | some (c, T1) => some ([c], T1)
      | none => none
    | _ => none
/-- a part of a slice -/
def cP (C : Ctx) : Nat → List M → Option Expr → Option (Bool × E × List M)
  | 0, _, _ => none
  | n + 1, T, o => match o with
    | none => some (false, .con .non, T)
    | some e => match cE C n T e with
      | some (e', _, T1) => some (true, e', T1)
      | none => none
def cEs (C : Ctx) : Nat → List M → List Expr → Option (List E × List R × List M)
  | 0, _, _ => none
  | n + 1, T, es => match es with
    | [] => some ([], [], T)
    | e :: es => match cE C n T e with
      | some (e', r, T1) => match cEs C n T1 es with
        | some (es', rs, T2) => if okNexts r es' && !starred e then some (e' :: es', r :: rs, T2) else none
        | none => none
      | none => none
/-- and, or as values -/
def cB (C : Ctx) : Nat → List M → BoolOp → List Expr → Option (E × R × List M)
  | 0, _, _, _ => none
  | n + 1, T, o, es => match es with
    | [] => none
    | [a] => match cE C n T a with
      | some (a', ra, T1) => some (a', .sh, frz T1 [ra])
      | none => none
    | a :: b :: rest => match cE C n T a with
      | some (a', _, T1) => match cB C n T1 o (b :: rest) with
        | some (b', _, T2) => if leT T2 T1 then some (match o with | .And => .and a' b' | .Or => .or a' b', .sh, T2) else none
        | none => none
      | none => none
def cT (C : Ctx) : Nat → List M → Expr → Option (T × List M)
  | 0, _, _ => none
  | n + 1, T, e => match e with
    | .UnaryOp .Not a _ => match cT C n T a with
      | some (a', T1) => some (.not a', T1)
      | none => none
    | .BoolOp o es _ => cBT C n T o es
    | .Compare a [o] [b] _ => match cpOf o, cE C n T a with
      | some o', some (a', ra, T1) => match cE C n T1 b with
        | some (b', _, T2) => if okNext ra b' && !isSetE b then some (.val (.cmp o' a' b'), T2) else none
        | none => none
      | _, _ => none
    | .Compare a [o, o2] [b, c] _ => match cpOf o, cpOf o2, cE C n T a with
      | some o', some o2', some (a', ra, T1) => match cE C n T1 b with
        | some (b', rb, T2) => match cE C n T2 c with
          | some (c', _, T3) => if okNext ra b' && okNext rb c' && !isSetE c && leT T3 T2 then some (.val (.chain o' o2' a' b' c'), T3) else none
          | none => none
        | none => none
      | _, _, _ => none
    | e => if plainTest e then match cE C n T e with
      | some (e', _, T1) => some (.val e', T1)
      | none => none else none
def cBT (C : Ctx) : Nat → List M → BoolOp → List Expr → Option (T × List M)
  | 0, _, _, _ => none
  | n + 1, T, o, es => match es with
    | [] => none
    | [a] => cT C n T a
    | a :: b :: rest => match cT C n T a with
      | some (a', T1) => match cBT C n T1 o (b :: rest) with
        | some (b', T2) => if leT T2 T1 then some (match o with | .And => .and a' b' | .Or => .or a' b', T2) else none
        | none => none
      | none => none
end
end Fc
end

section
/-! How plain values lie in the abstract heap. -/
namespace Fc
open PySem L2

abbrev AS := Addr → Prop
abbrev Ft := Nat → List Addr
/-- what the written part holds: its objects, where the classes stand -/
structure GP where
  K : PySem.W.Frag
  ca : Nat → Addr

def KL (K : PySem.W.Frag) (a : Addr) (xs : List V) : Prop := ∃ (o : Obj) (its : Array Value) (n : Nat), K.lookup a = some o ∧ o.cls = .type "list" ∧ o.dict = none ∧ o.data = .seq its n ∧ its.size ≤ sizeLine ∧ Vals xs its.toList
def KT (K : PySem.W.Frag) (a : Addr) (xs : List V) : Prop := ∃ (o : Obj) (its : Array Value) (n : Nat), K.lookup a = some o ∧ o.cls = .type "tuple" ∧ o.data = .seq its n ∧ its.size ≤ sizeLine ∧ Vals xs its.toList
def LAt (K : PySem.W.Frag) (H : Hp) (Z : AS) (a : Addr) (xs : List V) : Prop := (Rd H a (.lst xs) ∧ ¬ Z a) ∨ KL K a xs
def TAt (K : PySem.W.Frag) (H : Hp) (Z : AS) (a : Addr) (xs : List V) : Prop := (Rd H a (.tup xs) ∧ ¬ Z a) ∨ KT K a xs
theorem LAt.sq {K : PySem.W.Frag} {H : Hp} {Z : AS} {a : Addr} {xs : List V} (h : LAt K H Z a xs) : SqL K H a xs := h.imp (·.1) id
theorem TAt.sq {K : PySem.W.Frag} {H : Hp} {Z : AS} {a : Addr} {xs : List V} (h : TAt K H Z a xs) : SqT K H a xs := h.imp (·.1) id

/-- an exception's object: its class, its own dict -/
def exq (C : Addr) (d : Option Addr) (a : Addr) : HO := .ext fun h => ∃ o vs, h.get? a = some o ∧ o.cls = .ref C ∧ o.dict = d ∧ o.data = .fields vs

mutual
/-- v, in H, is the value d; nothing that it reaches and that may change lies in Z -/
def Rep (P : GP) (H : Hp) (Z : AS) : D → V → Prop
  | .non, v => v = .non
  | .bl b, v => v = .bl b
  | .int i, v => v = .int i
  | .str s, v => v = .str s
  | .tup ds, v => ∃ a vs, v = .ref a ∧ TAt P.K H Z a vs ∧ Reps P H Z ds vs
  | .lst ds, v => ∃ a vs, v = .ref a ∧ LAt P.K H Z a vs ∧ Reps P H Z ds vs
  | .dic ks ds, v => ∃ a kvs, v = .ref a ∧ Rd H a (.dK kvs) ∧ ¬ Z a ∧ kvs.map (·.1) = ks ∧ Reps P H Z ds (kvs.map (·.2))
  | .exc c ns ds, v => ∃ a dd, v = .ref a ∧ H a = some (exq (P.ca c) dd a) ∧ ¬ Z a ∧
      match dd with
      | none => ns = [] ∧ ds = []
      | some d => ∃ fs, H d = some (.xd fs) ∧ ¬ Z d ∧ fs.map (·.1) = ns ∧ Reps P H Z ds (fs.map (·.2))
  | .obj _ _ _, _ => False
def Reps (P : GP) (H : Hp) (Z : AS) : List D → List V → Prop
  | [], vs => vs = []
  | d :: ds, vs => ∃ v r, vs = v :: r ∧ Rep P H Z d v ∧ Reps P H Z ds r
end

section
variable {P : GP} {H H' : Hp} {Z Z' : AS}
theorem Rd.kept (hk : ∀ a o, H a = some o → ¬ Z a → H' a = some o) {a : Addr} {u : HO} (h : Rd H a u) (hz : ¬ Z a) : Rd H' a u := by
  rcases h with h | ⟨o, h⟩
  · exact .inl (hk a _ h hz)
  · exact .inr ⟨o, hk a _ h hz⟩
theorem Rd.ne {a : Addr} {u : HO} (h : Rd H a u) : H a ≠ none := by
  rcases h with h | ⟨o, h⟩ <;> (rw [h]; exact fun z => nomatch z)
mutual
theorem Rep.frame (hk : ∀ a o, H a = some o → ¬ Z a → H' a = some o) (hz : ∀ a, H a ≠ none → ¬ Z a → ¬ Z' a) : ∀ (d : D) (v : V), Rep P H Z d v → Rep P H' Z' d v
  | .non, v, h => h
  | .bl b, v, h => h
  | .int i, v, h => h
  | .str s, v, h => h
  | .tup ds, v, h => by
    obtain ⟨a, vs, e, ha, hr⟩ := h
    refine ⟨a, vs, e, ?_, Reps.frame hk hz ds vs hr⟩
    rcases ha with ⟨h1, h2⟩ | h1
    · exact .inl ⟨Rd.kept hk h1 h2, hz a (Rd.ne h1) h2⟩
    · exact .inr h1
  | .lst ds, v, h => by
    obtain ⟨a, vs, e, ha, hr⟩ := h
    refine ⟨a, vs, e, ?_, Reps.frame hk hz ds vs hr⟩
    rcases ha with ⟨h1, h2⟩ | h1
    · exact .inl ⟨Rd.kept hk h1 h2, hz a (Rd.ne h1) h2⟩
    · exact .inr h1
  | .dic ks ds, v, h => by
    obtain ⟨a, kvs, e, h1, h2, h3, hr⟩ := h
    exact ⟨a, kvs, e, Rd.kept hk h1 h2, hz a (Rd.ne h1) h2, h3, Reps.frame hk hz ds _ hr⟩
  | .exc c ns ds, v, h => by
    obtain ⟨a, dd, e, h1, h2, h3⟩ := h
    refine ⟨a, dd, e, hk a _ h1 h2, hz a (by rw [h1]; exact fun z => nomatch z) h2, ?_⟩
    cases dd with
    | none => exact h3
    | some d =>
      obtain ⟨fs, q1, q2, q3, q4⟩ := h3
      exact ⟨fs, hk d _ q1 q2, hz d (by rw [q1]; exact fun z => nomatch z) q2, q3, Reps.frame hk hz ds _ q4⟩
  | .obj _ _ _, v, h => h.elim
theorem Reps.frame (hk : ∀ a o, H a = some o → ¬ Z a → H' a = some o) (hz : ∀ a, H a ≠ none → ¬ Z a → ¬ Z' a) : ∀ (ds : List D) (vs : List V), Reps P H Z ds vs → Reps P H' Z' ds vs
  | [], vs, h => h
  | d :: ds, vs, h => by
    obtain ⟨v, r, e, h1, h2⟩ := h
    exact ⟨v, r, e, Rep.frame hk hz d v h1, Reps.frame hk hz ds r h2⟩
end
/-- less is asked of -/
theorem Rep.less (hz : ∀ a, Z' a → Z a) {d : D} {v : V} (h : Rep P H Z d v) : Rep P H Z' d v := Rep.frame (fun _ _ e _ => e) (fun a _ n q => n (hz a q)) d v h
theorem Reps.less (hz : ∀ a, Z' a → Z a) {d : List D} {v : List V} (h : Reps P H Z d v) : Reps P H Z' d v := Reps.frame (fun _ _ e _ => e) (fun a _ n q => n (hz a q)) d v h
/-- the heap has grown -/
theorem Rep.grow (hk : ∀ a o, H a = some o → H' a = some o) {d : D} {v : V} (h : Rep P H Z d v) : Rep P H' Z d v := Rep.frame (fun a o e _ => hk a o e) (fun _ _ n => n) d v h
theorem Reps.grow (hk : ∀ a o, H a = some o → H' a = some o) {d : List D} {v : List V} (h : Reps P H Z d v) : Reps P H' Z d v := Reps.frame (fun a o e _ => hk a o e) (fun _ _ n => n) d v h
theorem Reps.length : ∀ {ds : List D} {vs : List V}, Reps P H Z ds vs → ds.length = vs.length
  | [], vs, h => by obtain rfl := (show vs = [] from h); rfl
  | d :: ds, vs, h => by
    obtain ⟨v, r, rfl, _, h2⟩ := h
    simp [Reps.length h2]
theorem Reps.get : ∀ {ds : List D} {vs : List V} {i : Nat} {d : D}, Reps P H Z ds vs → ds[i]? = some d → ∃ v, vs[i]? = some v ∧ Rep P H Z d v
  | [], _, _, _, _, e => by simp at e
  | d :: ds, vs, 0, d', h, e => by
    obtain ⟨v, r, rfl, h1, h2⟩ := h
    have e' : d = d' := by simpa using e
    subst e'
    exact ⟨v, rfl, h1⟩
  | d :: ds, vs, i + 1, d', h, e => by
    obtain ⟨v, r, rfl, h1, h2⟩ := h
    obtain ⟨v', e1, h3⟩ := Reps.get (i := i) h2 (by simpa using e)
    exact ⟨v', by simpa using e1, h3⟩
theorem Reps.get' {ds : List D} {vs : List V} {i : Nat} {v : V} (h : Reps P H Z ds vs) (e : vs[i]? = some v) : ∃ d, ds[i]? = some d ∧ Rep P H Z d v := by
  have hl := h.length
  have hi : i < ds.length := by
    have := (List.getElem?_eq_some_iff.mp e).1
    omega
  obtain ⟨v', e1, h3⟩ := h.get (List.getElem?_eq_getElem hi)
  rw [e] at e1
  cases e1
  exact ⟨_, List.getElem?_eq_getElem hi, h3⟩
theorem Reps.append : ∀ {ds es : List D} {vs ws : List V}, Reps P H Z ds vs → Reps P H Z es ws → Reps P H Z (ds ++ es) (vs ++ ws)
  | [], _, vs, _, h, h' => by obtain rfl := (show vs = [] from h); exact h'
  | d :: ds, es, vs, ws, h, h' => by
    obtain ⟨v, r, rfl, h1, h2⟩ := h
    exact ⟨v, r ++ ws, rfl, h1, Reps.append h2 h'⟩
theorem Reps.rev {ds : List D} {vs : List V} (h : Reps P H Z ds vs) : Reps P H Z ds.reverse vs.reverse := by
  induction ds generalizing vs with
  | nil => obtain rfl := (show vs = [] from h); exact rfl
  | cons d ds ih =>
    obtain ⟨v, r, rfl, h1, h2⟩ := h
    rw [List.reverse_cons, List.reverse_cons]
    exact Reps.append (ih h2) ⟨v, [], rfl, h1, rfl⟩
theorem Reps.one {d : D} {v : V} (h : Rep P H Z d v) : Reps P H Z [d] [v] := ⟨v, [], rfl, h, rfl⟩
theorem Reps.set {x : D} {y : V} (hx : Rep P H Z x y) : ∀ {ds : List D} {vs : List V} (i : Nat), Reps P H Z ds vs → Reps P H Z (ds.set i x) (vs.set i y)
  | [], _, _, h => by obtain rfl := h; exact rfl
  | d :: ds, _, 0, h => by
    obtain ⟨v, r, rfl, h1, h2⟩ := h
    exact ⟨y, r, rfl, hx, h2⟩
  | d :: ds, _, i + 1, h => by
    obtain ⟨v, r, rfl, h1, h2⟩ := h
    exact ⟨v, _, rfl, h1, Reps.set hx i h2⟩
theorem Reps.take : ∀ {ds : List D} {vs : List V} (n : Nat), Reps P H Z ds vs → Reps P H Z (ds.take n) (vs.take n)
  | _, _, 0, _ => rfl
  | [], _, n + 1, h => by obtain rfl := h; exact rfl
  | d :: ds, _, n + 1, h => by
    obtain ⟨v, r, rfl, h1, h2⟩ := h
    exact ⟨v, _, rfl, h1, Reps.take n h2⟩
theorem Reps.drop : ∀ {ds : List D} {vs : List V} (n : Nat), Reps P H Z ds vs → Reps P H Z (ds.drop n) (vs.drop n)
  | _, _, 0, h => h
  | [], _, n + 1, h => by obtain rfl := h; exact rfl
  | d :: ds, _, n + 1, h => by
    obtain ⟨v, r, rfl, h1, h2⟩ := h
    exact Reps.drop n h2
theorem Reps.all {F : D → V → Prop} (hF : ∀ d v, Rep P H Z d v → F d v) : ∀ {ds : List D} {vs : List V}, Reps P H Z ds vs → Paired F ds vs
  | [], _, h => by obtain rfl := h; exact .nil
  | d :: ds, _, h => by
    obtain ⟨v, r, rfl, h1, h2⟩ := h
    exact .cons (hF d v h1) (Reps.all hF h2)
end

/-- a list or dict that may change -/
def isCell : HO → Bool
  | .lst _ => true
  | .dK _ => true
  | _ => false
def Cells (H : Hp) (Z : AS) : Prop := ∀ a, Z a → ∃ o, H a = some o ∧ isCell o = true
section
variable {P : GP} {H H' : Hp} {Z Z' : AS}
mutual
/-- a value in which nothing can change lies apart from all lists and dicts -/
theorem Rep.imm (hc : Cells H Z') : ∀ (d : D) (v : V), d.imm = true → Rep P H Z d v → Rep P H Z' d v
  | .non, v, _, h => h
  | .bl b, v, _, h => h
  | .int i, v, _, h => h
  | .str s, v, _, h => h
  | .tup ds, v, hi, h => by
    obtain ⟨a, vs, e, ha, hr⟩ := h
    refine ⟨a, vs, e, ?_, Reps.imm hc ds vs hi hr⟩
    rcases ha with ⟨h1, h2⟩ | h1
    · refine .inl ⟨h1, fun q => ?_⟩
      obtain ⟨o, ho, hb⟩ := hc a q
      rcases h1 with h1 | ⟨_, h1⟩ <;> (rw [ho] at h1; cases h1; exact Bool.noConfusion hb)
    · exact .inr h1
  | .lst ds, v, hi, h => Bool.noConfusion hi
  | .dic ks ds, v, hi, h => Bool.noConfusion hi
  | .exc c ns ds, v, hi, h => Bool.noConfusion hi
  | .obj _ _ _, v, hi, h => Bool.noConfusion hi
theorem Reps.imm (hc : Cells H Z') : ∀ (ds : List D) (vs : List V), D.imm.imms ds = true → Reps P H Z ds vs → Reps P H Z' ds vs
  | [], vs, _, h => h
  | d :: ds, vs, hi, h => by
    obtain ⟨v, r, e, h1, h2⟩ := h
    have hi' := (Bool.and_eq_true_iff.mp (show (d.imm && D.imm.imms ds) = true from hi))
    exact ⟨v, r, e, Rep.imm hc d v hi'.1 h1, Reps.imm hc ds r hi'.2 h2⟩
end
end

/-- what a slot holds, at the addresses F of its own -/
def Own (P : GP) (H : Hp) (Z : AS) (m : M) (d : D) (v : V) (F : List Addr) : Prop :=
  match m, d with
  | .top, .lst ds => ∃ a vs, v = .ref a ∧ F = [a] ∧ H a = some (.lst vs) ∧ Reps P H Z ds vs
  | .top, .dic ks ds => ∃ a kvs, v = .ref a ∧ F = [a] ∧ H a = some (.dK kvs) ∧ kvs.map (·.1) = ks ∧ Reps P H Z ds (kvs.map (·.2))
  | _, d => F = [] ∧ Rep P H Z d v
/-- what can be read off a value, whoever owns it -/
def Vw (P : GP) (H : Hp) (W : AS) (d : D) (v : V) : Prop :=
  match d with
  | .lst ds => ∃ a vs, v = .ref a ∧ SqL P.K H a vs ∧ Reps P H W ds vs
  | .dic ks ds => ∃ a kvs, v = .ref a ∧ Rd H a (.dK kvs) ∧ kvs.map (·.1) = ks ∧ Reps P H W ds (kvs.map (·.2))
  | d => Rep P H W d v
section
variable {P : GP} {H H' : Hp} {Z Z' W : AS} {m : M} {d : D} {v : V} {F : List Addr}
theorem Own.frame (hk : ∀ a o, H a = some o → ¬ Z a ∨ a ∈ F → H' a = some o) (hz : ∀ a, H a ≠ none → ¬ Z a → ¬ Z' a) (h : Own P H Z m d v F) : Own P H' Z' m d v F := by
  have hk' : ∀ a o, H a = some o → ¬ Z a → H' a = some o := fun a o e n => hk a o e (.inl n)
  unfold Own at h ⊢
  split at h
  · obtain ⟨a, vs, e1, e2, e3, e4⟩ := h
    exact ⟨a, vs, e1, e2, hk a _ e3 (.inr (by rw [e2]; simp)), Reps.frame hk' hz _ _ e4⟩
  · obtain ⟨a, kvs, e1, e2, e3, e4, e5⟩ := h
    exact ⟨a, kvs, e1, e2, hk a _ e3 (.inr (by rw [e2]; simp)), e4, Reps.frame hk' hz _ _ e5⟩
  · exact ⟨h.1, Rep.frame hk' hz _ _ h.2⟩
theorem Own.cells (h : Own P H Z m d v F) : ∀ a ∈ F, ∃ o, H a = some o ∧ isCell o = true := by
  unfold Own at h
  split at h
  · obtain ⟨a, vs, e1, e2, e3, e4⟩ := h
    intro b hb
    rw [e2] at hb
    obtain rfl : b = a := by simpa using hb
    exact ⟨_, e3, rfl⟩
  · obtain ⟨a, vs, e1, e2, e3, e4⟩ := h
    intro b hb
    rw [e2] at hb
    obtain rfl : b = a := by simpa using hb
    exact ⟨_, e3, rfl⟩
  · intro b hb
    rw [h.1] at hb
    exact absurd hb (by simp)
theorem Own.view (h : Own P H Z m d v F) : Vw P H Z d v := by
  unfold Own at h
  unfold Vw
  split at h
  · obtain ⟨a, vs, e1, e2, e3, e4⟩ := h
    exact ⟨a, vs, e1, .inl (.inl e3), e4⟩
  · obtain ⟨a, vs, e1, e2, e3, e4, e5⟩ := h
    exact ⟨a, vs, e1, .inl e3, e4, e5⟩
  · obtain ⟨_, h⟩ := h
    split
    · obtain ⟨a, vs, e1, e2, e3⟩ := h
      exact ⟨a, vs, e1, e2.sq, e3⟩
    · obtain ⟨a, vs, e1, e2, e3, e4, e5⟩ := h
      exact ⟨a, vs, e1, e2, e4, e5⟩
    · exact h
/-- its own cells may be known from now on -/
theorem Own.free (h : Own P H Z m d v F) (hz : ∀ a, Z' a → Z a) (hF : ∀ a ∈ F, ¬ Z' a) : Rep P H Z' d v := by
  unfold Own at h
  split at h
  · obtain ⟨a, vs, e1, e2, e3, e4⟩ := h
    exact ⟨a, vs, e1, .inl ⟨.inl e3, hF a (by rw [e2]; simp)⟩, Reps.less hz e4⟩
  · obtain ⟨a, vs, e1, e2, e3, e4, e5⟩ := h
    exact ⟨a, vs, e1, .inl e3, hF a (by rw [e2]; simp), e4, Reps.less hz e5⟩
  · exact Rep.less hz h.2
theorem Own.sh (h : Rep P H Z d v) : Own P H Z .sh d v [] := by
  unfold Own
  exact ⟨rfl, h⟩
theorem Own.sh_rep (h : Own P H Z .sh d v F) : F = [] ∧ Rep P H Z d v := by
  unfold Own at h
  exact h
theorem Rep.view (h : Rep P H W d v) : Vw P H W d v := (Own.sh h).view
/-- .. and read, all apart from nothing -/
theorem Vw.rep (h : Vw P H W d v) : Rep P H (fun _ => False) d v := by
  unfold Vw at h
  split at h
  · obtain ⟨a, vs, e1, e2, e3⟩ := h
    exact ⟨a, vs, e1, e2.imp (fun q => ⟨q, fun z => z⟩) id, Reps.less (fun _ z => z.elim) e3⟩
  · obtain ⟨a, vs, e1, e2, e3, e4⟩ := h
    exact ⟨a, vs, e1, e2, fun z => z, e3, Reps.less (fun _ z => z.elim) e4⟩
  · exact Rep.less (fun _ z => z.elim) h
end

def W (Z : AS) (A : Ft) : AS := fun a => Z a ∨ ∃ j, a ∈ A j
def Zf (Z : AS) (F : List Addr) : AS := fun a => Z a ∨ a ∈ F

/-- the slots, as they stand -/
structure SR (P : GP) (T : List M) (A : Ft) (env : Env) (σ : St) (H : Hp) (Z : AS) : Prop where
  ls : σ.length = env.length
  lt : T.length = env.length
  val : ∀ i m d, T[i]? = some m → env[i]? = some (some d) → ∃ v, σ[i]? = some (some v) ∧ Own P H (W Z A) m d v (A i)
  emp : ∀ i, (∀ d, env[i]? ≠ some (some d)) → A i = []
  dj : ∀ i j a, i ≠ j → a ∈ A i → a ∉ A j
  zA : ∀ i a, a ∈ A i → ¬ Z a
  zc : Cells H Z
structure Stp (mu : List Nat) (A : Ft) (H : Hp) (env : Env) (A' : Ft) (H' : Hp) (env' : Env) : Prop where
  keep : ∀ a o, H a = some o → (∀ j ∈ mu, a ∉ A j) → H' a = some o
  thr : ∀ a, H a ≠ none → H' a ≠ none
  same : ∀ j, j ∉ mu → env'[j]? = env[j]?
  foot : ∀ j a, a ∈ A' j → a ∈ A j ∨ H a = none
  len : env'.length = env.length
section
variable {P : GP} {T T' : List M} {A A1 A2 A' : Ft} {env env1 env2 env' : Env} {σ : St} {H H1 H2 H' : Hp} {Z Z' : AS} {mu mu1 mu2 : List Nat}
theorem Stp.refl : Stp [] A H env A H env := ⟨fun _ _ e _ => e, fun _ e => e, fun _ _ => rfl, fun _ _ h => .inl h, rfl⟩
theorem Stp.trans (a : Stp mu1 A H env A1 H1 env1) (b : Stp mu2 A1 H1 env1 A2 H2 env2) : Stp (mu1 ++ mu2) A H env A2 H2 env2 where
  keep := fun x o e n => b.keep x o (a.keep x o e fun j hj => n j (List.mem_append_left _ hj)) fun j hj q => by
    rcases a.foot j x q with q | q
    · exact n j (List.mem_append_right _ hj) q
    · rw [e] at q; cases q
  thr := fun x e => b.thr x (a.thr x e)
  same := fun j hj => (b.same j fun q => hj (List.mem_append_right _ q)).trans (a.same j fun q => hj (List.mem_append_left _ q))
  foot := fun j x q => by
    rcases b.foot j x q with q | q
    · exact a.foot j x q
    · refine .inr ?_
      cases e : H x with
      | none => rfl
      | some o => exact absurd q (a.thr x (by rw [e]; exact fun z => nomatch z))
  len := b.len.trans a.len
theorem Stp.mono (a : Stp mu A H env A1 H1 env1) (h : ∀ j ∈ mu, j ∈ mu') : Stp mu' A H env A1 H1 env1 :=
  ⟨fun x o e n => a.keep x o e fun j hj => n j (h j hj), a.thr, fun j hj => a.same j fun q => hj (h j q), a.foot, a.len⟩
theorem SR.cell (s : SR P T A env σ H Z) {i : Nat} {a : Addr} (h : a ∈ A i) : ∃ o, H a = some o ∧ isCell o = true := by
  cases e : env[i]? with
  | none =>
    rw [s.emp i (fun d q => by rw [e] at q; cases q)] at h
    exact absurd h (by simp)
  | some o =>
    cases o with
    | none =>
      rw [s.emp i (fun d q => by rw [e] at q; cases q)] at h
      exact absurd h (by simp)
    | some d =>
      have hi : i < T.length := by
        rw [s.lt]
        exact (List.getElem?_eq_some_iff.mp e).1
      obtain ⟨v, _, q⟩ := s.val i _ d (List.getElem?_eq_getElem hi) e
      exact q.cells a h
theorem SR.cells (s : SR P T A env σ H Z) : Cells H (W Z A) := fun a h => by
  rcases h with h | ⟨j, h⟩
  · exact s.zc a h
  · exact s.cell h
/-- the heap has grown -/
theorem SR.grow (s : SR P T A env σ H Z) (hk : ∀ a o, H a = some o → H' a = some o) : SR P T A env σ H' Z where
  ls := s.ls
  lt := s.lt
  val := fun i m d h1 h2 => by
    obtain ⟨v, e, q⟩ := s.val i m d h1 h2
    exact ⟨v, e, q.frame (fun a o e _ => hk a o e) fun _ _ n => n⟩
  emp := s.emp
  dj := s.dj
  zA := s.zA
  zc := fun a h => by
    obtain ⟨o, h1, h2⟩ := s.zc a h
    exact ⟨o, hk a o h1, h2⟩
theorem SR.less (s : SR P T A env σ H Z) (hz : ∀ a, Z' a → Z a) : SR P T A env σ H Z' where
  ls := s.ls
  lt := s.lt
  val := fun i m d h1 h2 => by
    obtain ⟨v, e, q⟩ := s.val i m d h1 h2
    exact ⟨v, e, q.frame (fun _ _ e _ => e) fun a _ n q => n (q.imp (hz a) id)⟩
  emp := s.emp
  dj := s.dj
  zA := fun i a h q => s.zA i a h (hz a q)
  zc := fun a h => s.zc a (hz a h)
theorem Stp.grow (hk : ∀ a o, H a = some o → H' a = some o) : Stp [] A H env A H' env :=
  ⟨fun a o e _ => hk a o e, (fun a e => by
    cases q : H a with
    | none => exact absurd q e
    | some o => rw [hk a o q]; exact fun z => nomatch z), fun _ _ => rfl, fun _ _ h => .inl h, rfl⟩
theorem grow_upd {p : Addr} {o : HO} (h : H p = none) : ∀ a u, H a = some u → upd H p o a = some u := fun a u e => by rw [upd_ne (ne_of_none e h)]; exact e
/-- slot i may be known from now on -/
def thaw (A : Ft) (i : Nat) : Ft := fun j => if j = i then [] else A j
theorem thaw_sub {i j : Nat} {a : Addr} (h : a ∈ thaw A i j) : a ∈ A j ∧ j ≠ i := by
  unfold thaw at h
  split at h
  · exact absurd h (by simp)
  · exact ⟨h, by assumption⟩
theorem thaw_ne {i j : Nat} (h : j ≠ i) : thaw A i j = A j := by unfold thaw; rw [if_neg h]
theorem thaw_self {i : Nat} : thaw A i i = [] := by unfold thaw; rw [if_pos rfl]
theorem W_thaw {i : Nat} {a : Addr} (h : W Z (thaw A i) a) : W Z A a := by
  rcases h with h | ⟨j, h⟩
  · exact .inl h
  · exact .inr ⟨j, (thaw_sub h).1⟩
theorem SR.thaw (s : SR P T A env σ H Z) (i : Nat) : SR P (T.set i .sh) (thaw A i) env σ H Z where
  ls := s.ls
  lt := by rw [List.length_set]; exact s.lt
  val := fun j m d h1 h2 => by
    by_cases e : j = i
    · subst e
      have hj : j < T.length := by
        rw [s.lt]
        exact (List.getElem?_eq_some_iff.mp h2).1
      rw [List.getElem?_set_self hj] at h1
      cases h1
      obtain ⟨v, e1, q⟩ := s.val j _ d (List.getElem?_eq_getElem hj) h2
      refine ⟨v, e1, ?_⟩
      rw [thaw_self]
      refine Own.sh (q.free (fun a => W_thaw) fun a ha z => ?_)
      rcases z with z | ⟨k, z⟩
      · exact s.zA _ _ ha z
      · exact s.dj j k a (fun e => (thaw_sub z).2 e.symm) ha (thaw_sub z).1
    · rw [List.getElem?_set_ne (Ne.symm e)] at h1
      obtain ⟨v, e1, q⟩ := s.val j m d h1 h2
      rw [thaw_ne e]
      exact ⟨v, e1, q.frame (fun _ _ e _ => e) fun a _ n z => n (W_thaw z)⟩
  emp := fun j h => by
    by_cases e : j = i
    · subst e; exact thaw_self
    · rw [thaw_ne e]; exact s.emp j h
  dj := fun j k a ne h1 h2 => s.dj j k a ne (thaw_sub h1).1 (thaw_sub h2).1
  zA := fun j a h => s.zA j a (thaw_sub h).1
  zc := s.zc
theorem Stp.thaw (i : Nat) : Stp [] A H env (thaw A i) H env := ⟨fun _ _ e _ => e, fun _ e => e, fun _ _ => rfl, fun _ _ h => .inl (thaw_sub h).1, rfl⟩

/-- what an expression gave: F the cells that it made and that nobody else knows, all of them in Z -/
def RV (P : GP) (r : R) (d : D) (v : V) (F : List Addr) (A : Ft) (env : Env) (σ : St) (H : Hp) (Z : AS) : Prop :=
  match r with
  | .imm => F = [] ∧ d.imm = true ∧ Rep P H (W Z A) d v
  | .sh => F = [] ∧ Rep P H (W Z A) d v
  | .top => Own P H (W Z A) .top d v F
  | .bor i => F = [] ∧ env[i]? = some (some d) ∧ σ[i]? = some (some v)
theorem RV.less {r : R} {d : D} {v : V} {F : List Addr} (h : RV P r d v F A env σ H Z) (hz : ∀ a, Z' a → Z a) : RV P r d v F A env σ H Z' := by
  have le : ∀ a, W Z' A a → W Z A a := fun a z => z.imp (hz a) id
  cases r with
  | imm => exact ⟨h.1, h.2.1, Rep.less le h.2.2⟩
  | sh => exact ⟨h.1, Rep.less le h.2⟩
  | top => exact Own.frame (H := H) (Z := W Z A) (fun _ _ e _ => e) (fun a _ n q => n (le a q)) h
  | bor i => exact h
theorem RV.step {r : R} {d : D} {v : V} {F G : List Addr} (h : RV P r d v F A1 env1 σ H1 Z) (t : Stp mu A1 H1 env1 A2 H2 env2) (hr : r.noBor mu = true)
    (hF : ∀ a ∈ F, ∀ j, a ∉ A1 j) (hG : ∀ a ∈ G, H1 a = none) : RV P r d v F A2 env2 σ H2 (Zf Z G) := by
  have kp : ∀ a o, H1 a = some o → ¬ W Z A1 a → H2 a = some o := fun a o e n => t.keep a o e fun j _ q => n (.inr ⟨j, q⟩)
  have wz : ∀ a, H1 a ≠ none → ¬ W Z A1 a → ¬ W (Zf Z G) A2 a := fun a e n q => by
    rcases q with (q | q) | ⟨j, q⟩
    · exact n (.inl q)
    · exact e (hG a q)
    · rcases t.foot j a q with q | q
      · exact n (.inr ⟨j, q⟩)
      · exact e q
  cases r with
  | imm => exact ⟨h.1, h.2.1, Rep.frame kp wz d v h.2.2⟩
  | sh => exact ⟨h.1, Rep.frame kp wz d v h.2⟩
  | top =>
    refine Own.frame (H := H1) (Z := W Z A1) (fun a o e n => t.keep a o e fun j _ q => ?_) wz h
    rcases n with n | n
    · exact n (.inr ⟨j, q⟩)
    · exact hF a n j q
  | bor i =>
    refine ⟨h.1, ?_, h.2.2⟩
    rw [t.same i]
    · exact h.2.1
    · simpa [R.noBor] using hr
theorem RV.view {r : R} {d : D} {v : V} {F : List Addr} (h : RV P r d v F A env σ H Z) (s : SR P T A env σ H Z) : Vw P H (W Z A) d v := by
  cases r with
  | imm => exact h.2.2.view
  | sh => exact h.2.view
  | top => exact Own.view (P := P) (m := .top) h
  | bor i =>
    obtain ⟨h0, h1, h2⟩ := h
    have hi : i < T.length := by
      rw [s.lt]
      exact (List.getElem?_eq_some_iff.mp h1).1
    obtain ⟨v', e1, q⟩ := s.val i _ d (List.getElem?_eq_getElem hi) h1
    rw [h2] at e1
    cases e1
    exact q.view
theorem Vw.less {d : D} {v : V} {W W' : AS} (h : Vw P H W d v) (hz : ∀ a, W' a → W a) : Vw P H W' d v := by
  unfold Vw at h ⊢
  split at h
  · obtain ⟨a, vs, e1, e2, e3⟩ := h
    exact ⟨a, vs, e1, e2, Reps.less hz e3⟩
  · obtain ⟨a, vs, e1, e2, e3, e4⟩ := h
    exact ⟨a, vs, e1, e2, e3, Reps.less hz e4⟩
  · exact Rep.less hz h
/-- the slots that rs speak of may be known from now on -/
def thawL (A : Ft) : List R → Ft
  | [] => A
  | .bor i :: rs => thaw (thawL A rs) i
  | _ :: rs => thawL A rs
theorem thawL_sub : ∀ {rs : List R} {j : Nat} {a : Addr}, a ∈ thawL A rs j → a ∈ A j
  | [], _, _, h => h
  | .bor i :: rs, _, _, h => thawL_sub (rs := rs) (thaw_sub h).1
  | .imm :: rs, _, _, h => thawL_sub (rs := rs) h
  | .sh :: rs, _, _, h => thawL_sub (rs := rs) h
  | .top :: rs, _, _, h => thawL_sub (rs := rs) h
theorem W_thawL {rs : List R} {a : Addr} (h : W Z (thawL A rs) a) : W Z A a := h.imp id fun ⟨j, q⟩ => ⟨j, thawL_sub q⟩
theorem SR.thawL : ∀ {rs : List R}, SR P T A env σ H Z → SR P (frz T rs) (thawL A rs) env σ H Z
  | [], h => h
  | .bor i :: rs, h => (SR.thawL (rs := rs) h).thaw i
  | .imm :: rs, h => SR.thawL (rs := rs) h
  | .sh :: rs, h => SR.thawL (rs := rs) h
  | .top :: rs, h => SR.thawL (rs := rs) h
theorem Stp.thawL {rs : List R} : Stp [] A H env (Fc.thawL A rs) H env := ⟨fun _ _ e _ => e, fun _ e => e, fun _ _ => rfl, fun _ _ h => .inl (thawL_sub h), rfl⟩
theorem frz_sh : ∀ {rs : List R} {i : Nat} {m : M}, .bor i ∈ rs → (frz T rs)[i]? = some m → m = .sh
  | .bor j :: rs, i, m, h, e => by
    unfold frz at e
    by_cases q : j = i
    · subst q
      by_cases hj : j < (frz T rs).length
      · rw [List.getElem?_set_self hj] at e
        exact (Option.some.inj e).symm
      · rw [List.getElem?_eq_none (by simpa using hj)] at e
        cases e
    · rw [List.getElem?_set_ne q] at e
      refine frz_sh (rs := rs) ?_ e
      rcases List.mem_cons.mp h with h | h
      · cases h
        exact absurd rfl q
      · exact h
  | .imm :: rs, i, m, h, e => frz_sh (rs := rs) (by simpa using h) e
  | .sh :: rs, i, m, h, e => frz_sh (rs := rs) (by simpa using h) e
  | .top :: rs, i, m, h, e => frz_sh (rs := rs) (by simpa using h) e
theorem SR.freshZ (s : SR P T A env σ H Z) {a : Addr} (h : H a = none) : ¬ Z a := fun z => by
  obtain ⟨o, e, _⟩ := s.zc a z
  rw [h] at e
  cases e
theorem SR.freshW (s : SR P T A env σ H Z) {a : Addr} (h : H a = none) : ¬ W Z A a := fun z => by
  obtain ⟨o, e, _⟩ := s.cells a z
  rw [h] at e
  cases e
/-- a value that may be known from now on, with all that rs speak of -/
theorem RV.free {r : R} {rs : List R} {d : D} {v : V} {F : List Addr} (h : RV P r d v F A env σ H Z) (s : SR P T A env σ H Z) (hr : r ∈ rs) (hz : ∀ a, Z' a → Z a) (hF : ∀ a ∈ F, ¬ Z' a) (hFZ : ∀ a ∈ F, Z a) : Rep P H (W Z' (thawL A rs)) d v := by
  have le : ∀ a, W Z' (thawL A rs) a → W Z A a := fun a z => (W_thawL z).imp (hz a) id
  cases r with
  | imm => exact Rep.less le h.2.2
  | sh => exact Rep.less le h.2
  | top =>
    refine Own.free (P := P) (m := .top) (Z := W Z A) h le fun a ha z => ?_
    rcases z with z | ⟨j, z⟩
    · exact hF a ha z
    · exact s.zA j a (thawL_sub z) (hFZ a ha)
  | bor i =>
    obtain ⟨h0, h1, h2⟩ := h
    have s' := SR.thawL (rs := rs) s
    have hi : i < (frz T rs).length := by
      rw [s'.lt]
      exact (List.getElem?_eq_some_iff.mp h1).1
    obtain ⟨v', e1, q⟩ := s'.val i _ d (List.getElem?_eq_getElem hi) h1
    rw [h2] at e1
    cases e1
    have em := frz_sh (T := T) hr (List.getElem?_eq_getElem hi)
    rw [em] at q
    exact Rep.less (fun a z => z.imp (hz a) id) q.sh_rep.2
/-- several -/
def RVs (P : GP) (F : List Addr) (A : Ft) (env : Env) (σ : St) (H : Hp) (Z : AS) : List R → List D → List V → Prop
  | [], [], [] => True
  | r :: rs, d :: ds, v :: vs => (∃ G, (∀ a ∈ G, a ∈ F) ∧ RV P r d v G A env σ H Z) ∧ RVs P F A env σ H Z rs ds vs
  | _, _, _ => False
theorem RVs.len {F : List Addr} : ∀ {rs : List R} {ds : List D} {vs : List V}, RVs P F A env σ H Z rs ds vs → rs.length = vs.length ∧ ds.length = vs.length
  | [], [], [], _ => ⟨rfl, rfl⟩
  | r :: rs, d :: ds, v :: vs, h => by
    obtain ⟨h1, h2⟩ := RVs.len h.2
    simp [h1, h2]
  | [], _ :: _, _, h => h.elim
  | [], [], _ :: _, h => h.elim
  | _ :: _, [], _, h => h.elim
  | _ :: _, _ :: _, [], h => h.elim
theorem RVs.free {F : List Addr} {all : List R} (s : SR P T A env σ H Z) (hz : ∀ a, Z' a → Z a) (hF : ∀ a ∈ F, ¬ Z' a) (hFZ : ∀ a ∈ F, Z a) : ∀ {rs : List R} {ds : List D} {vs : List V}, RVs P F A env σ H Z rs ds vs → (∀ r ∈ rs, r ∈ all) → Reps P H (W Z' (thawL A all)) ds vs
  | [], [], [], _, _ => rfl
  | r :: rs, d :: ds, v :: vs, h, hr => by
    obtain ⟨⟨G, hG, h1⟩, h2⟩ := h
    exact ⟨v, vs, rfl, h1.free s (hr r (by simp)) hz (fun a ha => hF a (hG a ha)) (fun a ha => hFZ a (hG a ha)), RVs.free s hz hF hFZ h2 fun q hq => hr q (by simp [hq])⟩
  | [], _ :: _, _, h, _ => h.elim
  | [], [], _ :: _, h, _ => h.elim
  | _ :: _, [], _, h, _ => h.elim
  | _ :: _, _ :: _, [], h, _ => h.elim
theorem RVs.views {F : List Addr} (s : SR P T A env σ H Z) : ∀ {rs : List R} {ds : List D} {vs : List V}, RVs P F A env σ H Z rs ds vs → Paired (fun d v => Vw P H (W Z A) d v) ds vs
  | [], [], [], _ => .nil
  | r :: rs, d :: ds, v :: vs, h => .cons (h.1.elim fun _ q => q.2.view s) (RVs.views s h.2)
  | [], _ :: _, _, h => h.elim
  | [], [], _ :: _, h => h.elim
  | _ :: _, [], _, h => h.elim
  | _ :: _, _ :: _, [], h => h.elim
end
end Fc
end

section
/-! Soundness, 1: triples, names, operators. -/
namespace Fc
open PySem L2 PySem.Spec
open PyProof.Rows hiding St

/-- an exception as it flies: its class, its own dict -/
def ExR (P : GP) (H : Hp) (Z : AS) (x : D) (cls : Value) (dd : Option Addr) : Prop :=
  ∃ c ns ds, x = .exc c ns ds ∧ cls = .ref (P.ca c) ∧
    match dd with
    | none => ns = [] ∧ ds = []
    | some d => ∃ fs, H d = some (.xd fs) ∧ ¬ Z d ∧ fs.map (·.1) = ns ∧ Reps P H Z ds (fs.map (·.2))
theorem ExR.less {P : GP} {H : Hp} {Z Z' : AS} {x : D} {cls : Value} {dd : Option Addr} (h : ExR P H Z x cls dd) (hz : ∀ a, Z' a → Z a) : ExR P H Z' x cls dd := by
  obtain ⟨c, ns, ds, e, e2, h⟩ := h
  refine ⟨c, ns, ds, e, e2, ?_⟩
  cases dd with
  | none => exact h
  | some d =>
    obtain ⟨fs, q1, q2, q3, q4⟩ := h
    exact ⟨fs, q1, fun z => q2 (hz _ z), q3, Reps.less hz q4⟩

/-! ### what a def promises -/
def inT (s : Sig) : List M := (List.range s.np).map fun i => if s.io.contains i then .top else .sh
def ioEnv (s : Sig) (ios : List D) : Env := (List.range s.np).map fun p => (s.io.zip ios).lookup p
structure Back (P : GP) (s : Sig) (A : Ft) (H : Hp) (A' : Ft) (H' : Hp) (Z : AS) (vs : List V) (ios : List D) (G : List Addr) : Prop where
  keep : ∀ a o, H a = some o → (∀ j, a ∉ A j) → H' a = some o
  thr : ∀ a, H a ≠ none → H' a ≠ none
  foot : ∀ j a, a ∈ A' j → a ∈ A j ∨ H a = none
  sr : SR P (inT s) A' (ioEnv s ios) (vs.map some) H' (Zf Z G)
  fresh : ∀ a ∈ G, H a = none
  len : ios.length = s.io.length
def spOf (P : GP) (s : Sig) (F : List D → FRes) : Sp := fun vs H Q E => ∃ (ds : List D) (Z : AS) (A : Ft), vs.length = s.np ∧ ds.length = s.np ∧
  SR P (inT s) A (ds.map some) (vs.map some) H Z ∧ (∀ j, j ∉ s.io → A j = []) ∧ F ds ≠ .err ∧
  (∀ r ios, F ds = .ok r ios → ∀ v H' A' G, Back P s A H A' H' Z vs ios G → RV P (rmR s.res) r v G A' (ioEnv s ios) (vs.map some) H' (Zf Z G) → Q v H') ∧
  (∀ x ios, F ds = .exn x ios → ∀ cls dd H' A', Back P s A H A' H' Z vs ios [] → ExR P H' (W Z A') x cls dd → E cls dd H')

structure Good (C : Ctx) (P : GP) (X : Cx) (Ew : St → XK) (Γ : Gam) (k : Nat) : Prop where
  N : X.N = C.N
  sc : X.env.scope = C.sc
  nd : X.N.Nodup
  calm : X.calm = true
  K : X.K = P.K
  room : Room k X.A
  con : ∀ x d, C.G.lookup x = some (.con d) → ∃ u v, X.mg x = some u ∧ RelV v u ∧ Rep P (fun _ => none) (fun _ => True) d v
  bn : ∀ x, x ∈ C.bn → X.mg x = none
  fn : ∀ x f s, C.G.lookup x = some (.fn f) → C.sig f = some s → ∃ a fd ps, X.mg x = some (.ref a) ∧ PySem.W.keepIn X.K (.ref a) = true ∧
    FnOk X.prog X.w X.K X.mg X.base (L2.CX X.prog X.w) k a fd ps (spOf P s (Γ.call f)) ∧ Binds X.K fd ps []
  pass : ∀ σ, PassesAt (L2.CX X.prog X.w) X σ (Ew σ)

/-! ### the widest readings -/
def WE (X : Cx) (e : Expr) (σ : St) (H : Hp) (Q : VK) : Prop := ∀ (pins : List (Addr × Obj)) (s : Shared), Inv X pins σ H s → wpAny (model X.prog X.w) X.A (eval e X.env) (EP X pins σ Q) X.xe s
def WT (X : Cx) (e : Expr) (σ : St) (H : Hp) (Q : Bool → Hp → Prop) : Prop := ∀ (pins : List (Addr × Obj)) (s : Shared), Inv X pins σ H s → wpAny (model X.prog X.w) X.A (isTrue e X.env (eval e X.env)) (TP X pins σ Q) X.xe s
def WA (X : Cx) (es : List Expr) (σ : St) (H : Hp) (Q : List V → Hp → Prop) : Prop := ∀ (pos : Pos) (pins : List (Addr × Obj)) (s : Shared), Inv X pins σ H s → wpAny (model X.prog X.w) X.A (spliced (backTo pos (starEach es X.env))) (AP X pins σ Q) X.xe s
theorem peW {X : Cx} {e : Expr} : PE X e (WE X e) := ⟨fun pins s _ _ _ I h => h pins s I⟩
theorem ptW {X : Cx} {e : Expr} : PT X e (WT X e) := ⟨fun pins s _ _ _ I h => h pins s I⟩
theorem paW {X : Cx} {es : List Expr} : PA X es (WA X es) := ⟨fun pos pins s _ _ _ I h => h pos pins s I⟩
theorem WE.of {X : Cx} {e : Expr} {t : TE} (h : PE X e t) {σ : St} {H : Hp} {Q : VK} (q : t σ H Q) : WE X e σ H Q := fun pins s I => h.run pins s σ H Q I q
theorem WT.of {X : Cx} {e : Expr} {t : TT} (h : PT X e t) {σ : St} {H : Hp} {Q : Bool → Hp → Prop} (q : t σ H Q) : WT X e σ H Q := fun pins s I => h.run pins s σ H Q I q
theorem WA.of {X : Cx} {es : List Expr} {t : TA} (h : PA X es t) {σ : St} {H : Hp} {Q : List V → Hp → Prop} (q : t σ H Q) : WA X es σ H Q := fun pos pins s I => h.run pos pins s σ H Q I q
def OpW (X : Cx) (f : Value → Value → Sem Value) (x y : V) (H : Hp) (Q : VK) : Prop := ∀ (pins : List (Addr × Obj)) (s : Shared) (σ : L2.St) (v u : Value), Inv X pins σ H s → RelV x v → RelV y u → wpAny (model X.prog X.w) X.A (f v u) (EP X pins σ Q) X.xe s
theorem OpW.of {X : Cx} {f : Value → Value → Sem Value} {r : R2} (h : OpR X f r) {x y : V} {H : Hp} {Q : VK} (q : r x y H Q) : OpW X f x y H Q := fun pins s σ v u I rx ry => h pins s σ H x y v u Q I rx ry q
theorem OpW.opr {X : Cx} {f : Value → Value → Sem Value} : OpR X f (OpW X f) := fun pins s σ H x y v u Q I rx ry q => q pins s σ v u I rx ry

section
variable {C : Ctx} {P : GP} {X : Cx} {Ew : St → XK} {Γ : Gam} {k : Nat}
variable {T T' T1 T2 T3 : List M} {A A1 A2 A' : Ft} {env env1 env2 env' : Env} {σ : St} {H H1 H2 H3 H' : Hp} {Z Z1 Z2 Z' : AS} {mu mu1 mu2 : List Nat}

def OkE (P : GP) (o : Out D) (mu : List Nat) (T' : List M) (r : R) (A : Ft) (env : Env) (σ : St) (H : Hp) (Z : AS) (Q : VK) : Prop :=
  ∀ d env', o = .ok d env' → ∀ v H' A' F, (∀ a ∈ F, H a = none) → SR P T' A' env' σ H' (Zf Z F) → Stp mu A H env A' H' env' → RV P r d v F A' env' σ H' (Zf Z F) → Q v H'
def OkA (P : GP) (o : Out (List D)) (mu : List Nat) (T' : List M) (rs : List R) (A : Ft) (env : Env) (σ : St) (H : Hp) (Z : AS) (Q : List V → Hp → Prop) : Prop :=
  ∀ ds env', o = .ok ds env' → ∀ vs H' A' F, (∀ a ∈ F, H a = none) → SR P T' A' env' σ H' (Zf Z F) → Stp mu A H env A' H' env' → RVs P F A' env' σ H' (Zf Z F) rs ds vs → Q vs H'
def OkB (P : GP) (o : Out Bool) (mu : List Nat) (T' : List M) (A : Ft) (env : Env) (σ : St) (H : Hp) (Z : AS) (Q : Bool → Hp → Prop) : Prop :=
  ∀ b env', o = .ok b env' → ∀ H' A', SR P T' A' env' σ H' Z → Stp mu A H env A' H' env' → Q b H'
def ExE {α : Type} (C : Ctx) (P : GP) (Ew : St → XK) (o : Out α) (mu : List Nat) (A : Ft) (env : Env) (σ : St) (H : Hp) (Z : AS) : Prop :=
  ∀ x env', o = .exn x env' → ∀ cls dd H' A', SR P C.lb A' env' σ H' Z → Stp mu A H env A' H' env' → ExR P H' (W Z A') x cls dd → Ew σ cls dd H'
def TrE (C : Ctx) (P : GP) (X : Cx) (Ew : St → XK) (Γ : Gam) (T : List M) (e : Expr) (c : E) (r : R) (T' : List M) : Prop :=
  ∀ A env σ H Z Q, SR P T A env σ H Z → evE Γ c env ≠ .err → OkE P (evE Γ c env) (muE c) T' r A env σ H Z Q → ExE C P Ew (evE Γ c env) (muE c) A env σ H Z → WE X e σ H Q
def TrA (C : Ctx) (P : GP) (X : Cx) (Ew : St → XK) (Γ : Gam) (T : List M) (es : List Expr) (cs : List E) (rs : List R) (T' : List M) : Prop :=
  ∀ A env σ H Z Q, SR P T A env σ H Z → evEs Γ cs env ≠ .err → OkA P (evEs Γ cs env) (muEs cs) T' rs A env σ H Z Q → ExE C P Ew (evEs Γ cs env) (muEs cs) A env σ H Z → WA X es σ H Q
def TrT (C : Ctx) (P : GP) (X : Cx) (Ew : St → XK) (Γ : Gam) (T : List M) (e : Expr) (c : Fc.T) (T' : List M) : Prop :=
  ∀ A env σ H Z Q, SR P T A env σ H Z → evT Γ c env ≠ .err → OkB P (evT Γ c env) (muT c) T' A env σ H Z Q → ExE C P Ew (evT Γ c env) (muT c) A env σ H Z → WT X e σ H Q

theorem Zf_l {F : List Addr} {a : Addr} (h : Z a) : Zf Z F a := .inl h
theorem Zf_r {F : List Addr} {a : Addr} (h : a ∈ F) : Zf Z F a := .inr h
theorem ExE.sub {α β : Type} {o : Out α} {o2 : Out β} (h : ExE C P Ew o mu A env σ H Z) (t : Stp mu1 A H env A1 H1 env1) (hx : ∀ x e', o2 = .exn x e' → o = .exn x e')
    (hm : ∀ j, j ∈ mu1 ++ mu2 → j ∈ mu) (hz : ∀ a, Z a → Z1 a) : ExE C P Ew o2 mu2 A1 env1 σ H1 Z1 := fun x e' e cls dd H' A' s t' r =>
  h x e' (hx x e' e) cls dd H' A' (s.less hz) ((t.trans t').mono hm) (r.less fun a z => z.imp (hz a) id)
theorem bind_ne {α β : Type} {x : Out α} {f : α → Env → Out β} (h : x.bind f ≠ .err) : x ≠ .err := fun e => h (by rw [e]; rfl)
theorem bind_ok {α β : Type} {x : Out α} {f : α → Env → Out β} {a : α} (e : x = .ok a env) : x.bind f = f a env := by rw [e]; rfl
theorem bind_exn {α β : Type} {x : Out α} {f : α → Env → Out β} {a : D} (e : x = .exn a env) : x.bind f = .exn a env := by rw [e]; rfl

/-- fresh cells, put to what nobody may know -/
theorem SR.growF {F : List Addr} (s : SR P T A env σ H Z) (hk : ∀ a o, H a = some o → H' a = some o) (hF : ∀ a ∈ F, H a = none) (hc : ∀ a ∈ F, ∃ o, H' a = some o ∧ isCell o = true) : SR P T A env σ H' (Zf Z F) where
  ls := s.ls
  lt := s.lt
  val := fun i m d h1 h2 => by
    obtain ⟨v, e, q⟩ := s.val i m d h1 h2
    refine ⟨v, e, q.frame (fun a o e _ => hk a o e) fun a e n z => ?_⟩
    rcases z with (z | z) | z
    · exact n (.inl z)
    · exact e (hF a z)
    · exact n (.inr z)
  emp := s.emp
  dj := s.dj
  zA := fun i a h z => by
    rcases z with z | z
    · exact s.zA i a h z
    · obtain ⟨o, e, _⟩ := s.cell h
      rw [hF a z] at e
      cases e
  zc := fun a z => by
    rcases z with z | z
    · obtain ⟨o, e, q⟩ := s.zc a z
      exact ⟨o, hk a o e, q⟩
    · exact hc a z
/-- an operation's end: what it made lies in H3, behind H2 -/
theorem OkE.fin {o : Out D} {r : R} {Q : VK} {z : D} {v : V} {F : List Addr} (ok : OkE P o mu T' r A env σ H Z Q) (ev : o = .ok z env2) (s : SR P T' A2 env2 σ H2 Z2) (hz : ∀ a, Z a → Z2 a) (t : Stp mu1 A H env A2 H2 env2)
    (hm : ∀ j, j ∈ mu1 → j ∈ mu) (hk : ∀ a o, H2 a = some o → H3 a = some o) (hF : ∀ a ∈ F, H2 a = none) (hc : ∀ a ∈ F, ∃ o, H3 a = some o ∧ isCell o = true) (rv : RV P r z v F A2 env2 σ H3 (Zf Z2 F)) : Q v H3 := by
  have hl : ∀ a, Zf Z F a → Zf Z2 F a := fun a z => z.imp (hz a) id
  refine ok z env2 ev v H3 A2 F (fun a ha => ?_) ((s.growF hk hF hc).less hl) (((t.trans (Stp.grow hk)).mono fun j hj => hm j (by simpa using hj))) (rv.less hl)
  cases e : H a with
  | none => rfl
  | some u => exact absurd (hF a ha) (t.thr a (by rw [e]; exact fun z => nomatch z))
/-- .. where nothing was made -/
theorem OkE.fin0 {o : Out D} {r : R} {Q : VK} {z : D} {v : V} (ok : OkE P o mu T' r A env σ H Z Q) (ev : o = .ok z env2) (s : SR P T' A2 env2 σ H2 Z2) (hz : ∀ a, Z a → Z2 a) (t : Stp mu1 A H env A2 H2 env2)
    (hm : ∀ j, j ∈ mu1 → j ∈ mu) (rv : RV P r z v [] A2 env2 σ H2 Z2) : Q v H2 :=
  ok.fin (F := []) ev s hz t hm (fun _ _ e => e) (fun a ha => absurd ha (by simp)) (fun a ha => absurd ha (by simp)) (rv.less fun a z => z.elim id fun q => absurd q (by simp))
/-- scalars -/
def D.scal : D → Bool
  | .non => true | .bl _ => true | .int _ => true | .str _ => true
  | _ => false
def scV : D → V
  | .bl b => .bl b | .int i => .int i | .str s => .str s | _ => .non
theorem rep_scal {d : D} (h : d.scal = true) : Rep P H Z d (scV d) := by
  cases d <;> first | rfl | exact Bool.noConfusion h
theorem rv_scal {r : R} {d : D} (h : d.scal = true) (hr : ∀ i, r ≠ .bor i) : RV P r d (scV d) [] A env σ H Z := by
  cases r with
  | imm => exact ⟨rfl, by cases d <;> first | rfl | exact Bool.noConfusion h, rep_scal h⟩
  | sh => exact ⟨rfl, rep_scal h⟩
  | top => cases d <;> first | exact ⟨rfl, rfl⟩ | exact Bool.noConfusion h
  | bor i => exact absurd rfl (hr i)
theorem vw_scal {d : D} {v : V} (h : d.scal = true) (q : Vw P H Z d v) : v = scV d := by
  cases d <;> first | exact q | exact Bool.noConfusion h
theorem vw_int {i : Int} {v : V} (q : Vw P H Z (.int i) v) : v = .int i := q
theorem vw_str {i : Str} {v : V} (q : Vw P H Z (.str i) v) : v = .str i := q
theorem vw_bl {i : Bool} {v : V} (q : Vw P H Z (.bl i) v) : v = .bl i := q
theorem vw_non {v : V} (q : Vw P H Z .non v) : v = .non := q

/-- two operands -/
theorem two {a b : Expr} {a' b' : E} {ra rb : R} {β : Type} (ha : TrE C P X Ew Γ T a a' ra T1) (hb : TrE C P X Ew Γ T1 b b' rb T2) (hn : okNext ra b' = true) (s : SR P T A env σ H Z)
    {g : D → D → Env → Out β} (ne : ((evE Γ a' env).bind fun x env1 => (evE Γ b' env1).bind (g x)) ≠ .err)
    (ex : ExE C P Ew ((evE Γ a' env).bind fun x env1 => (evE Γ b' env1).bind (g x)) mu A env σ H Z) (hm : ∀ j, j ∈ muE a' ++ muE b' → j ∈ mu) {Kk : V → V → Hp → Prop}
    (h : ∀ x y env1 env2 v1 v2 H2 A2 Z2, evE Γ a' env = .ok x env1 → evE Γ b' env1 = .ok y env2 → ((evE Γ a' env).bind fun x env1 => (evE Γ b' env1).bind (g x)) = g x y env2 → (∀ a, Z a → Z2 a) → SR P T2 A2 env2 σ H2 Z2 → Stp (muE a' ++ muE b') A H env A2 H2 env2 →
      Vw P H2 (W Z2 A2) x v1 → Vw P H2 (W Z2 A2) y v2 → Kk v1 v2 H2) :
    WE X a σ H (fun v1 H1 => WE X b σ H1 (fun v2 H2 => Kk v1 v2 H2)) := by
  refine ha A env σ H Z _ s (bind_ne ne) (fun x env1 e1 v1 H1 A1 F1 f1 s1 t1 r1 => ?_) (ex.sub (Stp.refl) (fun x e' e => bind_exn e) (fun j hj => hm j (by simp at hj ⊢; exact .inl hj)) fun _ z => z)
  rw [bind_ok e1] at ne
  refine hb A1 env1 σ H1 (Zf Z F1) _ s1 (bind_ne ne) (fun y env2 e2 v2 H2 A2 F2 f2 s2 t2 r2 => ?_) (ex.sub t1 (fun x e' e => by rw [bind_ok e1]; exact bind_exn e) hm fun _ z => .inl z)
  have r1' := r1.step (G := F2) t2 hn (fun a ha j q => s1.zA j a q (.inr ha)) f2
  exact h x y env1 env2 v1 v2 H2 A2 (Zf (Zf Z F1) F2) e1 e2 (by rw [bind_ok e1, bind_ok e2]) (fun a z => .inl (.inl z)) s2 (t1.trans t2) (r1'.view s2) (r2.view s2)
/-- one operand -/
theorem one {a : Expr} {a' : E} {ra : R} {β : Type} (ha : TrE C P X Ew Γ T a a' ra T1) (s : SR P T A env σ H Z)
    {g : D → Env → Out β} (ne : ((evE Γ a' env).bind g) ≠ .err)
    (ex : ExE C P Ew ((evE Γ a' env).bind g) mu A env σ H Z) (hm : ∀ j, j ∈ muE a' → j ∈ mu) {Kk : V → Hp → Prop}
    (h : ∀ x env1 v1 H1 A1 F1, evE Γ a' env = .ok x env1 → ((evE Γ a' env).bind g) = g x env1 → (∀ a ∈ F1, H a = none) → SR P T1 A1 env1 σ H1 (Zf Z F1) → Stp (muE a') A H env A1 H1 env1 →
      RV P ra x v1 F1 A1 env1 σ H1 (Zf Z F1) → Kk v1 H1) :
    WE X a σ H Kk := by
  refine ha A env σ H Z _ s (bind_ne ne) (fun x env1 e1 v1 H1 A1 F1 f1 s1 t1 r1 => ?_) (ex.sub (Stp.refl) (fun x e' e => bind_exn e) (fun j hj => hm j (by simpa using hj)) fun _ z => z)
  exact h x env1 v1 H1 A1 F1 e1 (bind_ok e1) f1 s1 t1 r1

/-! ### operators by values -/
theorem of_ne {α : Type} {o : Option α} (h : Out.of o env ≠ .err) : ∃ a, o = some a := by
  cases o with
  | none => exact absurd rfl h
  | some a => exact ⟨a, rfl⟩
/-- list + list, wherever they stand -/
theorem op_catS : OpR X (binaryOp .Add) (fun x y H Q => ∃ l b xs zs, x = .ref l ∧ y = .ref b ∧ SqL X.K H l xs ∧ SqL X.K H b zs ∧ xs.length + zs.length ≤ sizeLine ∧ ∀ p, H p = none → Q (.ref p) (upd H p (.lst (xs ++ zs)))) := by
  intro pins s σ H x y v u Q I rx ry h
  obtain ⟨l, b, xs, zs, rfl, rfl, hH, hB, hz, q⟩ := h
  cases rx
  cases ry
  obtain ⟨its, r, ⟨⟨c1, d1, b1, sl1⟩, n, e, hc, hd, he⟩, hl⟩ := I.list hH
  obtain ⟨its2, r2, ⟨⟨c2, d2, b2, sl2⟩, n2, e2, hc2, hd2, he2⟩, hl2⟩ := I.list hB
  simp only at hc hd he hc2 hd2 he2
  subst hc hd he hc2 hd2 he2
  have z1 := r.length
  have z2 := r2.length
  have M := list_addW l b its.toArray its2.toArray n n2 none none sl1 sl2 (by simp only [List.size_toArray]; omega)
  refine concat_meets ⟨_, e, rfl⟩ ⟨_, e2, rfl⟩ noFill_list_add seq_list_add F.slot_list_add F.entry_list_add (F.args_list_add_2 _ _) M ⟨e, e2, ?_⟩
  have ea : its.toArray ++ its2.toArray = (its ++ its2).toArray := by simp
  rw [ea]
  exact ⟨.ref _, _, I.lnew (t' := s.toks) (r.append r2) (by rw [List.length_append]; omega), rfl, q _ I.fresh⟩
theorem vw_lst {ds : List D} {v : V} (q : Vw P H Z (.lst ds) v) : ∃ a vs, v = .ref a ∧ SqL P.K H a vs ∧ Reps P H Z ds vs := q
theorem vw_tup {ds : List D} {v : V} (q : Vw P H Z (.tup ds) v) : ∃ a vs, v = .ref a ∧ SqT P.K H a vs ∧ Reps P H Z ds vs := by
  obtain ⟨a, vs, e1, e2, e3⟩ := q
  exact ⟨a, vs, e1, e2.sq, e3⟩
/-- a new list, a new tuple -/
theorem rv_new {ds : List D} {vs : List V} {p : Addr} (s : SR P T A env σ H Z) (hp : H p = none) (h : Reps P H (W Z A) ds vs) : RV P .top (.lst ds) (.ref p) [p] A env σ (upd H p (.lst vs)) (Zf Z [p]) := by
  refine ⟨p, vs, rfl, rfl, upd_same, Reps.frame (fun a o e _ => grow_upd hp a o e) (fun a e n z => ?_) _ _ h⟩
  rcases z with (z | z) | z
  · exact n (.inl z)
  · obtain rfl : a = p := by simpa using z
    exact e hp
  · exact n (.inr z)
theorem rep_newT {ds : List D} {vs : List V} {p : Addr} (s : SR P T A env σ H Z) (hp : H p = none) (h : Reps P H (W Z A) ds vs) : Rep P (upd H p (.tup vs)) (W Z A) (.tup ds) (.ref p) :=
  ⟨p, vs, rfl, .inl ⟨.inl upd_same, s.freshW hp⟩, Reps.grow (grow_upd hp) h⟩
theorem cell_new {vs : List V} {p : Addr} : ∀ a ∈ [p], ∃ o, upd H p (.lst vs) a = some o ∧ isCell o = true := fun a ha => by
  obtain rfl : a = p := by simpa using ha
  exact ⟨_, upd_same, rfl⟩
theorem fresh1 {p : Addr} (h : H p = none) : ∀ a ∈ [p], H a = none := fun a ha => by
  obtain rfl : a = p := by simpa using ha
  exact h
theorem none1 {Q : Addr → Prop} : ∀ a ∈ ([] : List Addr), Q a := fun a ha => absurd ha (by simp)

def opO : Op → Operator
  | .add => .Add | .sub => .Sub | .mul => .Mult | .fdiv => .FloorDiv | .mod => .Mod | .pow => .Pow | .band => .BitAnd | .shr => .RShift
theorem opOf_eq {o : Operator} {o' : Op} (h : opOf o = some o') : o = opO o' := by
  cases o <;> simp [opOf] at h <;> subst h <;> rfl
/-- what an operation's result is to lead to -/
def Res (P : GP) (r : R) (z : D) (A : Ft) (env : Env) (σ : L2.St) (H : Hp) (Z : AS) (Q : VK) : Prop :=
  ∀ v H3 F, (∀ a o, H a = some o → H3 a = some o) → (∀ a ∈ F, H a = none) → (∀ a ∈ F, ∃ o, H3 a = some o ∧ isCell o = true) → RV P r z v F A env σ H3 (Zf Z F) → Q v H3
theorem Res.sc {r : R} {d : D} {Q : VK} (h : Res P r d A env σ H Z Q) (hd : d.scal = true) (hr : ∀ i, r ≠ .bor i) : Q (scV d) H :=
  h (scV d) H [] (fun _ _ e => e) none1 none1 (rv_scal hd hr)
theorem Res.t {ds : List D} {vs : List V} {r : R} {Q : VK} (h : Res P r (.tup ds) A env σ H Z Q) (s : SR P T A env σ H Z) (hr : r = .sh ∨ r = .top) (hv : Reps P H (W Z A) ds vs) {p : Addr} (hp : H p = none) : Q (.ref p) (upd H p (.tup vs)) := by
  have hz : ∀ a, W (Zf Z []) A a → W Z A a := fun a z => z.imp (fun q => q.elim id fun x => absurd x (by simp)) id
  refine h _ _ [] (grow_upd hp) none1 none1 ?_
  rcases hr with rfl | rfl
  · exact ⟨rfl, Rep.less hz (rep_newT s hp hv)⟩
  · exact ⟨rfl, Rep.less hz (rep_newT s hp hv)⟩
theorem opD (hK : X.K = P.K) (s : SR P T A env σ H Z) {o : Op} {x y z : D} {v w : V} {Q : VK} (e : binD o x y = some z) (hx : Vw P H (W Z A) x v) (hy : Vw P H (W Z A) y w) (h : Res P (opR o) z A env σ H Z Q) : OpW X (binaryOp (opO o)) v w H Q := by
  unfold binD at e
  split at e
  · cases e
    rw [vw_int hx, vw_int hy]
    exact .of op_add ⟨_, _, rfl, rfl, h.sc rfl (fun i => by simp [opR])⟩
  · split at e
    · cases e
      rename_i hl
      rw [vw_str hx, vw_str hy]
      exact .of op_add_str ⟨_, _, rfl, rfl, of_decide_eq_true hl, h.sc rfl (fun i => by simp [opR])⟩
    · cases e
  · split at e
    · cases e
      rename_i a b hl
      obtain ⟨l, vs, rfl, q1, q2⟩ := vw_lst hx
      obtain ⟨l', ws, rfl, q3, q4⟩ := vw_lst hy
      have hl' : a.length + b.length ≤ sizeLine := of_decide_eq_true hl
      rw [q2.length, q4.length] at hl'
      exact .of op_catS ⟨l, l', vs, ws, rfl, rfl, by rw [hK]; exact q1, by rw [hK]; exact q3, hl', fun p hp => h _ _ [p] (grow_upd hp) (fresh1 hp) cell_new (rv_new s hp (q2.append q4))⟩
    · cases e
  · split at e
    · cases e
      rename_i a b hl
      simp only [Bool.and_eq_true] at hl
      obtain ⟨l, vs, rfl, q1, q2⟩ := vw_tup hx
      obtain ⟨l', ws, rfl, q3, q4⟩ := vw_tup hy
      have hl' : a.length + b.length ≤ sizeLine := of_decide_eq_true hl.2
      have na : vs ≠ [] := fun e => by
        have := q2.length
        rw [e] at this
        have z := hl.1.1
        cases a <;> simp_all
      have nb : ws ≠ [] := fun e => by
        have := q4.length
        rw [e] at this
        have z := hl.1.2
        cases b <;> simp_all
      rw [q2.length, q4.length] at hl'
      exact .of op_catT ⟨l, l', vs, ws, rfl, rfl, by rw [hK]; exact q1, by rw [hK]; exact q3, na, hl', fun z => absurd z nb, fun _ p hp => h.t s (.inr rfl) (q2.append q4) hp⟩
    · cases e
  · cases e
    rw [vw_int hx, vw_int hy]
    exact .of op_sub ⟨_, _, rfl, rfl, h.sc rfl (fun i => by simp [opR])⟩
  · split at e
    · cases e
      rename_i a b hm
      have hm' : a.natAbs.log2 + b.natAbs.log2 < 1000000 := of_decide_eq_true hm
      rw [vw_int hx, vw_int hy]
      exact .of op_mulW ⟨_, _, rfl, rfl, hm', h.sc rfl (fun i => by simp [opR])⟩
    · cases e
  · split at e
    · cases e
      rename_i hm
      simp only [divOk, Bool.and_eq_true, decide_eq_true_eq] at hm
      rw [vw_int hx, vw_int hy]
      intro pins s' σ' v' u' I rx ry
      obtain ⟨t, rfl⟩ := rx
      obtain ⟨t', rfl⟩ := ry
      exact floordiv_int hm.1 ⟨.int _, H, I.tok _, ⟨_, rfl⟩, h.sc (d := .int _) rfl (fun i => by simp [opR])⟩ (.inl (PyProof.noPylong_of_log2 hm.2))
    · cases e
  · split at e
    · cases e
      rename_i hm
      rw [vw_int hx, vw_int hy]
      exact .of op_modN ⟨_, _, rfl, rfl, of_decide_eq_true hm, h.sc rfl (fun i => by simp [opR])⟩
    · cases e
  · split at e
    · cases e
      rename_i a b hm
      have hm' : 0 ≤ b ∧ b ≤ 1000000 ∧ a.natAbs < 2 ^ 64 := of_decide_eq_true hm
      rw [vw_int hx, vw_int hy]
      exact .of op_pow ⟨_, _, rfl, rfl, hm', h.sc rfl (fun i => by simp [opR])⟩
    · cases e
  · cases e
end
end Fc
end

section
/-! Soundness, 2: expressions. -/
namespace Fc
open PySem L2 PySem.Spec
open PyProof.Rows hiding St
section
variable {C : Ctx} {P : GP} {X : Cx} {Ew : L2.St → XK} {Γ : Gam} {k : Nat}
variable {T T' T1 T2 T3 : List M} {A A1 A2 A' : Ft} {env env1 env2 env' : Env} {σ : L2.St} {H H1 H2 H3 H' : Hp} {Z Z1 Z2 Z' : AS} {mu mu1 mu2 : List Nat} {pos : Pos}

/-! ### comparisons by values -/
def cpO : Cp → CmpOp
  | .eq => .Eq | .ne => .NotEq | .lt => .Lt | .le => .LtE | .gt => .Gt | .ge => .GtE
  | .isn => .Is | .nn => .IsNot | .mem => .In | .nmem => .NotIn
theorem cpOf_eq {o : CmpOp} {o' : Cp} (h : cpOf o = some o') : o = cpO o' := by
  cases o <;> simp [cpOf] at h <;> subst h <;> rfl
mutual
theorem rep_dp : ∀ (d : D) (v : V) (p : PyData), Rep P H Z d v → d.toP = some p → Dp P.K H v p
  | .non, v, p, h, e => by cases e; obtain rfl := (show v = .non from h); exact .non
  | .bl b, v, p, h, e => by cases e; obtain rfl := (show v = .bl b from h); exact .bl b
  | .int i, v, p, h, e => by cases e; obtain rfl := (show v = .int i from h); exact .int i
  | .str s, v, p, h, e => by cases e; obtain rfl := (show v = .str s from h); exact .str s
  | .tup ds, v, p, h, e => by
    obtain ⟨a, vs, rfl, h1, h2⟩ := h
    cases q : toPs ds with
    | none => simp [D.toP, q] at e
    | some ps =>
      simp [D.toP, q] at e
      subst e
      exact .tup h1.sq (reps_dp ds vs ps h2 q)
  | .lst ds, v, p, h, e => by
    obtain ⟨a, vs, rfl, h1, h2⟩ := h
    cases q : toPs ds with
    | none => simp [D.toP, q] at e
    | some ps =>
      simp [D.toP, q] at e
      subst e
      exact .lst h1.sq (reps_dp ds vs ps h2 q)
  | .dic _ _, v, p, h, e => by simp [D.toP] at e
  | .exc _ _ _, v, p, h, e => by simp [D.toP] at e
  | .obj _ _ _, v, p, h, e => by simp [D.toP] at e
theorem reps_dp : ∀ (ds : List D) (vs : List V) (ps : List PyData), Reps P H Z ds vs → toPs ds = some ps → DpAll P.K H vs ps
  | [], vs, ps, h, e => by
    obtain rfl := (show vs = [] from h)
    cases e
    exact .nil
  | d :: ds, vs, ps, h, e => by
    obtain ⟨v, r, rfl, h1, h2⟩ := h
    cases q1 : d.toP with
    | none => simp [toPs, q1] at e
    | some p =>
      cases q2 : toPs ds with
      | none => simp [toPs, q1, q2] at e
      | some qs =>
        simp [toPs, q1, q2] at e
        subst e
        exact .cons (rep_dp d v p h1 q1) (reps_dp ds r qs h2 q2)
end
theorem flat_scal {d : D} (h : d.flat = true) : d.scal = true := by cases d <;> first | rfl | exact Bool.noConfusion h
theorem flat_v {d : D} (h : d.flat = true) : flatV (scV d) = true := by cases d <;> first | rfl | exact Bool.noConfusion h
theorem eqF_v {d e : D} (h : d.flat = true) (h' : e.flat = true) : eqV (scV d) (scV e) = eqF d e := by
  cases d <;> cases e <;> first | rfl | exact Bool.noConfusion h | exact Bool.noConfusion h'
theorem reps_flat : ∀ {ds : List D} {vs : List V}, Reps P H Z ds vs → ds.all D.flat = true → vs = ds.map scV
  | [], vs, h, _ => h
  | d :: ds, vs, h, e => by
    obtain ⟨v, r, rfl, h1, h2⟩ := h
    rw [List.all_cons, Bool.and_eq_true] at e
    rw [reps_flat h2 e.2, vw_scal (flat_scal e.1) h1.view]
    rfl
theorem inF_v {x : D} (h : x.flat = true) : ∀ {ds : List D}, ds.all D.flat = true → inV (scV x) (ds.map scV) = inF x ds
  | [], _ => rfl
  | d :: ds, e => by
    rw [List.all_cons, Bool.and_eq_true] at e
    have ih := inF_v h e.2
    unfold inV inF at ih ⊢
    rw [List.map_cons, List.any_cons, List.any_cons, eqF_v e.1 h, ih]
theorem all_flatV {ds : List D} (e : ds.all D.flat = true) : (ds.map scV).all flatV = true := by
  rw [List.all_eq_true] at e ⊢
  intro v hv
  obtain ⟨d, hd, rfl⟩ := List.mem_map.mp hv
  exact flat_v (e d hd)
theorem opMem (hK : X.K = P.K) (hr : Room k X.A) {x y : D} {b : Bool} {v w : V} {Q : VK} (e : memD x y = some b) (hx : Vw P H Z x v) (hy : Vw P H Z y w) :
    (Q (.bl b) H → OpW X (compareOp .In) v w H Q) ∧ (Q (.bl (!b)) H → OpW X (compareOp .NotIn) v w H Q) := by
  unfold memD at e
  split at e
  · split at e
    · rename_i xs hf
      cases e
      rw [Bool.and_eq_true] at hf
      obtain ⟨a, vs, rfl, q1, q2⟩ := vw_lst hy
      have ev := vw_scal (flat_scal hf.1) hx
      have es := reps_flat q2 hf.2
      subst ev es
      refine ⟨fun q => .of op_in_seq ⟨a, _, rfl, .inl (by rw [hK]; exact q1), flat_v hf.1, all_flatV hf.2, ?_⟩, fun q => .of op_notIn_seq ⟨a, _, rfl, .inl (by rw [hK]; exact q1), flat_v hf.1, all_flatV hf.2, ?_⟩⟩
      · rw [inF_v hf.1 hf.2]; exact q
      · rw [inF_v hf.1 hf.2]; exact q
    · rename_i xs hf
      unfold memP at e
      split at e
      · rename_i p ps e1 e2
        split at e
        · rename_i sh
          cases e
          rw [Bool.and_eq_true] at sh
          have d1 : Dp X.K H v p := by rw [hK]; exact rep_dp _ _ _ hx.rep e1
          have d2 : Dp X.K H w (.list ps) := by rw [hK]; exact rep_dp _ _ _ hy.rep (by show (toPs xs).map _ = _; rw [e2]; rfl)
          have hu : X.A.units + 65 < cLine := by have := hr.un; omega
          exact ⟨fun q => .of (op_inD hu) ⟨_, _, d1, d2, sh.1, sh.2, q⟩, fun q => .of (op_notInD hu) ⟨_, _, d1, d2, sh.1, sh.2, q⟩⟩
        · cases e
      · cases e
  · split at e
    · rename_i xs hf
      cases e
      rw [Bool.and_eq_true] at hf
      obtain ⟨a, vs, rfl, q1, q2⟩ := vw_tup hy
      have ev := vw_scal (flat_scal hf.1) hx
      have es := reps_flat q2 hf.2
      subst ev es
      refine ⟨fun q => .of op_in_seq ⟨a, _, rfl, .inr (by rw [hK]; exact q1), flat_v hf.1, all_flatV hf.2, ?_⟩, fun q => .of op_notIn_seq ⟨a, _, rfl, .inr (by rw [hK]; exact q1), flat_v hf.1, all_flatV hf.2, ?_⟩⟩
      · rw [inF_v hf.1 hf.2]; exact q
      · rw [inF_v hf.1 hf.2]; exact q
    · cases e
  · split at e
    · cases e
      rw [vw_str hx, vw_str hy]
      exact ⟨fun q => .of op_in_str ⟨_, _, rfl, rfl, q⟩, fun q => .of op_notin_str ⟨_, _, rfl, rfl, q⟩⟩
    · cases e
  · cases e
theorem vw_is_non {d : D} {v : V} (h : Vw P H Z d v) : decide (v = .non) = isNonD d := by
  cases d with
  | non => obtain rfl := vw_non h; rfl
  | bl b => obtain rfl := vw_bl h; rfl
  | int b => obtain rfl := vw_int h; rfl
  | str b => obtain rfl := vw_str h; rfl
  | tup ds => obtain ⟨a, vs, rfl, _⟩ := h; rfl
  | lst ds => obtain ⟨a, vs, rfl, _⟩ := h; rfl
  | dic _ ds => obtain ⟨a, vs, rfl, _⟩ := h; rfl
  | exc _ _ ds => obtain ⟨a, vs, rfl, _⟩ := h; rfl
  | obj _ _ ds => exact h.elim
theorem opC (hK : X.K = P.K) (hr : Room k X.A) {o : Cp} {x y : D} {b : Bool} {v w : V} {Q : VK} (e : cmpD o x y = some b) (hx : Vw P H Z x v) (hy : Vw P H Z y w) (h : Q (.bl b) H) : OpW X (compareOp (cpO o)) v w H Q := by
  have eqS : ∀ {c : Bool}, eqD x y = some c → ∃ d e', Dp X.K H v d ∧ Dp X.K H w e' ∧ SeqAt.shaped d = true ∧ SeqAt.shaped e' = true ∧ PyData.eqv d e' = c := fun {c} q => by
    unfold eqD at q
    cases e1 : x.toP with
    | none => rw [e1] at q; cases q
    | some p =>
      cases e2 : y.toP with
      | none => rw [e1, e2] at q; cases q
      | some p' =>
        rw [e1, e2] at q
        simp only at q
        split at q
        · rename_i hs
          rw [Bool.and_eq_true] at hs
          cases q
          exact ⟨p, p', by rw [hK]; exact rep_dp x v p hx.rep e1, by rw [hK]; exact rep_dp y w p' hy.rep e2, hs.1, hs.2, rfl⟩
        · cases q
  unfold cmpD at e
  split at e
  · obtain ⟨d, e', h1, h2, h3, h4, h5⟩ := eqS e
    exact .of (op_eqD hr.units) ⟨d, e', h1, h2, h3, h4, by rw [h5]; exact h⟩
  · cases q : eqD x y with
    | none => rw [q] at e; cases e
    | some c =>
      rw [q] at e
      cases e
      obtain ⟨d, e', h1, h2, h3, h4, h5⟩ := eqS q
      exact .of (op_neD hr.units) ⟨d, e', h1, h2, h3, h4, by rw [h5]; exact h⟩
  · cases e
    rw [vw_int hx, vw_int hy]
    exact .of op_lt ⟨_, _, rfl, rfl, h⟩
  · cases e
    rw [vw_int hx, vw_int hy]
    exact .of op_le ⟨_, _, rfl, rfl, h⟩
  · cases e
    rw [vw_int hx, vw_int hy]
    exact .of op_gt ⟨_, _, rfl, rfl, h⟩
  · cases e
    rw [vw_int hx, vw_int hy]
    exact .of op_ge ⟨_, _, rfl, rfl, h⟩
  · cases e
    rw [vw_non hy]
    refine .of op_isN ⟨rfl, ?_⟩
    rw [vw_is_non hx]
    exact h
  · cases e
    rw [vw_non hy]
    refine .of op_notN ⟨rfl, ?_⟩
    rw [vw_is_non hx]
    exact h
  · exact (opMem hK hr e hx hy).1 h
  · cases q : memD x y with
    | none => rw [q] at e; cases e
    | some c =>
      rw [q] at e
      cases e
      exact (opMem hK hr q hx hy).2 h
  · cases e

/-! ### the composites, by the widest readings -/
theorem we_bin {a b : Expr} {o : Operator} {Q : VK} (h : WE X a σ H fun v H1 => WE X b σ H1 fun w H2 => OpW X (binaryOp o) v w H2 Q) : WE X (.BinOp a o b pos) σ H Q := .of (pe_op OpW.opr peW peW) h
theorem we_cmp {a b : Expr} {o : CmpOp} {Q : VK} (hb : behindInMarks o b = false) (h : WE X a σ H fun v H1 => WE X b σ H1 fun w H2 => OpW X (compareOp o) v w H2 Q) : WE X (.Compare a [o] [b] pos) σ H Q := .of (pe_cmpR OpW.opr peW peW hb) h
theorem marks_ok {o : CmpOp} {b : Expr} (h : isSetE b = false) : behindInMarks o b = false := by
  cases b <;> first | rfl | exact Bool.noConfusion h
theorem plain_ix {b : Expr} (h : isSliceE b = false) : PlainIx b := by
  cases b <;> first | exact Bool.noConfusion h | exact fun _ _ => rfl
theorem each_ok {e : Expr} {es : List Expr} {E : PySem.Env} (h : starred e = false) : starEach (e :: es) E = (false, eval e E) :: starEach es E := by
  cases e <;> first | rfl | exact Bool.noConfusion h
theorem star_ok (pos : Pos) {E : PySem.Env} : ∀ {es : List Expr}, es.all (fun e => !starred e) = true → (backTo pos (starEach es E)).any (·.1) = false
  | [], _ => rfl
  | e :: es, h => by
    rw [List.all_cons, Bool.and_eq_true] at h
    have h1 : starred e = false := by simpa using h.1
    rw [each_ok h1]
    have ih := star_ok pos (E := E) h.2
    unfold backTo at ih ⊢
    rw [List.map_cons, List.any_cons, ih]
    rfl

theorem tr_var (G : Good C P X Ew Γ k) {x : Str} {i : Nat} {m : M} (hi : slotOf C x = some i) (hd : (x == ("__debug__" : Str)) = false) (hcd : (x == ("__classdict__" : Str)) = false) (hm : T[i]? = some m) :
    TrE C P X Ew Γ T (.Name x pos) (.var i) (match m with | .sh => .sh | .top => .bor i) T := by
  intro A env σ H Z Q s ne ok ex
  have hs : C.N[i]? = some x ∧ Vis C.sc x := by
    unfold slotOf at hi
    have hN : ∀ {j}, slotOf.idx x C.N = some j → C.N[j]? = some x := fun {j} q => by
      unfold slotOf.idx at q
      simp only at q
      split at q
      · cases q; assumption
      · cases q
    split at hi
    · exact ⟨hN hi, .inl (by assumption)⟩
    · exact ⟨hN hi, .inr (.inl (by assumption))⟩
    · exact ⟨hN hi, .inr (.inr (by assumption))⟩
    · cases hi
  obtain ⟨d, hd'⟩ := of_ne (show Out.of (slotD env i) env ≠ .err from ne)
  have he : env[i]? = some (some d) := by
    unfold slotD at hd'
    split at hd'
    · cases hd'; assumption
    · cases hd'
  obtain ⟨v, hv, q⟩ := s.val i m d hm he
  refine .of (pe_var (X := X) (i := i) (by rw [G.N]; exact hs.1) (by rw [G.sc]; exact hs.2) hd hcd) ⟨v, hv, ?_⟩
  have ev : evE Γ (.var i) env = .ok d env := by
    show Out.of (slotD env i) env = _
    rw [hd'] <;> rfl
  refine ok.fin0 ev s (fun _ z => z) Stp.refl (fun j hj => absurd hj (by simp)) ?_
  cases m with
  | sh => exact ⟨rfl, q.sh_rep.2⟩
  | top => exact ⟨rfl, he, hv⟩
theorem glob_gl (G : Good C P X Ew Γ k) {x : Str} (h : isGlob C x = true) : Gl X x ∧ (x == ("__debug__" : Str)) = false := by
  simp only [isGlob, Bool.and_eq_true, decide_eq_true_eq, Bool.not_eq_true'] at h
  exact ⟨by show X.env.scope.names.lookup x = _; rw [G.sc]; exact h.1.1, h.1.2⟩
theorem tr_con (G : Good C P X Ew Γ k) {x : Str} {d : D} (hx : globOf C x = some (.con d)) : TrE C P X Ew Γ T (.Name x pos) (.con d) .sh T := by
  intro A env σ H Z Q s ne ok ex
  unfold globOf at hx
  split at hx
  · rename_i hg
    obtain ⟨g1, g2⟩ := glob_gl G hg
    obtain ⟨u, v, hm, r, hr⟩ := G.con x d hx
    refine .of (pe_glob g1 hm r g2) ?_
    exact ok.fin0 (z := d) rfl s (fun _ z => z) Stp.refl (fun j hj => absurd hj (by simp)) ⟨rfl, Rep.frame (fun a o e => by cases e) (fun a e => absurd rfl e) _ _ hr⟩
  · cases hx
theorem tr_sc {e : Expr} {d : D} (hd : d.scal = true) (h : PE X e (tC (scV d))) : TrE C P X Ew Γ T e (.con d) .imm T := by
  intro A env σ H Z Q s ne ok ex
  refine .of h ?_
  exact ok.fin0 (z := d) rfl s (fun _ z => z) Stp.refl (fun j hj => absurd hj (by simp)) (rv_scal hd (fun i => by simp))

theorem tr_bin (G : Good C P X Ew Γ k) {a b : Expr} {a' b' : E} {ra rb : R} {o : Op} (ha : TrE C P X Ew Γ T a a' ra T1) (hb : TrE C P X Ew Γ T1 b b' rb T2) (hn : okNext ra b' = true) :
    TrE C P X Ew Γ T (.BinOp a (opO o) b pos) (.bin o a' b') (opR o) T2 := by
  intro A env σ H Z Q s ne ok ex
  refine we_bin (two ha hb hn s (g := fun x y env2 => .of (binD o x y) env2) ne ex (fun j hj => hj) fun x y env1 env2 v1 v2 H2 A2 Z2 e1 e2 eg hz s2 t2 w1 w2 => ?_)
  have ne' := ne
  rw [show evE Γ (.bin o a' b') env = _ from eg] at ne'
  obtain ⟨z, hzv⟩ := of_ne ne'
  refine opD G.K s2 hzv w1 w2 fun v H3 F hk hF hc rv => ?_
  exact ok.fin (by rw [show evE Γ (.bin o a' b') env = _ from eg, hzv]; rfl) s2 hz t2 (fun j hj => hj) hk hF hc rv
theorem tr_cmp (G : Good C P X Ew Γ k) {a b : Expr} {a' b' : E} {ra rb : R} {o : Cp} (ha : TrE C P X Ew Γ T a a' ra T1) (hb : TrE C P X Ew Γ T1 b b' rb T2) (hn : okNext ra b' = true) (hs : isSetE b = false) :
    TrE C P X Ew Γ T (.Compare a [cpO o] [b] pos) (.cmp o a' b') .imm T2 := by
  intro A env σ H Z Q s ne ok ex
  refine we_cmp (marks_ok hs) (two ha hb hn s (g := fun x y env2 => .of (blD (cmpD o x y)) env2) ne ex (fun j hj => hj) fun x y env1 env2 v1 v2 H2 A2 Z2 e1 e2 eg hz s2 t2 w1 w2 => ?_)
  have ne' := ne
  rw [show evE Γ (.cmp o a' b') env = _ from eg] at ne'
  cases hc : cmpD o x y with
  | none => rw [hc] at ne'; exact absurd rfl ne'
  | some c =>
    refine opC G.K G.room hc w1 w2 ?_
    exact ok.fin0 (z := .bl c) (by rw [show evE Γ (.cmp o a' b') env = _ from eg, hc]; rfl) s2 hz t2 (fun j hj => hj) (rv_scal (d := .bl c) rfl (fun i => by simp))
theorem tr_neg {a : Expr} {a' : E} {ra : R} (ha : TrE C P X Ew Γ T a a' ra T1) : TrE C P X Ew Γ T (.UnaryOp .USub a pos) (.neg a') .imm T1 := by
  intro A env σ H Z Q s ne ok ex
  refine .of (pe_un un_neg peW) ?_
  refine one ha s (g := fun x env1 => .of (negD x) env1) ne ex (fun j hj => hj) fun x env1 v1 H1 A1 F1 e1 eg f1 s1 t1 r1 => ?_
  have ne' := ne
  rw [show evE Γ (.neg a') env = _ from eg] at ne'
  have w := r1.view s1
  cases x with
  | int i =>
    refine ⟨i, vw_int w, ?_⟩
    exact ok.fin0 (z := .int (-i)) eg s1 (fun _ z => .inl z) t1 (fun j hj => hj) (rv_scal (d := .int (-i)) rfl (fun i => by simp))
  | _ => exact absurd rfl ne'
theorem tr_not {a : Expr} {a' : E} {ra : R} (ha : TrE C P X Ew Γ T a a' ra T1) : TrE C P X Ew Γ T (.UnaryOp .Not a pos) (.not a') .imm T1 := by
  intro A env σ H Z Q s ne ok ex
  refine .of (pe_not peW) ?_
  refine one ha s (g := fun x env1 => .of (notD x) env1) ne ex (fun j hj => hj) fun x env1 v1 H1 A1 F1 e1 eg f1 s1 t1 r1 => ?_
  have ne' := ne
  rw [show evE Γ (.not a') env = _ from eg] at ne'
  have w := r1.view s1
  cases x with
  | bl b =>
    refine ⟨b, vw_bl w, ?_⟩
    exact ok.fin0 (z := .bl (!b)) eg s1 (fun _ z => .inl z) t1 (fun j hj => hj) (rv_scal (d := .bl (!b)) rfl (fun i => by simp))
  | _ => exact absurd rfl ne'
end
end Fc
end

section
/-! Soundness, 3: the other expressions, arguments, tests. -/
namespace Fc
open PySem L2 PySem.Spec
open PyProof.Rows hiding St
section
variable {C : Ctx} {P : GP} {X : Cx} {Ew : L2.St → XK} {Γ : Gam} {k : Nat}
variable {T T' T1 T2 T3 : List M} {A A1 A2 A' : Ft} {env env1 env2 env' : Env} {σ : L2.St} {H H1 H2 H3 H' : Hp} {Z Z1 Z2 Z' : AS} {mu mu1 mu2 : List Nat} {pos : Pos}

/-! ### weaker slots -/
theorem le_get : ∀ {T1 T2 : List M}, leT T1 T2 = true → T1.length = T2.length ∧ ∀ (i : Nat) (m : M), T1[i]? = some m → ∃ m', T2[i]? = some m' ∧ M.le m m' = true
  | [], [], _ => ⟨rfl, fun i m e => by simp at e⟩
  | a :: as, b :: bs, h => by
    have h' := Bool.and_eq_true_iff.mp (show (a.le b && leT as bs) = true from h)
    obtain ⟨h1, h2⟩ := le_get h'.2
    refine ⟨by simp [h1], fun i m e => ?_⟩
    cases i with
    | zero =>
      have e' : a = m := by simpa using e
      subst e'
      exact ⟨b, rfl, h'.1⟩
    | succ i =>
      obtain ⟨m', e1, e2⟩ := h2 i m (by simpa using e)
      exact ⟨m', by simpa using e1, e2⟩
/-- only the slots that T still calls their own -/
def keepF (T : List M) (A : Ft) : Ft := fun j => if T[j]? = some .top then A j else []
theorem keepF_sub {T : List M} {j : Nat} {a : Addr} (h : a ∈ keepF T A j) : a ∈ A j ∧ T[j]? = some .top := by
  unfold keepF at h
  split at h
  · exact ⟨h, by assumption⟩
  · exact absurd h (by simp)
theorem W_keepF {T : List M} {a : Addr} (h : W Z (keepF T A) a) : W Z A a := h.imp id fun ⟨j, q⟩ => ⟨j, (keepF_sub q).1⟩
theorem SR.weak (s : SR P T A env σ H Z) (h : leT T' T = true) : SR P T' (keepF T' A) env σ H Z where
  ls := s.ls
  lt := (le_get h).1.trans s.lt
  val := fun i m d h1 h2 => by
    obtain ⟨m', e1, e2⟩ := (le_get h).2 i m h1
    obtain ⟨v, e3, q⟩ := s.val i m' d e1 h2
    refine ⟨v, e3, ?_⟩
    cases m with
    | top =>
      have em : m' = .top := by cases m' <;> first | rfl | exact Bool.noConfusion e2
      subst em
      unfold keepF
      rw [if_pos h1]
      exact q.frame (fun _ _ e _ => e) fun a _ n z => n (W_keepF (T := T') z)
    | sh =>
      unfold keepF
      rw [if_neg (by rw [h1]; exact fun z => nomatch z)]
      refine Own.sh (q.free (fun a z => W_keepF (T := T') z) fun a ha z => ?_)
      rcases z with z | ⟨j, z⟩
      · exact s.zA i a ha z
      · obtain ⟨z1, z2⟩ := keepF_sub z
        refine s.dj i j a (fun e => ?_) ha z1
        subst e
        rw [h1] at z2
        cases z2
  emp := fun i h1 => by
    unfold keepF
    split
    · exact s.emp i h1
    · rfl
  dj := fun i j a ne h1 h2 => s.dj i j a ne (keepF_sub h1).1 (keepF_sub h2).1
  zA := fun i a h => s.zA i a (keepF_sub h).1
  zc := s.zc
theorem Stp.weak {T' : List M} : Stp [] A H env (keepF T' A) H env := ⟨fun _ _ e _ => e, fun _ e => e, fun _ _ => rfl, fun _ _ h => .inl (keepF_sub h).1, rfl⟩
theorem meet_l : ∀ {T1 T2 : List M}, T1.length = T2.length → leT (meetT T1 T2) T1 = true ∧ leT (meetT T1 T2) T2 = true
  | [], [], _ => ⟨rfl, rfl⟩
  | a :: as, b :: bs, h => by
    obtain ⟨h1, h2⟩ := meet_l (T1 := as) (T2 := bs) (by simpa using h)
    refine ⟨Bool.and_eq_true_iff.mpr ⟨?_, h1⟩, Bool.and_eq_true_iff.mpr ⟨?_, h2⟩⟩ <;> (cases a <;> cases b <;> rfl)
/-- a result, behind fewer own slots: with it, what rs speak of is known -/
theorem SR.drop {F : List Addr} (s : SR P T A env σ H (Zf Z F)) : SR P T A env σ H Z := s.less fun _ z => .inl z

/-! ### arguments -/
theorem tr_nil : TrA C P X Ew Γ T [] [] [] T := by
  intro A env σ H Z Q s ne ok ex
  refine .of pa_nil ?_
  exact ok [] env rfl [] H A [] none1 (s.less fun a z => z.elim id fun q => absurd q (by simp)) Stp.refl True.intro
theorem RVs.step {F G : List Addr} (t : Stp mu A1 H1 env1 A2 H2 env2) (hF : ∀ a ∈ F, ∀ j, a ∉ A1 j) (hG : ∀ a ∈ G, H1 a = none) : ∀ {rs : List R} {ds : List D} {vs : List V}, (∀ r ∈ rs, r.noBor mu = true) →
    RVs P F A1 env1 σ H1 Z rs ds vs → RVs P F A2 env2 σ H2 (Zf Z G) rs ds vs
  | [], [], [], _, _ => True.intro
  | r :: rs, d :: ds, v :: vs, hr, h => by
    obtain ⟨⟨G', h1, h2⟩, h3⟩ := h
    exact ⟨⟨G', h1, h2.step t (hr r (by simp)) (fun a ha => hF a (h1 a ha)) hG⟩, RVs.step t hF hG (fun q hq => hr q (by simp [hq])) h3⟩
  | [], _ :: _, _, _, h => h.elim
  | [], [], _ :: _, _, h => h.elim
  | _ :: _, [], _, _, h => h.elim
  | _ :: _, _ :: _, [], _, h => h.elim
theorem RVs.wide {F G : List Addr} (hF : ∀ a ∈ F, a ∈ G) : ∀ {rs : List R} {ds : List D} {vs : List V}, RVs P F A env σ H Z rs ds vs → RVs P G A env σ H Z rs ds vs
  | [], [], [], _ => True.intro
  | r :: rs, d :: ds, v :: vs, h => by
    obtain ⟨⟨G', h1, h2⟩, h3⟩ := h
    exact ⟨⟨G', fun a ha => hF a (h1 a ha), h2⟩, RVs.wide hF h3⟩
  | [], _ :: _, _, h => h.elim
  | [], [], _ :: _, h => h.elim
  | _ :: _, [], _, h => h.elim
  | _ :: _, _ :: _, [], h => h.elim
theorem RVs.less {F : List Addr} (hz : ∀ a, Z' a → Z a) : ∀ {rs : List R} {ds : List D} {vs : List V}, RVs P F A env σ H Z rs ds vs → RVs P F A env σ H Z' rs ds vs
  | [], [], [], _ => True.intro
  | r :: rs, d :: ds, v :: vs, h => by
    obtain ⟨⟨G', h1, h2⟩, h3⟩ := h
    exact ⟨⟨G', h1, h2.less hz⟩, RVs.less hz h3⟩
  | [], _ :: _, _, h => h.elim
  | [], [], _ :: _, h => h.elim
  | _ :: _, [], _, h => h.elim
  | _ :: _, _ :: _, [], h => h.elim
theorem tr_cons {e : Expr} {es : List Expr} {c : E} {cs : List E} {r : R} {rs : List R} (ha : TrE C P X Ew Γ T e c r T1) (hb : TrA C P X Ew Γ T1 es cs rs T2) (hn : okNexts r cs = true) (hs : starred e = false) :
    TrA C P X Ew Γ T (e :: es) (c :: cs) (r :: rs) T2 := by
  intro A env σ H Z Q s ne ok ex
  refine .of (pa_cons peW paW (each_ok hs)) ?_
  have ne : ((evE Γ c env).bind fun x env1 => (evEs Γ cs env1).bind fun xs env2 => .ok (x :: xs) env2) ≠ .err := ne
  have ok : OkA P ((evE Γ c env).bind fun x env1 => (evEs Γ cs env1).bind fun xs env2 => .ok (x :: xs) env2) (muE c ++ muEs cs) T2 (r :: rs) A env σ H Z Q := ok
  have ex : ExE C P Ew ((evE Γ c env).bind fun x env1 => (evEs Γ cs env1).bind fun xs env2 => .ok (x :: xs) env2) (muE c ++ muEs cs) A env σ H Z := ex
  refine ha A env σ H Z _ s (bind_ne ne) (fun x env1 e1 v1 H1 A1 F1 f1 s1 t1 r1 => ?_) (ex.sub (mu1 := []) Stp.refl (fun x e' e => bind_exn e) (fun j hj => by simp at hj ⊢; exact .inl hj) fun _ z => z)
  rw [bind_ok e1] at ne
  refine hb A1 env1 σ H1 (Zf Z F1) _ s1 (bind_ne ne) (fun xs env2 e2 vs H2 A2 F2 f2 s2 t2 r2 => ?_) (ex.sub t1 (fun x e' e => by rw [bind_ok e1]; exact bind_exn e) (fun j hj => hj) fun _ z => .inl z)
  have r1' := r1.step (G := F2) t2 hn (fun a ha j q => s1.zA j a q (.inr ha)) f2
  have zz : ∀ a, Zf Z (F1 ++ F2) a → Zf (Zf Z F1) F2 a := fun a z => by
    rcases z with z | z
    · exact .inl (.inl z)
    · rcases List.mem_append.mp z with z | z
      · exact .inl (.inr z)
      · exact .inr z
  refine ok (x :: xs) env2 (by rw [bind_ok e1, bind_ok e2]) (v1 :: vs) H2 A2 (F1 ++ F2) (fun a ha => ?_) (s2.less zz) (t1.trans t2) ⟨⟨F1, fun a ha => List.mem_append_left _ ha, r1'.less zz⟩, (r2.wide fun a ha => List.mem_append_right _ ha).less zz⟩
  rcases List.mem_append.mp ha with q | q
  · exact f1 a q
  · cases e : H a with
    | none => rfl
    | some u => exact absurd (f2 a q) (t1.thr a (by rw [e]; exact fun z => nomatch z))
/-- the arguments, then g -/
theorem args {es : List Expr} {cs : List E} {rs : List R} {β : Type} (ha : TrA C P X Ew Γ T es cs rs T1) (s : SR P T A env σ H Z) {g : List D → Env → Out β} (ne : ((evEs Γ cs env).bind g) ≠ .err)
    (ex : ExE C P Ew ((evEs Γ cs env).bind g) mu A env σ H Z) (hm : ∀ j, j ∈ muEs cs → j ∈ mu) {Kk : List V → Hp → Prop}
    (h : ∀ xs env1 vs H1 A1 F1, evEs Γ cs env = .ok xs env1 → ((evEs Γ cs env).bind g) = g xs env1 → (∀ a ∈ F1, H a = none) → SR P T1 A1 env1 σ H1 (Zf Z F1) → Stp (muEs cs) A H env A1 H1 env1 →
      RVs P F1 A1 env1 σ H1 (Zf Z F1) rs xs vs → Kk vs H1) : WA X es σ H Kk := by
  refine ha A env σ H Z _ s (bind_ne ne) (fun x env1 e1 v1 H1 A1 F1 f1 s1 t1 r1 => ?_) (ex.sub (mu1 := []) (Stp.refl) (fun x e' e => bind_exn e) (fun j hj => hm j (by simpa using hj)) fun _ z => z)
  exact h x env1 v1 H1 A1 F1 e1 (bind_ok e1) f1 s1 t1 r1
/-- all of them known from now on -/
theorem freed {rs : List R} {xs : List D} {vs : List V} {F : List Addr} (s : SR P T A env σ H (Zf Z F)) (hF : ∀ a ∈ F, ¬ Z a) (h : RVs P F A env σ H (Zf Z F) rs xs vs) : SR P (frz T rs) (thawL A rs) env σ H Z ∧ Reps P H (W Z (thawL A rs)) xs vs :=
  ⟨(SR.thawL s).drop, RVs.free s (fun a z => .inl z) hF (fun a ha => .inr ha) h fun r hr => hr⟩
theorem fresh_notZ {F : List Addr} (s : SR P T A env σ H Z) (hF : ∀ a ∈ F, H a = none) : ∀ a ∈ F, ¬ Z a := fun a ha => s.freshZ (hF a ha)

theorem tr_tup {es : List Expr} {cs : List E} {rs : List R} {n : Nat} (ha : TrA C P X Ew Γ T es cs rs T1) : TrE C P X Ew Γ T (.Tuple es n pos) (.tup cs) .sh (frz T1 rs) := by
  intro A env σ H Z Q s ne ok ex
  refine .of (pe_tup paW) ?_
  refine args ha s (g := lenK D.tup) ne ex (fun j hj => hj) fun xs env1 vs H1 A1 F1 e1 eg f1 s1 t1 r1 => ?_
  obtain ⟨s2, r2⟩ := freed s1 (fresh_notZ s f1) r1
  have hl : lenOk xs.length = true := by
    have ne' := ne
    rw [show evE Γ (.tup cs) env = _ from eg] at ne'
    unfold lenK at ne'
    split at ne'
    · assumption
    · exact absurd rfl ne'
  have ev : evE Γ (.tup cs) env = .ok (.tup xs) env1 := by
    rw [show evE Γ (.tup cs) env = _ from eg]
    unfold lenK
    rw [if_pos hl]
  have hl' : xs.length ≤ sizeLine := of_decide_eq_true hl
  rw [r2.length] at hl'
  refine ⟨hl', fun p hp => ?_⟩
  refine ok.fin (F := []) (Z2 := Z) ev s2 (fun _ z => z) (t1.trans Stp.thawL) (fun j hj => by simpa [muE] using hj) (grow_upd hp) none1 none1 ⟨rfl, ?_⟩
  exact Rep.less (fun a z => z.imp (fun q => q.elim id fun x => absurd x (by simp)) id) (rep_newT s2 hp r2)
theorem tr_lst {es : List Expr} {cs : List E} {rs : List R} (ha : TrA C P X Ew Γ T es cs rs T1) : TrE C P X Ew Γ T (.List es pos) (.lst cs) .top (frz T1 rs) := by
  intro A env σ H Z Q s ne ok ex
  refine .of (pe_lst paW) ?_
  refine args ha s (g := lenK D.lst) ne ex (fun j hj => hj) fun xs env1 vs H1 A1 F1 e1 eg f1 s1 t1 r1 => ?_
  obtain ⟨s2, r2⟩ := freed s1 (fresh_notZ s f1) r1
  have hl : lenOk xs.length = true := by
    have ne' := ne
    rw [show evE Γ (.lst cs) env = _ from eg] at ne'
    unfold lenK at ne'
    split at ne'
    · assumption
    · exact absurd rfl ne'
  have ev : evE Γ (.lst cs) env = .ok (.lst xs) env1 := by
    rw [show evE Γ (.lst cs) env = _ from eg]
    unfold lenK
    rw [if_pos hl]
  have hl' : xs.length ≤ sizeLine := of_decide_eq_true hl
  rw [r2.length] at hl'
  refine ⟨hl', fun p hp => ?_⟩
  exact ok.fin (F := [p]) (Z2 := Z) ev s2 (fun _ z => z) (t1.trans Stp.thawL) (fun j hj => by simpa [muE] using hj) (grow_upd hp) (fresh1 hp) cell_new (rv_new s2 hp r2)

/-! ### subscripts -/
theorem atI_map {α β : Type} {xs : List α} {i : Int} {x : α} (h : atI xs i = some x) : ∃ (j : Nat), xs[j]? = some x ∧ ∀ {ys : List β}, ys.length = xs.length → atI ys i = ys[j]? := by
  obtain ⟨j, h1, h2, h3, h4, h5⟩ := atI_get h
  refine ⟨j, h2, fun {ys} hl => ?_⟩
  unfold atI at h ⊢
  rw [hl]
  cases q : ixN xs.length i with
  | none => rw [q] at h; cases h
  | some k =>
    rw [q] at h
    have e : k = j := by
      obtain ⟨g1, _⟩ := ixN_seq q
      rw [h1] at g1
      exact (Option.some.inj g1).symm
    subst e
    rfl
theorem tr_idx (G : Good C P X Ew Γ k) {a b : Expr} {a' b' : E} {ra rb : R} (ha : TrE C P X Ew Γ T a a' ra T1) (hb : TrE C P X Ew Γ T1 b b' rb T2) (hn : okNext ra b' = true) (hs : isSliceE b = false) :
    TrE C P X Ew Γ T (.Subscript a b pos) (.idx a' b') .sh T2 := by
  intro A env σ H Z Q s ne ok ex
  refine .of (pe_ix ix_seq peW peW (plain_ix hs)) ?_
  refine two ha hb hn s (g := fun x y env2 => .of (idxD x y) env2) ne ex (fun j hj => hj) fun x y env1 env2 v1 v2 H2 A2 Z2 e1 e2 eg hz s2 t2 w1 w2 => ?_
  have ne' := ne
  rw [show evE Γ (.idx a' b') env = _ from eg] at ne'
  obtain ⟨z, hzv⟩ := of_ne ne'
  have ev : evE Γ (.idx a' b') env = .ok z env2 := by
    rw [show evE Γ (.idx a' b') env = _ from eg, hzv] <;> rfl
  have fin : ∀ {v : V}, Rep P H2 (W Z2 A2) z v → Q v H2 := fun {v} hv => ok.fin0 ev s2 hz t2 (fun j hj => hj) ⟨rfl, hv⟩
  unfold idxD at hzv
  split at hzv
  · obtain ⟨p, vs, rfl, q1, q2⟩ := vw_lst w1
    obtain ⟨j, h1, h2⟩ := atI_map (β := V) hzv
    obtain ⟨v, h3, h4⟩ := q2.get h1
    exact .inl ⟨p, vs, _, v, rfl, vw_int w2, by rw [G.K]; exact q1, by rw [h2 q2.length.symm]; exact h3, fin h4⟩
  · obtain ⟨p, vs, rfl, q1, q2⟩ := vw_tup w1
    obtain ⟨j, h1, h2⟩ := atI_map (β := V) hzv
    obtain ⟨v, h3, h4⟩ := q2.get h1
    exact .inr (.inl ⟨p, vs, _, v, rfl, vw_int w2, by rw [G.K]; exact q1, by rw [h2 q2.length.symm]; exact h3, fin h4⟩)
  · split at hzv
    · rename_i hl
      obtain ⟨c, hc, rfl⟩ := Option.map_eq_some_iff.mp hzv
      exact .inr (.inr ⟨_, _, c, vw_str w1, vw_int w2, of_decide_eq_true hl, hc, fin rfl⟩)
    · cases hzv
  · cases hzv

/-! ### and, or, if -/
theorem tr_and {a : Expr} {b : Expr} {rest : List Expr} {a' b' : E} {ra : R} {pos' : Pos} (ha : TrE C P X Ew Γ T a a' ra T1) (hb : TrE C P X Ew Γ T1 (.BoolOp .And (b :: rest) pos) b' .sh T2) (hle : leT T2 T1 = true) :
    TrE C P X Ew Γ T (.BoolOp .And (a :: b :: rest) pos) (.and a' b') .sh T2 := by
  intro A env σ H Z Q s ne ok ex
  refine .of (pe_and peW peW) ?_
  have ne : ((evE Γ a' env).bind fun x env1 => andK x env1 (evE Γ b')) ≠ .err := ne
  have ok : OkE P ((evE Γ a' env).bind fun x env1 => andK x env1 (evE Γ b')) (muE a' ++ muE b') T2 .sh A env σ H Z Q := ok
  have ex : ExE C P Ew ((evE Γ a' env).bind fun x env1 => andK x env1 (evE Γ b')) (muE a' ++ muE b') A env σ H Z := ex
  refine one ha s (g := fun x env1 => andK x env1 (evE Γ b')) ne ex (fun j hj => List.mem_append_left _ hj) fun x env1 v1 H1 A1 F1 e1 eg f1 s1 t1 r1 => ?_
  have w := r1.view s1
  rw [eg] at ne ok ex
  cases x with
  | bl t =>
    refine ⟨t, vw_bl w, ?_⟩
    cases t with
    | true =>
      refine hb A1 env1 σ H1 Z Q s1.drop ne (fun d env' e v H' A' F f s' t' r' => ?_) (fun x e' e cls dd H' A' s' t' r => ex x e' e cls dd H' A' s' (t1.trans t') r)
      refine ok d env' e v H' A' F (fun a ha => ?_) s' (t1.trans t') r'
      cases q : H a with
      | none => rfl
      | some u => exact absurd (f a ha) (t1.thr a (by rw [q]; exact fun z => nomatch z))
    | false =>
      have s2 := s1.drop.weak hle
      exact ok.fin0 (z := .bl false) rfl s2 (fun _ z => z) (t1.trans Stp.weak) (fun j hj => by simp at hj ⊢; exact .inl hj) (rv_scal (d := .bl false) rfl (fun i => by simp))
  | _ => exact absurd rfl ne
theorem tr_or {a : Expr} {b : Expr} {rest : List Expr} {a' b' : E} {ra : R} {pos' : Pos} (ha : TrE C P X Ew Γ T a a' ra T1) (hb : TrE C P X Ew Γ T1 (.BoolOp .Or (b :: rest) pos) b' .sh T2) (hle : leT T2 T1 = true) :
    TrE C P X Ew Γ T (.BoolOp .Or (a :: b :: rest) pos) (.or a' b') .sh T2 := by
  intro A env σ H Z Q s ne ok ex
  refine .of (pe_or peW peW) ?_
  have ne : ((evE Γ a' env).bind fun x env1 => orK x env1 (evE Γ b')) ≠ .err := ne
  have ok : OkE P ((evE Γ a' env).bind fun x env1 => orK x env1 (evE Γ b')) (muE a' ++ muE b') T2 .sh A env σ H Z Q := ok
  have ex : ExE C P Ew ((evE Γ a' env).bind fun x env1 => orK x env1 (evE Γ b')) (muE a' ++ muE b') A env σ H Z := ex
  refine one ha s (g := fun x env1 => orK x env1 (evE Γ b')) ne ex (fun j hj => List.mem_append_left _ hj) fun x env1 v1 H1 A1 F1 e1 eg f1 s1 t1 r1 => ?_
  have w := r1.view s1
  rw [eg] at ne ok ex
  cases x with
  | bl t =>
    refine ⟨t, vw_bl w, ?_⟩
    cases t with
    | false =>
      refine hb A1 env1 σ H1 Z Q s1.drop ne (fun d env' e v H' A' F f s' t' r' => ?_) (fun x e' e cls dd H' A' s' t' r => ex x e' e cls dd H' A' s' (t1.trans t') r)
      refine ok d env' e v H' A' F (fun a ha => ?_) s' (t1.trans t') r'
      cases q : H a with
      | none => rfl
      | some u => exact absurd (f a ha) (t1.thr a (by rw [q]; exact fun z => nomatch z))
    | true =>
      have s2 := s1.drop.weak hle
      exact ok.fin0 (z := .bl true) rfl s2 (fun _ z => z) (t1.trans Stp.weak) (fun j hj => by simp at hj ⊢; exact .inl hj) (rv_scal (d := .bl true) rfl (fun i => by simp))
  | _ => exact absurd rfl ne
/-- a value that all may know -/
theorem TrE.sh {e : Expr} {c : E} {r : R} (h : TrE C P X Ew Γ T e c r T1) : TrE C P X Ew Γ T e c .sh (frz T1 [r]) := by
  intro A env σ H Z Q s ne ok ex
  refine h A env σ H Z Q s ne (fun d env' e v H' A' F f s' t' r' => ?_) ex
  have s2 : SR P (frz T1 [r]) (thawL A' [r]) env' σ H' Z := (SR.thawL s').drop
  have rep : Rep P H' (W Z (thawL A' [r])) d v := r'.free s' (by simp) (fun a z => .inl z) (fresh_notZ s f) (fun a ha => .inr ha)
  exact ok.fin0 (Z2 := Z) e s2 (fun _ z => z) (t'.trans Stp.thawL) (fun j hj => by simpa using hj) ⟨rfl, rep⟩
theorem tr_last {o : PySem.BoolOp} {a : Expr} {a' : E} {ra : R} (ha : TrE C P X Ew Γ T a a' ra T1) : TrE C P X Ew Γ T (.BoolOp o [a] pos) a' .sh (frz T1 [ra]) := by
  intro A env σ H Z Q s ne ok ex
  exact .of (pe_one peW) (TrE.sh ha A env σ H Z Q s ne ok ex)
theorem fresh_back' {F : List Addr} (t1 : Stp mu A H env A1 H1 env1) (f : ∀ a ∈ F, H1 a = none) : ∀ a ∈ F, H a = none := fun a ha => by
  cases q : H a with
  | none => rfl
  | some u => exact absurd (f a ha) (t1.thr a (by rw [q]; exact fun z => nomatch z))
theorem tr_ife {c a b : Expr} {c' : Fc.T} {a' b' : E} {ra rb : R} {Ta Tb : List M} (hc : TrT C P X Ew Γ T c c' T1) (ha : TrE C P X Ew Γ T1 a a' ra Ta) (hb : TrE C P X Ew Γ T1 b b' rb Tb) (hl : (frz Ta [ra]).length = (frz Tb [rb]).length) :
    TrE C P X Ew Γ T (.IfExp c a b pos) (.ife c' a' b') .sh (meetT (frz Ta [ra]) (frz Tb [rb])) := by
  intro A env σ H Z Q s ne ok ex
  refine .of (pe_ifExp ptW peW peW) ?_
  have ne : ((evT Γ c' env).bind fun t env1 => iteK t env1 (evE Γ a') (evE Γ b')) ≠ .err := ne
  have ok : OkE P ((evT Γ c' env).bind fun t env1 => iteK t env1 (evE Γ a') (evE Γ b')) (muT c' ++ (muE a' ++ muE b')) (meetT (frz Ta [ra]) (frz Tb [rb])) .sh A env σ H Z Q := ok
  have ex : ExE C P Ew ((evT Γ c' env).bind fun t env1 => iteK t env1 (evE Γ a') (evE Γ b')) (muT c' ++ (muE a' ++ muE b')) A env σ H Z := ex
  refine hc A env σ H Z _ s (bind_ne ne) (fun t env1 e1 H1 A1 s1 t1 => ?_) (ex.sub (mu1 := []) Stp.refl (fun x e' e => bind_exn e) (fun j hj => by simp at hj ⊢; exact .inl hj) fun _ z => z)
  rw [bind_ok e1] at ne ok ex
  obtain ⟨m1, m2⟩ := meet_l hl
  cases t with
  | true =>
    refine TrE.sh ha A1 env1 σ H1 Z Q s1 ne (fun d env' e v H' A' F f s' t' r' => ?_) (fun x e' e cls dd H' A' s' t' r => ex x e' e cls dd H' A' s' ((t1.trans t').mono fun j hj => by simp at hj ⊢; rcases hj with h | h <;> simp [h]) r)
    exact ok.fin0 (Z2 := Z) e (s'.drop.weak m1) (fun _ z => z) ((t1.trans t').trans Stp.weak) (fun j hj => by simp at hj ⊢; rcases hj with h | h <;> simp [h]) ⟨rfl, Rep.less (fun a z => (W_keepF z).imp .inl id) r'.2⟩
  | false =>
    refine TrE.sh hb A1 env1 σ H1 Z Q s1 ne (fun d env' e v H' A' F f s' t' r' => ?_) (fun x e' e cls dd H' A' s' t' r => ex x e' e cls dd H' A' s' ((t1.trans t').mono fun j hj => by simp at hj ⊢; rcases hj with h | h <;> simp [h]) r)
    exact ok.fin0 (Z2 := Z) e (s'.drop.weak m2) (fun _ z => z) ((t1.trans t').trans Stp.weak) (fun j hj => by simp at hj ⊢; rcases hj with h | h <;> simp [h]) ⟨rfl, Rep.less (fun a z => (W_keepF z).imp .inl id) r'.2⟩

/-! ### tests -/
theorem tests_plain {e : Expr} (h : (match e with | .UnaryOp .Not _ _ => true | .BoolOp .. => true | .IfExp .. => true | .Compare .. => true | _ => false) = false) (E : PySem.Env) :
    ∀ whole, isTrue e E whole = (do let v ← whole; standAt e.pos; holding [v] (truthy v)) := by
  intro whole
  cases e <;> first
    | rfl
    | exact Bool.noConfusion h
    | (rename_i o _ _; cases o <;> first | rfl | exact Bool.noConfusion h)
theorem tru_v {d : D} {b : Bool} {v : V} (e : truD d = some b) (h : Vw P H Z d v) : TruV P.K v H b := by
  unfold truD at e
  split at e
  · cases e; rw [vw_non h]; rfl
  · cases e; rw [vw_bl h]; rfl
  · cases e; rw [vw_int h]; rfl
  · split at e
    · rename_i hl
      cases e
      rw [vw_str h]
      exact ⟨of_decide_eq_true hl, rfl⟩
    · cases e
  · cases e
    obtain ⟨p, vs, rfl, q1, q2⟩ := vw_tup h
    refine .inr (.inl ⟨vs, q1, ?_⟩)
    have hl := q2.length
    rename_i xs
    cases xs <;> cases vs <;> first | rfl | simp at hl
  · cases e
    obtain ⟨p, vs, rfl, q1, q2⟩ := vw_lst h
    refine .inl ⟨vs, q1, ?_⟩
    have hl := q2.length
    rename_i xs
    cases xs <;> cases vs <;> first | rfl | simp at hl
  · cases e
end
end Fc
end

section
/-! Soundness, 4: tests, chains, slices, built-ins, calls. -/
namespace Fc
open PySem L2 PySem.Spec
open PyProof.Rows hiding St
section
variable {C : Ctx} {P : GP} {X : Cx} {Ew : L2.St → XK} {Γ : Gam} {k : Nat}
variable {T T' T1 T2 T3 : List M} {A A1 A2 A' : Ft} {env env1 env2 env' : Env} {σ : L2.St} {H H1 H2 H3 H' : Hp} {Z Z1 Z2 Z' : AS} {mu mu1 mu2 : List Nat} {pos : Pos}

theorem plain_tests {e : Expr} (h : plainTest e = true) (E : PySem.Env) : ∀ whole, isTrue e E whole = (do let v ← whole; standAt e.pos; holding [v] (truthy v)) := by
  intro whole
  cases e with
  | UnaryOp o a p => cases o <;> first | rfl | exact Bool.noConfusion h
  | BoolOp => exact Bool.noConfusion h
  | IfExp => exact Bool.noConfusion h
  | Compare => exact Bool.noConfusion h
  | _ => rfl
theorem tt_val (G : Good C P X Ew Γ k) {e : Expr} {c : E} {r : R} (h : TrE C P X Ew Γ T e c r T1) (hp : plainTest e = true) : TrT C P X Ew Γ T e (.val c) T1 := by
  intro A env σ H Z Q s ne ok ex
  refine .of (pt_truth peW (plain_tests hp _)) ?_
  refine one h s (g := fun x env1 => .of (truD x) env1) ne ex (fun j hj => hj) fun x env1 v1 H1 A1 F1 e1 eg f1 s1 t1 r1 => ?_
  have ne' := ne
  rw [show evT Γ (.val c) env = _ from eg] at ne'
  obtain ⟨b, hb⟩ := of_ne ne'
  refine ⟨b, by rw [G.K]; exact tru_v hb (r1.view s1), ?_⟩
  exact ok b env1 (by rw [show evT Γ (.val c) env = _ from eg, hb]; rfl) H1 A1 s1.drop t1
theorem tt_cmp (G : Good C P X Ew Γ k) {a b : Expr} {a' b' : E} {ra rb : R} {o : Cp} (ha : TrE C P X Ew Γ T a a' ra T1) (hb : TrE C P X Ew Γ T1 b b' rb T2) (hn : okNext ra b' = true) (hs : isSetE b = false) :
    TrT C P X Ew Γ T (.Compare a [cpO o] [b] pos) (.val (.cmp o a' b')) T2 := by
  intro A env σ H Z Q s ne ok ex
  have ee : evT Γ (.val (.cmp o a' b')) env = (evE Γ a' env).bind fun x env1 => (evE Γ b' env1).bind fun y env2 => .of (cmpD o x y) env2 := by
    show ((evE Γ a' env).bind fun x env1 => (evE Γ b' env1).bind fun y env2 => .of (blD (cmpD o x y)) env2).bind (fun x env1 => .of (truD x) env1) = _
    cases evE Γ a' env with
    | ok x env1 =>
      show ((evE Γ b' env1).bind fun y env2 => .of (blD (cmpD o x y)) env2).bind (fun x env1 => .of (truD x) env1) = (evE Γ b' env1).bind fun y env2 => .of (cmpD o x y) env2
      cases evE Γ b' env1 with
      | ok y env2 =>
        show (Out.of (blD (cmpD o x y)) env2).bind (fun x env1 => .of (truD x) env1) = .of (cmpD o x y) env2
        cases cmpD o x y <;> rfl
      | exn _ _ => rfl
      | err => rfl
    | exn _ _ => rfl
    | err => rfl
  rw [ee] at ne ok ex
  refine .of (pt_cmpR OpW.opr peW peW (marks_ok hs)) ?_
  refine two ha hb hn s (g := fun x y env2 => .of (cmpD o x y) env2) ne ex (fun j hj => hj) fun x y env1 env2 v1 v2 H2 A2 Z2 e1 e2 eg hz s2 t2 w1 w2 => ?_
  have ne' := ne
  rw [eg] at ne'
  obtain ⟨c, hc⟩ := of_ne ne'
  refine opC G.K G.room hc w1 w2 ⟨c, rfl, ?_⟩
  exact ok c env2 (by rw [eg, hc]; rfl) H2 A2 (s2.less hz) t2
theorem tt_not {a : Expr} {a' : Fc.T} (ha : TrT C P X Ew Γ T a a' T1) : TrT C P X Ew Γ T (.UnaryOp .Not a pos) (.not a') T1 := by
  intro A env σ H Z Q s ne ok ex
  refine .of (pt_not ptW) ?_
  have ne : ((evT Γ a' env).bind fun x env1 => .ok (!x) env1) ≠ .err := ne
  have ok : OkB P ((evT Γ a' env).bind fun x env1 => .ok (!x) env1) (muT a') T1 A env σ H Z Q := ok
  have ex : ExE C P Ew ((evT Γ a' env).bind fun x env1 => .ok (!x) env1) (muT a') A env σ H Z := ex
  refine ha A env σ H Z _ s (bind_ne ne) (fun b env1 e1 H1 A1 s1 t1 => ?_) (fun x e' e => ex x e' (bind_exn e))
  exact ok (!b) env1 (bind_ok e1) H1 A1 s1 t1
/-- a test inside and, or -/
def TrW (C : Ctx) (P : GP) (X : Cx) (Ew : L2.St → XK) (Γ : Gam) (T : List M) (e : Expr) (c : Fc.T) (T' : List M) : Prop :=
  ∀ A env σ H Z (Q : Bool → Hp → Prop), SR P T A env σ H Z → evT Γ c env ≠ .err → OkB P (evT Γ c env) (muT c) T' A env σ H Z Q → ExE C P Ew (evT Γ c env) (muT c) A env σ H Z →
    ∀ (whole : Sem Value) (pins : List (Addr × Obj)) (s : Shared), Inv X pins σ H s → wpAny (model X.prog X.w) X.A (isTrue e X.env whole) (TP X pins σ Q) X.xe s
def WW (X : Cx) (e : Expr) (σ : L2.St) (H : Hp) (Q : Bool → Hp → Prop) : Prop := ∀ (whole : Sem Value) (pins : List (Addr × Obj)) (s : Shared), Inv X pins σ H s → wpAny (model X.prog X.w) X.A (isTrue e X.env whole) (TP X pins σ Q) X.xe s
theorem pwW {X : Cx} {e : Expr} : PW X e (WW X e) := ⟨fun wh pins s _ _ _ I h => h wh pins s I⟩
theorem WW.of {X : Cx} {e : Expr} {t : TT} (h : PW X e t) {σ : L2.St} {H : Hp} {Q : Bool → Hp → Prop} (q : t σ H Q) : WW X e σ H Q := fun wh pins s I => h.run wh pins s σ H Q I q
theorem TrW.tt {e : Expr} {c : Fc.T} (h : TrW C P X Ew Γ T e c T1) : TrT C P X Ew Γ T e c T1 := fun A env σ H Z Q s ne ok ex => h A env σ H Z Q s ne ok ex _
theorem tw_last {o : PySem.BoolOp} {a : Expr} {a' : Fc.T} (ha : TrT C P X Ew Γ T a a' T1) : TrW C P X Ew Γ T (.BoolOp o [a] pos) a' T1 := by
  intro A env σ H Z Q s ne ok ex
  have h : WT X a σ H Q := ha A env σ H Z Q s ne ok ex
  cases o with
  | And => exact WW.of (pw_and1 ptW) h
  | Or => exact WW.of (pw_or1 ptW) h
theorem OkB.go {o : Out Bool} {o2 : Out Bool} {Q : Bool → Hp → Prop} (ok : OkB P o mu T' A env σ H Z Q) (e : o = o2) (t1 : Stp mu1 A H env A1 H1 env1) (hm : ∀ j, j ∈ mu1 ++ mu2 → j ∈ mu) : OkB P o2 mu2 T' A1 env1 σ H1 Z Q := fun b env' e' H' A' s' t' =>
  ok b env' (by rw [e]; exact e') H' A' s' ((t1.trans t').mono hm)
theorem ExE.go {α β : Type} {o : Out α} {o2 : Out β} (ex : ExE C P Ew o mu A env σ H Z) (e : ∀ x e', o2 = .exn x e' → o = .exn x e') (t1 : Stp mu1 A H env A1 H1 env1) (hm : ∀ j, j ∈ mu1 ++ mu2 → j ∈ mu) : ExE C P Ew o2 mu2 A1 env1 σ H1 Z := fun x e' h cls dd H' A' s' t' r =>
  ex x e' (e x e' h) cls dd H' A' s' ((t1.trans t').mono hm) r
theorem tw_and {a b : Expr} {rest : List Expr} {a' b' : Fc.T} (ha : TrT C P X Ew Γ T a a' T1) (hb : TrW C P X Ew Γ T1 (.BoolOp .And (b :: rest) pos) b' T2) (hle : leT T2 T1 = true) :
    TrW C P X Ew Γ T (.BoolOp .And (a :: b :: rest) pos) (.and a' b') T2 := by
  intro A env σ H Z Q s ne ok ex
  refine WW.of (pw_and ptW pwW) ?_
  have ne : ((evT Γ a' env).bind fun x env1 => iteK x env1 (evT Γ b') (.ok false)) ≠ .err := ne
  have ok : OkB P ((evT Γ a' env).bind fun x env1 => iteK x env1 (evT Γ b') (.ok false)) (muT a' ++ muT b') T2 A env σ H Z Q := ok
  have ex : ExE C P Ew ((evT Γ a' env).bind fun x env1 => iteK x env1 (evT Γ b') (.ok false)) (muT a' ++ muT b') A env σ H Z := ex
  refine ha A env σ H Z _ s (bind_ne ne) (fun t env1 e1 H1 A1 s1 t1 => ?_) (ex.go (fun x e' e => bind_exn e) Stp.refl (fun j hj => by simp at hj ⊢; exact .inl hj))
  rw [bind_ok e1] at ne ok ex
  cases t with
  | true => exact hb A1 env1 σ H1 Z Q s1 ne (ok.go rfl t1 fun j hj => hj) (ex.go (fun x e' e => e) t1 fun j hj => hj)
  | false => exact ok false env1 rfl H1 _ (s1.weak hle) ((t1.trans Stp.weak).mono fun j hj => by simp at hj ⊢; exact .inl hj)
theorem tw_or {a b : Expr} {rest : List Expr} {a' b' : Fc.T} (ha : TrT C P X Ew Γ T a a' T1) (hb : TrW C P X Ew Γ T1 (.BoolOp .Or (b :: rest) pos) b' T2) (hle : leT T2 T1 = true) :
    TrW C P X Ew Γ T (.BoolOp .Or (a :: b :: rest) pos) (.or a' b') T2 := by
  intro A env σ H Z Q s ne ok ex
  refine WW.of (pw_or ptW pwW) ?_
  have ne : ((evT Γ a' env).bind fun x env1 => iteK x env1 (.ok true) (evT Γ b')) ≠ .err := ne
  have ok : OkB P ((evT Γ a' env).bind fun x env1 => iteK x env1 (.ok true) (evT Γ b')) (muT a' ++ muT b') T2 A env σ H Z Q := ok
  have ex : ExE C P Ew ((evT Γ a' env).bind fun x env1 => iteK x env1 (.ok true) (evT Γ b')) (muT a' ++ muT b') A env σ H Z := ex
  refine ha A env σ H Z _ s (bind_ne ne) (fun t env1 e1 H1 A1 s1 t1 => ?_) (ex.go (fun x e' e => bind_exn e) Stp.refl (fun j hj => by simp at hj ⊢; exact .inl hj))
  rw [bind_ok e1] at ne ok ex
  cases t with
  | false => exact hb A1 env1 σ H1 Z Q s1 ne (ok.go rfl t1 fun j hj => hj) (ex.go (fun x e' e => e) t1 fun j hj => hj)
  | true => exact ok true env1 rfl H1 _ (s1.weak hle) ((t1.trans Stp.weak).mono fun j hj => by simp at hj ⊢; exact .inl hj)

/-! ### a op b op c -/
theorem chain_run (G : Good C P X Ew Γ k) {a b c : Expr} {a' b' c' : E} {ra rb rc : R} {o o' : Cp} (ha : TrE C P X Ew Γ T a a' ra T1) (hb : TrE C P X Ew Γ T1 b b' rb T2) (hc : TrE C P X Ew Γ T2 c c' rc T3) (hn : okNext ra b' = true) (hn2 : okNext rb c' = true) (hle : leT T3 T2 = true)
    (s : SR P T A env σ H Z) (ne : evE Γ (.chain o o' a' b' c') env ≠ .err) (ex : ExE C P Ew (evE Γ (.chain o o' a' b' c') env) (muE (.chain o o' a' b' c')) A env σ H Z) {Q : VK}
    (ok : ∀ t env', evE Γ (.chain o o' a' b' c') env = .ok (.bl t) env' → ∀ H' A', SR P T3 A' env' σ H' Z → Stp (muE (.chain o o' a' b' c')) A H env A' H' env' → Q (.bl t) H') :
    tChain (OpW X (compareOp (cpO o))) (OpW X (compareOp (cpO o'))) (WE X a) (WE X b) (WE X c) σ H Q := by
  have ee : evE Γ (.chain o o' a' b' c') env = (evE Γ a' env).bind fun x env1 => (evE Γ b' env1).bind fun y env2 => chainK (cmpD o x y) env2 fun env2 => (evE Γ c' env2).bind fun z env3 => .of (blD (cmpD o' y z)) env3 := rfl
  rw [ee] at ne ok ex
  refine ha A env σ H Z _ s (bind_ne ne) (fun x env1 e1 v1 H1 A1 F1 f1 s1 t1 r1 => ?_) (ex.go (fun x e' e => bind_exn e) Stp.refl (fun j hj => by simp [muE] at hj ⊢; exact .inl hj))
  rw [bind_ok e1] at ne ok ex
  refine hb A1 env1 σ H1 (Zf Z F1) _ s1 (bind_ne ne) (fun y env2 e2 v2 H2 A2 F2 f2 s2 t2 r2 => ?_) (ex.sub t1 (fun x e' e => bind_exn e) (fun j hj => by simp [muE] at hj ⊢; rcases hj with h | h <;> simp [h]) fun _ z => .inl z)
  rw [bind_ok e2] at ne ok ex
  have r1' := r1.step (G := F2) t2 hn (fun a ha j q => s1.zA j a q (.inr ha)) f2
  cases hq : cmpD o x y with
  | none => rw [hq] at ne; exact absurd rfl ne
  | some t =>
    rw [hq] at ne ok ex
    refine opC G.K G.room hq (r1'.view s2) (r2.view s2) ⟨t, rfl, ?_⟩
    cases t with
    | true =>
      have ne : ((evE Γ c' env2).bind fun z env3 => .of (blD (cmpD o' y z)) env3) ≠ .err := ne
      have ex : ExE C P Ew ((evE Γ c' env2).bind fun z env3 => .of (blD (cmpD o' y z)) env3) (muE (.chain o o' a' b' c')) A env σ H Z := ex
      refine hc A2 env2 σ H2 _ _ s2 (bind_ne ne) (fun z env3 e3 v3 H3 A3 F3 f3 s3 t3 r3 => ?_) (ex.sub (t1.trans t2) (fun x e' e => bind_exn e) (fun j hj => by simpa [muE] using hj) fun _ z => .inl (.inl z))
      have r2' := r2.step (G := F3) t3 hn2 (fun a ha j q => s2.zA j a q (.inr ha)) f3
      rw [bind_ok e3] at ne
      cases hq2 : cmpD o' y z with
      | none => rw [hq2] at ne; exact absurd rfl ne
      | some t' =>
        refine opC G.K G.room hq2 (r2'.view s3) (r3.view s3) ?_
        refine ok t' env3 ?_ H3 A3 (s3.less fun a z => .inl (.inl (.inl z))) (((t1.trans t2).trans t3).mono fun j hj => by simpa [muE] using hj)
        show ((evE Γ c' env2).bind fun z env3 => .of (blD (cmpD o' y z)) env3) = _
        rw [bind_ok e3, hq2]
        rfl
    | false =>
      exact ok false env2 rfl H2 _ ((s2.less fun a z => .inl (.inl z)).weak hle) (((t1.trans t2).trans Stp.weak).mono fun j hj => by simp [muE] at hj ⊢; rcases hj with h | h <;> simp [h])
theorem marks2 {o o' : CmpOp} {b c : Expr} (h : isSetE c = false) : lastMarks [o, o'] [b, c] = false := marks_ok h
theorem tr_chain (G : Good C P X Ew Γ k) {a b c : Expr} {a' b' c' : E} {ra rb rc : R} {o o' : Cp} (ha : TrE C P X Ew Γ T a a' ra T1) (hb : TrE C P X Ew Γ T1 b b' rb T2) (hc : TrE C P X Ew Γ T2 c c' rc T3) (hn : okNext ra b' = true) (hn2 : okNext rb c' = true) (hle : leT T3 T2 = true) (hs : isSetE c = false) :
    TrE C P X Ew Γ T (.Compare a [cpO o, cpO o'] [b, c] pos) (.chain o o' a' b' c') .imm T3 := by
  intro A env σ H Z Q s ne ok ex
  refine .of (pe_chain OpW.opr OpW.opr peW peW peW (marks2 hs)) ?_
  exact chain_run G ha hb hc hn hn2 hle s ne ex fun t env' e H' A' s' t' => ok.fin0 (z := .bl t) e s' (fun _ z => z) t' (fun j hj => hj) (rv_scal (d := .bl t) rfl (fun i => by simp))
theorem tt_chain (G : Good C P X Ew Γ k) {a b c : Expr} {a' b' c' : E} {ra rb rc : R} {o o' : Cp} (ha : TrE C P X Ew Γ T a a' ra T1) (hb : TrE C P X Ew Γ T1 b b' rb T2) (hc : TrE C P X Ew Γ T2 c c' rc T3) (hn : okNext ra b' = true) (hn2 : okNext rb c' = true) (hle : leT T3 T2 = true) (hs : isSetE c = false) :
    TrT C P X Ew Γ T (.Compare a [cpO o, cpO o'] [b, c] pos) (.val (.chain o o' a' b' c')) T3 := by
  intro A env σ H Z Q s ne ok ex
  have ne : ((evE Γ (.chain o o' a' b' c') env).bind fun x env1 => .of (truD x) env1) ≠ .err := ne
  have ok : OkB P ((evE Γ (.chain o o' a' b' c') env).bind fun x env1 => .of (truD x) env1) (muE (.chain o o' a' b' c')) T3 A env σ H Z Q := ok
  have ex : ExE C P Ew ((evE Γ (.chain o o' a' b' c') env).bind fun x env1 => .of (truD x) env1) (muE (.chain o o' a' b' c')) A env σ H Z := ex
  refine .of (pt_chain OpW.opr OpW.opr peW peW peW (marks2 hs)) ?_
  refine chain_run G ha hb hc hn hn2 hle s (bind_ne ne) (fun x e' e => ex x e' (bind_exn e)) fun t env' e H' A' s' t' => ⟨t, rfl, ?_⟩
  exact ok t env' (by rw [bind_ok e]; rfl) H' A' s' t'

/-! ### slices -/
def WO (X : Cx) (o : Option Expr) (σ : L2.St) (H : Hp) (Q : Option Int → Hp → Prop) : Prop := ∀ (pins : List (Addr × Obj)) (s : Shared), Inv X pins σ H s → wpAny (model X.prog X.w) X.A (evalPart o X.env) (fun u s' => ∃ o H', Inv X pins σ H' s' ∧ IsPart u o ∧ Q o H') X.xe s
theorem poW {X : Cx} {o : Option Expr} : PO X o (WO X o) := ⟨fun pins s _ _ _ I h => h pins s I⟩
theorem WO.of {X : Cx} {o : Option Expr} {t : TO} (h : PO X o t) {σ : L2.St} {H : Hp} {Q : Option Int → Hp → Prop} (q : t σ H Q) : WO X o σ H Q := fun pins s I => h.run pins s σ H Q I q
def evP (Γ : Gam) (fl : Bool) (c : E) (env : Env) : Out (Option Int) := (evE Γ c env).bind fun l env2 => .of (partD fl l) env2
def TrP (C : Ctx) (P : GP) (X : Cx) (Ew : L2.St → XK) (Γ : Gam) (T : List M) (o : Option Expr) (fl : Bool) (c : E) (T' : List M) : Prop :=
  ∀ A env σ H Z (Q : Option Int → Hp → Prop), SR P T A env σ H Z → evP Γ fl c env ≠ .err → (∀ p env', evP Γ fl c env = .ok p env' → ∀ H' A', SR P T' A' env' σ H' Z → Stp (muE c) A H env A' H' env' → Q p H') → ExE C P Ew (evP Γ fl c env) (muE c) A env σ H Z → WO X o σ H Q
theorem tp_none : TrP C P X Ew Γ T none false (.con .non) T := by
  intro A env σ H Z Q s ne ok ex
  exact .of po_none (ok none env rfl H A s Stp.refl)
theorem tp_some {e : Expr} {c : E} {r : R} (h : TrE C P X Ew Γ T e c r T1) : TrP C P X Ew Γ T (some e) true c T1 := by
  intro A env σ H Z Q s ne ok ex
  refine .of (po_some peW) ?_
  refine one h s (g := fun l env2 => .of (partD true l) env2) ne ex (fun j hj => hj) fun x env1 v1 H1 A1 F1 e1 eg f1 s1 t1 r1 => ?_
  have ne' := ne
  rw [show evP Γ true c env = _ from eg] at ne'
  cases x with
  | int i =>
    refine ⟨i, vw_int (r1.view s1), ?_⟩
    exact ok (some i) env1 eg H1 A1 s1.drop t1
  | _ => exact absurd rfl ne'
theorem Reps.cut {ds : List D} {vs : List V} {lo hi : Option Int} (h : Reps P H Z ds vs) : Reps P H Z (cutD ds lo hi) (cutV vs lo hi) := by
  unfold cutD cutV
  rw [h.length]
  exact (h.drop _).take _
theorem tr_slc (G : Good C P X Ew Γ k) {a : Expr} {lo hi : Option Expr} {fl fh : Bool} {a' l' h' : E} {ra : R} {p2 : Pos} (ha : TrE C P X Ew Γ T a a' ra T1) (hl : TrP C P X Ew Γ T1 lo fl l' T2) (hh : TrP C P X Ew Γ T2 hi fh h' T3) (hn : okNext ra l' = true) (hn2 : okNext ra h' = true) :
    TrE C P X Ew Γ T (.Subscript a (.Slice lo hi none p2) pos) (.slc fl fh a' l' h') .top T3 := by
  intro A env σ H Z Q s ne ok ex
  refine .of (pe_slice (sl_list.or (sl_tup.or sl_str)) peW poW poW) ?_
  have ee : evE Γ (.slc fl fh a' l' h') env = (evE Γ a' env).bind fun x env1 => (evP Γ fl l' env1).bind fun l env2 => (evP Γ fh h' env2).bind fun h env3 => .of (slcD x l h) env3 := rfl
  rw [ee] at ne ok ex
  refine ha A env σ H Z _ s (bind_ne ne) (fun x env1 e1 v1 H1 A1 F1 f1 s1 t1 r1 => ?_) (ex.go (fun x e' e => bind_exn e) Stp.refl (fun j hj => by simp [muE] at hj ⊢; exact .inl hj))
  rw [bind_ok e1] at ne ok ex
  refine hl A1 env1 σ H1 (Zf Z F1) _ s1 (bind_ne ne) (fun p env2 e2 H2 A2 s2 t2 => ?_) (ex.sub t1 (fun x e' e => bind_exn e) (fun j hj => by simp [muE] at hj ⊢; rcases hj with h | h <;> simp [h]) fun _ z => .inl z)
  rw [bind_ok e2] at ne ok ex
  refine hh A2 env2 σ H2 (Zf Z F1) _ s2 (bind_ne ne) (fun q env3 e3 H3 A3 s3 t3 => ?_) (ex.sub (t1.trans t2) (fun x e' e => bind_exn e) (fun j hj => by simpa [muE] using hj) fun _ z => .inl z)
  rw [bind_ok e3] at ne ok
  have ed : ∀ a, Zf (Zf Z F1) [] a → Zf Z F1 a := fun a z => z.elim id fun q => absurd q (by simp)
  have ed' : ∀ a, Zf Z F1 a → Zf (Zf Z F1) [] a := fun a z => .inl z
  have r1' := (r1.step (G := []) t2 hn (fun a ha j q => s1.zA j a q (.inr ha)) none1).less ed'
  have r1'' := (r1'.step (G := []) t3 hn2 (fun a ha j q => s2.zA j a q (.inr ha)) none1).less ed'
  have w := r1''.view s3
  obtain ⟨z, hz⟩ := of_ne ne
  rw [hz] at ok
  have tt : Stp (muE (.slc fl fh a' l' h')) A H env A3 H3 env3 := ((t1.trans t2).trans t3).mono fun j hj => by simpa [muE] using hj
  unfold slcD at hz
  split at hz
  · cases hz
    obtain ⟨p', vs, rfl, q1, q2⟩ := vw_lst w
    refine .inl ⟨p', vs, rfl, by rw [G.K]; exact q1, fun n hn => ?_⟩
    exact ok.fin (F := [n]) (Z2 := Zf Z F1) rfl s3 (fun _ z => .inl z) tt (fun j hj => hj) (grow_upd hn) (fresh1 hn) cell_new (rv_new s3 hn q2.cut)
  · split at hz
    · cases hz
    · rename_i hw
      cases hz
      obtain ⟨p', vs, rfl, q1, q2⟩ := vw_tup w
      refine .inr (.inl ⟨p', vs, rfl, by rw [G.K]; exact q1, ?_, fun n hn => ?_⟩)
      · rw [← q2.length]; exact hw
      · have rr : Res P .top (.tup _) A3 env3 σ H3 (Zf Z F1) Q := fun v H4 F hk hF hc rv => ok.fin rfl s3 (fun _ z => .inl z) tt (fun j hj => hj) hk hF hc rv
        exact rr.t s3 (.inr rfl) q2.cut hn
  · split at hz
    · rename_i hl
      cases hz
      refine .inr (.inr ⟨_, vw_str w, of_decide_eq_true hl, ?_⟩)
      exact ok.fin0 (Z2 := Zf Z F1) rfl s3 (fun _ z => .inl z) tt (fun j hj => hj) (rv_scal (d := .str _) rfl (fun i => by simp))
    · cases hz
  · cases hz
end
end Fc
end

section
/-! Soundness, 5: calls of defs. -/
namespace Fc
open PySem L2 PySem.Spec
open PyProof.Rows hiding St

/-! ### pairs of two lists -/
section
variable {α β : Type} [BEq α] [LawfulBEq α]
theorem zip_at : ∀ {as : List α} {bs : List β} {i : Nat} {a : α} {b : β}, as.Nodup → as[i]? = some a → bs[i]? = some b → (as.zip bs).lookup a = some b
  | [], _, _, _, _, _, h, _ => by simp at h
  | _ :: _, [], _, _, _, _, _, h => by simp at h
  | x :: as, y :: bs, 0, a, b, _, h1, h2 => by
    have e1 : x = a := by simpa using h1
    have e2 : y = b := by simpa using h2
    subst e1 e2
    rw [List.zip_cons_cons, List.lookup_cons, beq_self_eq_true]
  | x :: as, y :: bs, i + 1, a, b, nd, h1, h2 => by
    have h1' : as[i]? = some a := by simpa using h1
    have h2' : bs[i]? = some b := by simpa using h2
    have ne : (a == x) = false := by
      rw [beq_eq_false_iff_ne]
      intro e
      subst e
      exact (List.nodup_cons.mp nd).1 (List.mem_of_getElem? h1')
    rw [List.zip_cons_cons, List.lookup_cons, ne]
    exact zip_at (List.nodup_cons.mp nd).2 h1' h2'
theorem at_zip : ∀ {as : List α} {bs : List β} {a : α} {b : β}, (as.zip bs).lookup a = some b → ∃ i : Nat, as[i]? = some a ∧ bs[i]? = some b
  | [], _, _, _, h => by simp at h
  | _ :: _, [], _, _, h => by simp at h
  | x :: as, y :: bs, a, b, h => by
    rw [List.zip_cons_cons, List.lookup_cons] at h
    cases q : a == x with
    | true =>
      rw [q] at h
      cases h
      exact ⟨0, by rw [eq_of_beq q]; rfl, rfl⟩
    | false =>
      rw [q] at h
      obtain ⟨i, h1, h2⟩ := at_zip h
      exact ⟨i + 1, by simpa using h1, by simpa using h2⟩
end
theorem nodup_at {α : Type} {as : List α} (h : as.Nodup) {i j : Nat} {a : α} (h1 : as[i]? = some a) (h2 : as[j]? = some a) : i = j := by
  obtain ⟨l1, e1⟩ := List.getElem?_eq_some_iff.mp h1
  obtain ⟨l2, e2⟩ := List.getElem?_eq_some_iff.mp h2
  exact (List.getElem_inj h).mp (e1.trans e2.symm)
theorem wbk_len : ∀ {env : Env} {wb : List Nat} {ios : List D}, (wbk env wb ios).length = env.length
  | env, [], _ => rfl
  | env, _ :: _, [] => rfl
  | env, i :: is, d :: ds => by
    show (wbk (env.set i (some d)) is ds).length = _
    rw [wbk_len, List.length_set]
theorem wbk_out : ∀ {env : Env} {wb : List Nat} {ios : List D} {j : Nat}, j ∉ wb → (wbk env wb ios)[j]? = env[j]?
  | env, [], _, j, _ => rfl
  | env, _ :: _, [], j, _ => rfl
  | env, i :: is, d :: ds, j, h => by
    show (wbk (env.set i (some d)) is ds)[j]? = _
    rw [wbk_out (fun q => h (List.mem_cons_of_mem _ q)), List.getElem?_set_ne (fun e => h (by simp [e]))]
theorem wbk_in : ∀ {env : Env} {wb : List Nat} {ios : List D} {k j : Nat} {d : D}, wb.Nodup → wb[k]? = some j → ios[k]? = some d → j < env.length → (wbk env wb ios)[j]? = some (some d)
  | env, [], _, _, _, _, _, h, _, _ => by simp at h
  | env, _ :: _, [], _, _, _, _, _, h, _ => by simp at h
  | env, i :: is, e :: ds, 0, j, d, nd, h1, h2, hj => by
    have e1 : i = j := by simpa using h1
    have e2 : e = d := by simpa using h2
    subst e1 e2
    show (wbk (env.set i (some e)) is ds)[i]? = _
    rw [wbk_out (List.nodup_cons.mp nd).1, List.getElem?_set_self hj]
  | env, i :: is, e :: ds, k + 1, j, d, nd, h1, h2, hj => by
    show (wbk (env.set i (some e)) is ds)[j]? = _
    exact wbk_in (k := k) (List.nodup_cons.mp nd).2 (by simpa using h1) (by simpa using h2) (by rw [List.length_set]; exact hj)
theorem wbOf_ok {T : List M} {es : List E} {rs : List R} : ∀ {io wb : List Nat}, wbOf T es rs io = some wb → wb.length = io.length ∧ wb.Nodup ∧ ∀ (k p : Nat), io[k]? = some p → ∃ i, wb[k]? = some i ∧ rs[p]? = some (.bor i) ∧ T[i]? = some .top
  | [], wb, h => by
    cases h
    exact ⟨rfl, List.nodup_nil, fun k p e => by simp at e⟩
  | p :: ps, wb, h => by
    unfold wbOf at h
    split at h
    · rename_i i j w h1 h2 h3
      split at h
      · rename_i hc
        cases h
        obtain ⟨g1, g2, g3⟩ := wbOf_ok h3
        obtain ⟨hc1, hc2, hc3⟩ := hc
        subst hc1
        refine ⟨by simp [g1], List.nodup_cons.mpr ⟨by simpa using hc3, g2⟩, fun k p' e => ?_⟩
        cases k with
        | zero =>
          have e' : p = p' := by simpa using e
          subst e'
          exact ⟨i, rfl, h2, hc2⟩
        | succ k =>
          obtain ⟨i', q1, q2⟩ := g3 k p' (by simpa using e)
          exact ⟨i', by simpa using q1, q2⟩
      · cases h
    · cases h

section
variable {C : Ctx} {P : GP} {X : Cx} {Ew : L2.St → XK} {Γ : Gam} {k : Nat}
variable {T T' T1 T2 T3 : List M} {A A1 A2 A' : Ft} {env env1 env2 env' : Env} {σ : L2.St} {H H1 H2 H3 H' : Hp} {Z Z1 Z2 Z' : AS} {mu mu1 mu2 : List Nat} {pos : Pos}
theorem RVs.get {F : List Addr} : ∀ {rs : List R} {ds : List D} {vs : List V} {i : Nat} {d : D}, RVs P F A env σ H Z rs ds vs → ds[i]? = some d → ∃ v r G, vs[i]? = some v ∧ rs[i]? = some r ∧ (∀ a ∈ G, a ∈ F) ∧ RV P r d v G A env σ H Z
  | [], [], [], i, d, _, e => by simp at e
  | r :: rs, d' :: ds, v :: vs, 0, d, h, e => by
    have e' : d' = d := by simpa using e
    subst e'
    obtain ⟨⟨G, h1, h2⟩, _⟩ := h
    exact ⟨v, r, G, rfl, rfl, h1, h2⟩
  | r :: rs, d' :: ds, v :: vs, i + 1, d, h, e => by
    obtain ⟨v', r', G, h1, h2, h3⟩ := RVs.get (i := i) h.2 (by simpa using e)
    exact ⟨v', r', G, by simpa using h1, by simpa using h2, h3⟩
  | [], _ :: _, _, _, _, h, _ => h.elim
  | [], [], _ :: _, _, _, h, _ => h.elim
  | _ :: _, [], _, _, _, h, _ => h.elim
  | _ :: _, _ :: _, [], _, _, h, _ => h.elim
theorem nonio_mem {io : List Nat} {rs : List R} {r : R} {p : Nat} (h : rs[p]? = some r) (hp : p ∉ io) : r ∈ nonio io rs := by
  unfold nonio
  refine List.mem_map.mpr ⟨(r, p), List.mem_filter.mpr ⟨?_, by simpa using hp⟩, rfl⟩
  exact List.mem_zipIdx_iff_getElem?.mpr h
theorem mem_nonio {io : List Nat} {rs : List R} {r : R} (h : r ∈ nonio io rs) : ∃ p, rs[p]? = some r ∧ p ∉ io := by
  unfold nonio at h
  obtain ⟨⟨r', p⟩, h1, rfl⟩ := List.mem_map.mp h
  obtain ⟨h2, h3⟩ := List.mem_filter.mp h1
  exact ⟨p, List.mem_zipIdx_iff_getElem?.mp h2, by simpa using h3⟩
theorem thawL_keep : ∀ {rs : List R} {j : Nat}, (∀ i, R.bor i ∈ rs → i ≠ j) → thawL A rs j = A j
  | [], _, _ => rfl
  | .bor i :: rs, j, h => by
    show thaw (thawL A rs) i j = _
    rw [thaw_ne (fun e => h i (by simp) e.symm)]
    exact thawL_keep fun i hi => h i (by simp [hi])
  | .imm :: rs, j, h => thawL_keep (rs := rs) fun i hi => h i (by simp [hi])
  | .sh :: rs, j, h => thawL_keep (rs := rs) fun i hi => h i (by simp [hi])
  | .top :: rs, j, h => thawL_keep (rs := rs) fun i hi => h i (by simp [hi])
theorem frz_keep : ∀ {rs : List R} {j : Nat}, (∀ i, R.bor i ∈ rs → i ≠ j) → (frz T rs)[j]? = T[j]?
  | [], _, _ => rfl
  | .bor i :: rs, j, h => by
    show ((frz T rs).set i .sh)[j]? = _
    rw [List.getElem?_set_ne (h i (by simp))]
    exact frz_keep fun i hi => h i (by simp [hi])
  | .imm :: rs, j, h => frz_keep (rs := rs) fun i hi => h i (by simp [hi])
  | .sh :: rs, j, h => frz_keep (rs := rs) fun i hi => h i (by simp [hi])
  | .top :: rs, j, h => frz_keep (rs := rs) fun i hi => h i (by simp [hi])

/-- the cells that a callee may change; what it may not know -/
def calF (io wb : List Nat) (A : Ft) : Ft := fun p => match (io.zip wb).lookup p with | some i => A i | none => []
def calZ (wb : List Nat) (Z : AS) (A : Ft) : AS := fun a => Z a ∨ ∃ j, j ∉ wb ∧ a ∈ A j
/-- the caller's cells behind it -/
def retF (io wb : List Nat) (A A' : Ft) : Ft := fun j => match (wb.zip io).lookup j with | some p => A' p | none => A j
structure Pairs (io wb : List Nat) : Prop where
  len : wb.length = io.length
  ndi : io.Nodup
  ndw : wb.Nodup
variable {io wb : List Nat}
theorem Pairs.fst (h : Pairs io wb) {k p : Nat} (e : io[k]? = some p) : ∃ i, wb[k]? = some i ∧ (io.zip wb).lookup p = some i ∧ (wb.zip io).lookup i = some p := by
  have hk : k < wb.length := by
    rw [h.len]
    exact (List.getElem?_eq_some_iff.mp e).1
  exact ⟨wb[k], List.getElem?_eq_getElem hk, zip_at h.ndi e (List.getElem?_eq_getElem hk), zip_at h.ndw (List.getElem?_eq_getElem hk) e⟩
theorem Pairs.calF (h : Pairs io wb) {p : Nat} {a : Addr} (q : a ∈ calF io wb A p) : ∃ (k i : Nat), io[k]? = some p ∧ wb[k]? = some i ∧ a ∈ A i ∧ (wb.zip io).lookup i = some p := by
  unfold Fc.calF at q
  split at q
  · rename_i i e
    obtain ⟨k, h1, h2⟩ := at_zip e
    exact ⟨k, i, h1, h2, q, zip_at h.ndw h2 h1⟩
  · exact absurd q (by simp)
theorem Pairs.retF (h : Pairs io wb) {j : Nat} {a : Addr} (q : a ∈ retF io wb A A' j) : (j ∉ wb ∧ a ∈ A j) ∨ ∃ (k p : Nat), io[k]? = some p ∧ wb[k]? = some j ∧ a ∈ A' p := by
  unfold Fc.retF at q
  split at q
  · rename_i p e
    obtain ⟨k, h1, h2⟩ := at_zip e
    exact .inr ⟨k, p, h2, h1, q⟩
  · rename_i e
    refine .inl ⟨fun hj => ?_, q⟩
    obtain ⟨k, hk, e1⟩ := List.mem_iff_getElem.mp hj
    have h1 : wb[k]? = some j := by rw [List.getElem?_eq_getElem hk, e1]
    have hk' : k < io.length := by rw [← h.len]; exact hk
    rw [zip_at h.ndw h1 (List.getElem?_eq_getElem hk')] at e
    cases e
theorem Pairs.ret_in (h : Pairs io wb) {k p j : Nat} (h1 : io[k]? = some p) (h2 : wb[k]? = some j) : Fc.retF io wb A A' j = A' p := by
  unfold Fc.retF
  rw [zip_at h.ndw h2 h1]
theorem Pairs.ret_out (h : Pairs io wb) {j : Nat} (hj : j ∉ wb) : Fc.retF io wb A A' j = A j := by
  unfold Fc.retF
  split
  · rename_i p e
    obtain ⟨k, h1, h2⟩ := at_zip e
    exact absurd (List.mem_of_getElem? h1) hj
  · rfl
theorem Pairs.cal_in (h : Pairs io wb) {k p j : Nat} (h1 : io[k]? = some p) (h2 : wb[k]? = some j) : Fc.calF io wb A p = A j := by
  unfold Fc.calF
  rw [zip_at h.ndi h1 h2]
theorem inT_get {s : Sig} {p : Nat} {m : M} (h : (inT s)[p]? = some m) : p < s.np ∧ m = if s.io.contains p then .top else .sh := by
  unfold inT at h
  rw [List.getElem?_map] at h
  cases e : (List.range s.np)[p]? with
  | none => rw [e] at h; cases h
  | some q =>
    obtain ⟨l, e2⟩ := List.getElem?_eq_some_iff.mp e
    have e3 : q = p := by rw [← e2]; simp
    subst e3
    rw [e] at h
    cases h
    exact ⟨by simpa using l, rfl⟩
theorem inT_at {s : Sig} {p : Nat} (h : p < s.np) : (inT s)[p]? = some (if s.io.contains p then .top else .sh) := by
  unfold inT
  rw [List.getElem?_map, List.getElem?_range h] <;> rfl
theorem ioEnv_at {s : Sig} {ios : List D} {p : Nat} (h : p < s.np) : (ioEnv s ios)[p]? = some ((s.io.zip ios).lookup p) := by
  unfold ioEnv
  rw [List.getElem?_map, List.getElem?_range h] <;> rfl
theorem map_some_get {α : Type} {xs : List α} {i : Nat} {x : α} : (xs.map some)[i]? = some (some x) ↔ xs[i]? = some x := by
  rw [List.getElem?_map]
  cases xs[i]? <;> simp

/-- the state that a callee meets -/
theorem fc_call_in {s : Sig} {xs : List D} {vs : List V} {rs : List R} {cs : List E} {F : List Addr} (s1 : SR P T1 A1 env1 σ H1 (Zf Z F)) (hFZ : ∀ a ∈ F, ¬ Z a) (r1 : RVs P F A1 env1 σ H1 (Zf Z F) rs xs vs)
    (hl : rs.length = s.np) (hnd : s.io.Nodup) (hw : wbOf T1 cs rs s.io = some wb) (hap : apart wb s.io rs = true) :
    Pairs s.io wb ∧ vs.length = s.np ∧ xs.length = s.np ∧ SR P (inT s) (calF s.io wb (thawL A1 (nonio s.io rs))) (xs.map some) (vs.map some) H1 (calZ wb Z (thawL A1 (nonio s.io rs))) ∧
    SR P (frz T1 (nonio s.io rs)) (thawL A1 (nonio s.io rs)) env1 σ H1 Z ∧
    (∀ (k p i : Nat), s.io[k]? = some p → wb[k]? = some i → p < s.np ∧ (frz T1 (nonio s.io rs))[i]? = some .top ∧ i < env1.length ∧ ∃ v, vs[p]? = some v ∧ σ[i]? = some (some v)) := by
  obtain ⟨w1, w2, w3⟩ := wbOf_ok hw
  have pr : Pairs s.io wb := ⟨w1, hnd, w2⟩
  obtain ⟨l1, l2⟩ := r1.len
  have lv : vs.length = s.np := by omega
  have lx : xs.length = s.np := by omega
  have sf := (SR.thawL (rs := nonio s.io rs) s1).drop
  have nb : ∀ i j, R.bor i ∈ nonio s.io rs → j ∈ wb → i ≠ j := fun i j hi hj e => by
    subst e
    obtain ⟨p, h1, h2⟩ := mem_nonio hi
    unfold apart at hap
    rw [List.all_eq_true] at hap
    have q := hap (.bor i, p) (List.mem_zipIdx_iff_getElem?.mpr h1)
    simp only [R.noBor, Bool.or_eq_true, List.contains_iff_mem, Bool.not_eq_true', List.contains_eq_mem, decide_eq_false_iff_not] at q
    rcases q with q | q
    · exact h2 (by simpa using q)
    · exact q hj
  have keepA : ∀ j, j ∈ wb → thawL A1 (nonio s.io rs) j = A1 j := fun j hj => thawL_keep fun i hi => nb i j hi hj
  have keepT : ∀ j, j ∈ wb → (frz T1 (nonio s.io rs))[j]? = T1[j]? := fun j hj => frz_keep fun i hi => nb i j hi hj
  have ent : ∀ (k p i : Nat), s.io[k]? = some p → wb[k]? = some i → p < s.np ∧ (frz T1 (nonio s.io rs))[i]? = some .top ∧ i < env1.length ∧ ∃ v, vs[p]? = some v ∧ σ[i]? = some (some v) := fun k p i h1 h2 => by
    obtain ⟨i', g1, g2, g3⟩ := w3 k p h1
    rw [h2] at g1
    cases g1
    have hp : p < rs.length := (List.getElem?_eq_some_iff.mp g2).1
    have hpx : p < xs.length := by omega
    obtain ⟨v, r, G, q1, q2, q3, q4⟩ := r1.get (List.getElem?_eq_getElem hpx)
    rw [g2] at q2
    cases q2
    refine ⟨by omega, by rw [keepT i (List.mem_of_getElem? h2)]; exact g3, (List.getElem?_eq_some_iff.mp q4.2.1).1, v, q1, q4.2.2⟩
  have sub : ∀ a, W (calZ wb Z (thawL A1 (nonio s.io rs))) (calF s.io wb (thawL A1 (nonio s.io rs))) a → W Z (thawL A1 (nonio s.io rs)) a := fun a z => by
    rcases z with (z | ⟨j, _, z⟩) | ⟨p, z⟩
    · exact .inl z
    · exact .inr ⟨j, z⟩
    · obtain ⟨k, i, _, _, z, _⟩ := pr.calF z
      exact .inr ⟨i, z⟩
  refine ⟨pr, lv, lx, ⟨?_, ?_, fun p m d h1 h2 => ?_, fun p h => ?_, fun p q a ne h1 h2 => ?_, fun p a h z => ?_, fun a z => ?_⟩, sf, ent⟩
  · rw [List.length_map, List.length_map, lv, lx]
  · rw [List.length_map, lx]
    unfold inT
    simp
  · obtain ⟨hp, hm⟩ := inT_get h1
    rw [map_some_get] at h2
    obtain ⟨v, r, G, q1, q2, q3, q4⟩ := r1.get h2
    refine ⟨v, map_some_get.mpr q1, ?_⟩
    by_cases hio : p ∈ s.io
    · rw [if_pos (by simpa using hio)] at hm
      subst hm
      obtain ⟨k, hk, e⟩ := List.mem_iff_getElem.mp hio
      have h3 : s.io[k]? = some p := by rw [List.getElem?_eq_getElem hk, e]
      obtain ⟨i, g1, g2, g3⟩ := w3 k p h3
      rw [q2] at g2
      cases g2
      obtain ⟨_, e1, e2⟩ := q4
      obtain ⟨v', e3, o⟩ := sf.val i .top d (by rw [keepT i (List.mem_of_getElem? g1)]; exact g3) e1
      rw [e2] at e3
      cases e3
      rw [pr.cal_in h3 g1]
      exact o.frame (fun _ _ e _ => e) fun a _ n z => n (sub a z)
    · rw [if_neg (by simpa using hio)] at hm
      subst hm
      have e0 : calF s.io wb (thawL A1 (nonio s.io rs)) p = [] := by
        unfold Fc.calF
        split
        · rename_i i e
          obtain ⟨k, h1, _⟩ := at_zip e
          exact absurd (List.mem_of_getElem? h1) hio
        · rfl
      rw [e0]
      refine Own.sh (Rep.less sub ?_)
      exact q4.free s1 (nonio_mem q2 hio) (fun a z => .inl z) (fun a ha => hFZ a (q3 a ha)) (fun a ha => .inr (q3 a ha))
  · unfold Fc.calF
    split
    · rename_i i e
      obtain ⟨k, h1, h2⟩ := at_zip e
      obtain ⟨hp, _⟩ := ent k p i h1 h2
      have hpx : p < xs.length := by omega
      exact absurd (map_some_get.mpr (List.getElem?_eq_getElem hpx)) (h _)
    · rfl
  · obtain ⟨k1, i1, a1, a2, a3, a4⟩ := pr.calF h1
    obtain ⟨k2, i2, b1, b2, b3, b4⟩ := pr.calF h2
    refine sf.dj i1 i2 a (fun e => ne ?_) a3 b3
    subst e
    have := nodup_at pr.ndw a2 b2
    subst this
    rw [a1] at b1
    cases b1
    rfl
  · obtain ⟨k1, i1, a1, a2, a3, a4⟩ := pr.calF h
    rcases z with z | ⟨j, hj, z⟩
    · exact sf.zA i1 a a3 z
    · exact sf.dj i1 j a (fun e => hj (e ▸ List.mem_of_getElem? a2)) a3 z
  · rcases z with z | ⟨j, _, z⟩
    · exact sf.zc a z
    · exact sf.cell z
/-- .. and what the caller meets behind it -/
theorem fc_call_out {s : Sig} {vs : List V} {ios : List D} {G : List Addr} (pr : Pairs s.io wb) (sf : SR P T A env σ H Z)
    (ent : ∀ (k p i : Nat), s.io[k]? = some p → wb[k]? = some i → p < s.np ∧ T[i]? = some .top ∧ i < env.length ∧ ∃ v, vs[p]? = some v ∧ σ[i]? = some (some v))
    (b : Back P s (calF s.io wb A) H A' H' (calZ wb Z A) vs ios G) :
    SR P T (retF s.io wb A A') (wbk env wb ios) σ H' (Zf Z G) ∧ Stp wb A H env (retF s.io wb A A') H' (wbk env wb ios) ∧ (∀ a, W (Zf Z G) (retF s.io wb A A') a → W (Zf (calZ wb Z A) G) A' a) := by
  have trk : ∀ {a j}, a ∈ A j → H a ≠ none := fun {a j} h e => by
    obtain ⟨o, e', _⟩ := sf.cell h
    rw [e] at e'
    cases e'
  have foot : ∀ j a, a ∈ retF s.io wb A A' j → a ∈ A j ∨ H a = none := fun j a h => by
    rcases pr.retF h with ⟨_, h⟩ | ⟨k, p, h1, h2, h⟩
    · exact .inl h
    · rcases b.foot p a h with q | q
      · rw [pr.cal_in h1 h2] at q
        exact .inl q
      · exact .inr q
  have ww : ∀ a, W (Zf Z G) (retF s.io wb A A') a → W (Zf (calZ wb Z A) G) A' a := fun a z => by
    rcases z with (z | z) | ⟨j, z⟩
    · exact .inl (.inl (.inl z))
    · exact .inl (.inr z)
    · rcases pr.retF z with ⟨hj, z⟩ | ⟨k, p, _, _, z⟩
      · exact .inl (.inl (.inr ⟨j, hj, z⟩))
      · exact .inr ⟨p, z⟩
  refine ⟨⟨?_, ?_, fun j m d h1 h2 => ?_, fun j h => ?_, fun i j a ne h1 h2 => ?_, fun j a h z => ?_, fun a z => ?_⟩, ⟨fun a o e n => ?_, b.thr, fun j hj => wbk_out hj, foot, wbk_len⟩, ww⟩
  · rw [wbk_len]; exact sf.ls
  · rw [wbk_len]; exact sf.lt
  · by_cases hj : j ∈ wb
    · obtain ⟨k, hk, e⟩ := List.mem_iff_getElem.mp hj
      have g1 : wb[k]? = some j := by rw [List.getElem?_eq_getElem hk, e]
      have hk' : k < s.io.length := by rw [← pr.len]; exact hk
      have g2 : s.io[k]? = some (s.io[k]) := List.getElem?_eq_getElem hk'
      obtain ⟨hp, ht, hjl, v, hv, hσ⟩ := ent k _ j g2 g1
      rw [h1] at ht
      cases ht
      have hki : k < ios.length := by rw [b.len]; exact hk'
      have g3 : ios[k]? = some (ios[k]) := List.getElem?_eq_getElem hki
      rw [wbk_in pr.ndw g1 g3 hjl] at h2
      cases h2
      have hc : s.io.contains s.io[k] = true := by simp
      obtain ⟨v', e1, o⟩ := b.sr.val s.io[k] .top ios[k] (by rw [inT_at hp, if_pos hc]) (by rw [ioEnv_at hp, zip_at pr.ndi g2 g3])
      rw [map_some_get, hv] at e1
      cases e1
      rw [pr.ret_in g2 g1]
      exact ⟨v, hσ, o.frame (fun _ _ e _ => e) fun a _ n z => n (ww a z)⟩
    · rw [wbk_out hj] at h2
      obtain ⟨v, e1, o⟩ := sf.val j m d h1 h2
      rw [pr.ret_out hj]
      refine ⟨v, e1, o.frame (fun a ob e n => b.keep a ob e fun p q => ?_) fun a e n z => ?_⟩
      · obtain ⟨k, i, _, g2, q, _⟩ := pr.calF q
        rcases n with n | n
        · exact n (.inr ⟨i, q⟩)
        · exact sf.dj j i a (fun e => hj (e ▸ List.mem_of_getElem? g2)) n q
      · rcases z with (z | z) | ⟨i, z⟩
        · exact n (.inl z)
        · exact e (b.fresh a z)
        · rcases foot i a z with z | z
          · exact n (.inr ⟨i, z⟩)
          · exact e z
  · by_cases hj : j ∈ wb
    · obtain ⟨k, hk, e⟩ := List.mem_iff_getElem.mp hj
      have g1 : wb[k]? = some j := by rw [List.getElem?_eq_getElem hk, e]
      have hk' : k < s.io.length := by rw [← pr.len]; exact hk
      have hki : k < ios.length := by rw [b.len]; exact hk'
      obtain ⟨_, _, hjl, _⟩ := ent k _ j (List.getElem?_eq_getElem hk') g1
      exact absurd (wbk_in pr.ndw g1 (List.getElem?_eq_getElem hki) hjl) (h _)
    · rw [pr.ret_out hj]
      refine sf.emp j fun d q => h d ?_
      rw [wbk_out hj]
      exact q
  · rcases pr.retF h1 with ⟨hi, q1⟩ | ⟨k1, p1, a1, a2, q1⟩
    · rcases foot j a h2 with q2 | q2
      · exact sf.dj i j a ne q1 q2
      · exact trk q1 q2
    · rcases pr.retF h2 with ⟨hj, q2⟩ | ⟨k2, p2, b1, b2, q2⟩
      · rcases foot i a h1 with q1 | q1
        · exact sf.dj i j a ne q1 q2
        · exact trk q2 q1
      · refine b.sr.dj p1 p2 a (fun e => ne ?_) q1 q2
        subst e
        have := nodup_at pr.ndi a1 b1
        subst this
        rw [a2] at b2
        cases b2
        rfl
  · rcases pr.retF h with ⟨hj, q⟩ | ⟨k1, p1, a1, a2, q⟩
    · rcases z with z | z
      · exact sf.zA j a q z
      · exact trk q (b.fresh a z)
    · exact b.sr.zA p1 a q (z.imp .inl id)
  · exact b.sr.zc a (z.imp .inl id)
  · refine b.keep a o e fun p q => ?_
    obtain ⟨k, i, _, g2, q, _⟩ := pr.calF q
    exact n i (List.mem_of_getElem? g2) q
theorem tr_call (G : Good C P X Ew Γ k) {x : Str} {p pos : Pos} {f : Nat} {s : Sig} {e : Expr} {es : List Expr} {cs : List E} {rs : List R} (hx : globOf C x = some (.fn f)) (hsg : C.sig f = some s)
    (ha : TrA C P X Ew Γ T (e :: es) cs rs T1) (hst : (e :: es).all (fun e => !starred e) = true) (hl : rs.length = s.np) (hnd : s.io.Nodup) (hw : wbOf T1 cs rs s.io = some wb) (hap : apart wb s.io rs = true)
    (hlb : leT C.lb (frz T1 (nonio s.io rs)) = true) :
    TrE C P X Ew Γ T (.Call (.Name x p) (e :: es) [] pos) (.call f cs wb) (rmR s.res) (if s.res = .imm ∧ s.io = [] then T1 else frz T1 (nonio s.io rs)) := by
  intro A env σ H Z Q s0 ne ok ex
  unfold globOf at hx
  split at hx
  · rename_i hg
    obtain ⟨g1, g2⟩ := glob_gl G hg
    obtain ⟨a, fd, ps, m1, m2, F, hb⟩ := G.fn x f s hx hsg
    rw [List.all_cons, Bool.and_eq_true] at hst
    refine .of (pe_callS F G.room g1 m1 m2 hb G.pass paW g2 (each_ok (by simpa using hst.1)) (star_ok pos hst.2)) ?_
    have ee : evE Γ (.call f cs wb) env = (evEs Γ cs env).bind fun ds env1 => callK (Γ.call f ds) wb env1 := rfl
    rw [ee] at ne ok ex
    refine args ha s0 ne ex (fun j hj => List.mem_append_left _ hj) fun xs env1 vs H1 A1 F1 e1 eg f1 s1 t1 r1 => ?_
    rw [eg] at ne ok ex
    obtain ⟨pr, lv, lx, sc, sf, ent⟩ := fc_call_in s1 (fresh_notZ s0 f1) r1 hl hnd hw hap
    refine ⟨xs, _, _, lv, lx, sc, fun j hj => ?_, fun z => ne (by rw [z] <;> rfl), fun r ios er v H' A' G' b rv => ?_, fun y ios er cls dd H' A' b rx => ?_⟩
    · unfold Fc.calF
      split
      · rename_i i q
        obtain ⟨k, h1, _⟩ := at_zip q
        exact absurd (List.mem_of_getElem? h1) hj
      · rfl
    · rw [er] at ok
      by_cases hi : s.res = .imm ∧ s.io = []
      · rw [if_pos hi] at ok
        have hw0 : wb = [] := by
          have := pr.len
          rw [hi.2] at this
          exact List.length_eq_zero_iff.mp this
        subst hw0
        have nc : ∀ q a, a ∉ calF s.io [] (thawL A1 (nonio s.io rs)) q := fun q a h => by
          obtain ⟨k, i, _, h2, _⟩ := pr.calF h
          simp at h2
        have hk : ∀ a o, H1 a = some o → H' a = some o := fun a o e => b.keep a o e fun q => nc q a
        have s2 := s1.grow hk
        rw [hi.1] at rv ok
        obtain ⟨_, him, hrep⟩ := rv
        refine ok.fin0 (Z2 := Zf Z F1) (r := .imm) rfl s2 (fun _ z => .inl z) (t1.trans (Stp.grow hk)) (fun j hj => by simpa [muE] using hj) ⟨rfl, him, ?_⟩
        exact Rep.imm s2.cells r v him hrep
      · rw [if_neg hi] at ok
        obtain ⟨s2, t2, ww⟩ := fc_call_out pr sf ent b
        refine ok r _ rfl v H' _ G' (fresh_back' t1 b.fresh) s2 (((t1.trans (Stp.thawL)).trans t2).mono fun j hj => by simpa [muE] using hj) ?_
        have le := fun a => ww a
        cases hr : s.res with
        | imm => rw [hr] at rv; exact ⟨rv.1, rv.2.1, Rep.less le rv.2.2⟩
        | sh => rw [hr] at rv; exact ⟨rv.1, Rep.less le rv.2⟩
        | top =>
          rw [hr] at rv
          exact Own.frame (P := P) (m := .top) (fun _ _ e _ => e) (fun a _ n z => n (le a z)) rv
    · rw [er] at ex
      obtain ⟨s2, t2, ww⟩ := fc_call_out pr sf ent b
      have s3 := s2.less (Z' := Z) fun a z => .inl z
      refine ex y _ rfl cls dd H' _ (s3.weak hlb) (((t1.trans Stp.thawL).trans t2).trans Stp.weak |>.mono fun j hj => by simpa [muE] using hj) (rx.less fun a z => ?_)
      have z2 := ww a ((W_keepF z).imp .inl id)
      rcases z2 with (z2 | z2) | z2
      · exact .inl z2
      · exact absurd z2 (by simp)
      · exact .inr z2
  · cases hx
end
end Fc
end

section
/-! Soundness, 6: built-ins, isinstance, changes of lists. -/
namespace Fc
open PySem L2 PySem.Spec
open PyProof.Rows hiding St
section
variable {C : Ctx} {P : GP} {X : Cx} {Ew : L2.St → XK} {Γ : Gam} {k : Nat}
variable {T T' T1 T2 T3 : List M} {A A1 A2 A' : Ft} {env env1 env2 env' : Env} {σ : L2.St} {H H1 H2 H3 H' : Hp} {Z Z1 Z2 Z' : AS} {mu mu1 mu2 : List Nat} {pos : Pos}

def CW (X : Cx) (f : Value) (vs : List V) (H : Hp) (Q : VK) : Prop := ∀ (pins : List (Addr × Obj)) (s : Shared) (σ : L2.St) (us : List Value), Inv X pins σ H s → Vals vs us → wpAny (model X.prog X.w) X.A (call f us) (EP X pins σ Q) X.xe s
theorem CW.cr {X : Cx} {f : Value} : CallR X f (CW X f) := fun pins s σ H vs us Q I r q => q pins s σ us I r
theorem CW.of {X : Cx} {f : Value} {r : List V → Hp → VK → Prop} (h : CallR X f r) {vs : List V} {H : Hp} {Q : VK} (q : r vs H Q) : CW X f vs H Q := fun pins s σ us I rv => h pins s σ H vs us Q I rv q
def bfV : Bf → Value
  | .len => .builtin "len" | .abs => .builtin "abs" | .max => .builtin "max" | .min => .builtin "min" | .int => .type "int" | .list => .type "list"
  | _ => .none
theorem paired1 {F : D → V → Prop} {d : D} {vs : List V} (h : Paired F [d] vs) : ∃ v, vs = [v] ∧ F d v := by
  cases h with
  | cons a b => cases b; exact ⟨_, rfl, a⟩
theorem paired2 {F : D → V → Prop} {d e : D} {vs : List V} (h : Paired F [d, e] vs) : ∃ v w, vs = [v, w] ∧ F d v ∧ F e w := by
  cases h with
  | cons a b =>
    obtain ⟨w, rfl, c⟩ := paired1 b
    exact ⟨_, _, rfl, a, c⟩
def bfOk : Bf → Bool
  | .len => true | .abs => true | .max => true | .min => true | .int => true | .list => true
  | _ => false
def bfR : Bf → R
  | .list => .top
  | _ => .imm
theorem bltS (hK : X.K = P.K) (hc : X.calm = true) (s : SR P T A env σ H Z) {b : Bf} {ds : List D} {z : D} {vs : List V} {Q : VK} (hb : bfOk b = true) (e : bltD b ds = some z) (hv : Paired (fun d v => Vw P H (W Z A) d v) ds vs) (h : Res P (bfR b) z A env σ H Z Q) : CW X (bfV b) vs H Q := by
  have sc : ∀ {d : D}, d.scal = true → bfR b ≠ .top → Res P (bfR b) d A env σ H Z Q → Q (scV d) H := fun hd _ h => h.sc hd (fun i => by cases b <;> simp [bfR])
  unfold bltD at e
  split at e
  · rename_i d
    obtain ⟨v, rfl, w⟩ := paired1 hv
    obtain ⟨n, hn, rfl⟩ := Option.map_eq_some_iff.mp e
    have q := sc (d := .int n) rfl (by simp [bfR]) h
    unfold lenD at hn
    split at hn
    · split at hn
      · rename_i hl
        cases hn
        exact .of call_len_str ⟨_, by rw [vw_str w], of_decide_eq_true hl, q⟩
      · cases hn
    · cases hn
      obtain ⟨p, ws, rfl, q1, q2⟩ := vw_tup w
      exact .of call_len_seq ⟨p, ws, rfl, .inr (by rw [hK]; exact q1), by rw [← q2.length]; exact q⟩
    · cases hn
      obtain ⟨p, ws, rfl, q1, q2⟩ := vw_lst w
      exact .of call_len_seq ⟨p, ws, rfl, .inl (by rw [hK]; exact q1), by rw [← q2.length]; exact q⟩
    · cases hn
  · cases e
    obtain ⟨v, rfl, w⟩ := paired1 hv
    rw [vw_int w]
    exact .of call_abs ⟨_, rfl, sc (d := .int _) rfl (by simp [bfR]) h⟩
  · cases e
    obtain ⟨v, v', rfl, w, w'⟩ := paired2 hv
    rw [vw_int w, vw_int w']
    exact .of (call_max2 hc) ⟨_, _, rfl, sc (d := .int _) rfl (by simp [bfR]) h⟩
  · cases e
    obtain ⟨v, v', rfl, w, w'⟩ := paired2 hv
    rw [vw_int w, vw_int w']
    exact .of (call_min2 hc) ⟨_, _, rfl, sc (d := .int _) rfl (by simp [bfR]) h⟩
  · cases e
    obtain ⟨v, rfl, w⟩ := paired1 hv
    rw [vw_int w]
    exact .of call_int1 (.inl ⟨_, rfl, sc (d := .int _) rfl (by simp [bfR]) h⟩)
  · cases e
    obtain ⟨v, rfl, w⟩ := paired1 hv
    rw [vw_bl w]
    exact .of call_int1 (.inr ⟨_, rfl, sc (d := .int _) rfl (by simp [bfR]) h⟩)
  · cases e
    obtain ⟨v, rfl, w⟩ := paired1 hv
    obtain ⟨p, ws, rfl, q1, q2⟩ := vw_lst w
    exact .of call_list_of ⟨p, ws, rfl, .inl (by rw [hK]; exact q1), fun l hl => h _ _ [l] (grow_upd hl) (fresh1 hl) cell_new (rv_new s hl q2)⟩
  · cases e
    obtain ⟨v, rfl, w⟩ := paired1 hv
    obtain ⟨p, ws, rfl, q1, q2⟩ := vw_tup w
    exact .of call_list_of ⟨p, ws, rfl, .inr (by rw [hK]; exact q1), fun l hl => h _ _ [l] (grow_upd hl) (fresh1 hl) cell_new (rv_new s hl q2)⟩
  all_goals first
    | exact Bool.noConfusion hb
    | cases e
theorem isB_ok (G : Good C P X Ew Γ k) {x y : Str} (h : isB C x y = true) : x = y ∧ Gl X x ∧ X.mg x = none ∧ (x == ("__debug__" : Str)) = false := by
  simp only [isB, Bool.and_eq_true, decide_eq_true_eq] at h
  obtain ⟨g1, g2⟩ := glob_gl G h.1.2
  exact ⟨h.1.1, g1, G.bn x (by simpa using h.2), g2⟩
theorem blt_res {cs : List E} {rs : List R} {b : Bf} {e : Expr} {es : List Expr} (G : Good C P X Ew Γ k) (ha : TrA C P X Ew Γ T (e :: es) cs rs T1) (hb : bfOk b = true) (s : SR P T A env σ H Z) {Q : VK}
    (ne : evE Γ (.blt b cs) env ≠ .err) (ok : OkE P (evE Γ (.blt b cs) env) (muE (.blt b cs)) T1 (bfR b) A env σ H Z Q) (ex : ExE C P Ew (evE Γ (.blt b cs) env) (muE (.blt b cs)) A env σ H Z) :
    WA X (e :: es) σ H fun vs H1 => CW X (bfV b) vs H1 Q := by
  refine args ha s (g := fun ds env1 => .of (bltD b ds) env1) ne ex (fun j hj => hj) fun xs env1 vs H1 A1 F1 e1 eg f1 s1 t1 r1 => ?_
  have ne' := ne
  rw [show evE Γ (.blt b cs) env = _ from eg] at ne'
  obtain ⟨z, hz⟩ := of_ne ne'
  refine bltS G.K G.calm s1 hb hz (r1.views s1) fun v H3 F hk hF hc rv => ?_
  exact ok.fin (by rw [show evE Γ (.blt b cs) env = _ from eg, hz]; rfl) s1 (fun _ z => .inl z) t1 (fun j hj => hj) hk hF hc rv
theorem tr_bltF (G : Good C P X Ew Γ k) {x : Str} {p : Pos} {e : Expr} {es : List Expr} {cs : List E} {rs : List R} {b : Bf} {id : String} (hf : bfV b = .builtin id) (hb : bfOk b = true) (hv : bootBuiltins x = some (.builtin id)) (hg : Gl X x) (hm : X.mg x = none)
    (hn : x ≠ "__name__") (hd : (x == ("__debug__" : Str)) = false) (ha : TrA C P X Ew Γ T (e :: es) cs rs T1) (hst : (e :: es).all (fun e => !starred e) = true) : TrE C P X Ew Γ T (.Call (.Name x p) (e :: es) [] pos) (.blt b cs) (bfR b) T1 := by
  intro A env σ H Z Q s ne ok ex
  rw [List.all_cons, Bool.and_eq_true] at hst
  refine .of (pe_callB CW.cr hg hm hv paW hn hd (each_ok (by simpa using hst.1)) (star_ok pos hst.2)) ?_
  rw [← hf]
  exact blt_res G ha hb s ne ok ex
theorem tr_bltT (G : Good C P X Ew Γ k) {x : Str} {p : Pos} {e : Expr} {es : List Expr} {cs : List E} {rs : List R} {b : Bf} {id : String} (hf : bfV b = .type id) (hb : bfOk b = true) (hv : bootBuiltins x = some (.type id)) (hg : Gl X x) (hm : X.mg x = none)
    (hn : x ≠ "__name__") (hd : (x == ("__debug__" : Str)) = false) (ha : TrA C P X Ew Γ T (e :: es) cs rs T1) (hst : (e :: es).all (fun e => !starred e) = true) : TrE C P X Ew Γ T (.Call (.Name x p) (e :: es) [] pos) (.blt b cs) (bfR b) T1 := by
  intro A env σ H Z Q s ne ok ex
  rw [List.all_cons, Bool.and_eq_true] at hst
  refine .of (pe_callTy CW.cr hg hm hv paW hn hd (each_ok (by simpa using hst.1)) (star_ok pos hst.2)) ?_
  rw [← hf]
  exact blt_res G ha hb s ne ok ex
theorem tr_blt (G : Good C P X Ew Γ k) {x : Str} {p : Pos} {e : Expr} {es : List Expr} {cs : List E} {rs : List R} {b : Bf} {r : R} (hx : bltOf C x (es.length + 1) = some (b, r)) (ha : TrA C P X Ew Γ T (e :: es) cs rs T1) (hst : (e :: es).all (fun e => !starred e) = true) :
    TrE C P X Ew Γ T (.Call (.Name x p) (e :: es) [] pos) (.blt b cs) r T1 := by
  unfold bltOf at hx
  split at hx
  · rename_i h
    cases hx
    obtain ⟨rfl, g1, g2, g3⟩ := isB_ok G (Bool.and_eq_true_iff.mp h).1
    exact tr_bltF G (b := .len) rfl rfl (by decide +kernel) g1 g2 (by decide) g3 ha hst
  · split at hx
    · rename_i h
      cases hx
      obtain ⟨rfl, g1, g2, g3⟩ := isB_ok G (Bool.and_eq_true_iff.mp h).1
      exact tr_bltF G (b := .abs) rfl rfl (by decide +kernel) g1 g2 (by decide) g3 ha hst
    · split at hx
      · rename_i h
        cases hx
        obtain ⟨rfl, g1, g2, g3⟩ := isB_ok G (Bool.and_eq_true_iff.mp h).1
        exact tr_bltF G (b := .max) rfl rfl (by decide +kernel) g1 g2 (by decide) g3 ha hst
      · split at hx
        · rename_i h
          cases hx
          obtain ⟨rfl, g1, g2, g3⟩ := isB_ok G (Bool.and_eq_true_iff.mp h).1
          exact tr_bltF G (b := .min) rfl rfl (by decide +kernel) g1 g2 (by decide) g3 ha hst
        · split at hx
          · rename_i h
            cases hx
            obtain ⟨rfl, g1, g2, g3⟩ := isB_ok G (Bool.and_eq_true_iff.mp h).1
            exact tr_bltT G (b := .int) rfl rfl (by decide +kernel) g1 g2 (by decide) g3 ha hst
          · split at hx
            · rename_i h
              cases hx
              obtain ⟨rfl, g1, g2, g3⟩ := isB_ok G (Bool.and_eq_true_iff.mp h).1
              exact tr_bltT G (b := .list) rfl rfl (by decide +kernel) g1 g2 (by decide) g3 ha hst
            · cases hx

/-! ### isinstance -/
def tyN : D → String
  | .non => "NoneType" | .bl _ => "bool" | .int _ => "int" | .str _ => "str" | .tup _ => "tuple" | .lst _ => "list" | .dic _ _ => "dict"
  | _ => ""
def tyT : Ty → String
  | .int => "int" | .bool => "bool" | .str => "str" | .list => "list" | .tuple => "tuple" | .dict => "dict"
  | _ => ""
theorem ty_of {d : D} {v : V} (hd : dPlain d = true) (w : Vw P H Z d v) : TyX P.K H v (.type (tyN d)) := by
  cases d with
  | non => rw [vw_non w]; exact .base .non
  | bl b => rw [vw_bl w]; exact .base (.bl b)
  | int i => rw [vw_int w]; exact .base (.int i)
  | str s => rw [vw_str w]; exact .base (.str s)
  | tup ds =>
    obtain ⟨p, vs, rfl, q1, q2⟩ := vw_tup w
    rcases q1 with (q | ⟨o, q⟩) | ⟨o, _, _, q, q', _⟩
    · exact .base (.tup q)
    · exact .fTuple q
    · exact .kTuple q q'
  | lst ds =>
    obtain ⟨p, vs, rfl, q1, q2⟩ := vw_lst w
    rcases q1 with (q | ⟨o, q⟩) | ⟨o, _, _, q, q', _⟩
    · exact .base (.lst q)
    · exact .base (.frz q)
    · exact .kList q q'
  | dic ks ds =>
    obtain ⟨p, kvs, rfl, q, _⟩ := w
    rcases q with q | ⟨o, q⟩
    · exact .base (.dK q)
    · exact .fDict q
  | exc => exact Bool.noConfusion hd
  | obj => exact Bool.noConfusion hd
theorem kit_d {f : Nat → Nat → Bool} {d : D} {t : Ty} (hd : dPlain d = true) (ht : tyPlain t = true) : kitB (tyN d) (tyT t) = some (isiT f d t) := by
  cases d <;> cases t <;> first
    | exact Bool.noConfusion hd
    | exact Bool.noConfusion ht
    | (simp only [tyN, tyT, isiT]; decide +kernel)
theorem tyOf_ok (G : Good C P X Ew Γ k) {x : Str} {t : Ty} (h : tyOf C x = some t) : tyPlain t = true ∧ bootBuiltins x = some (.type (tyT t)) ∧ Gl X x ∧ X.mg x = none ∧ x ≠ "__name__" ∧ (x == ("__debug__" : Str)) = false := by
  unfold tyOf at h
  split at h
  · rename_i q
    cases h
    obtain ⟨rfl, g1, g2, g3⟩ := isB_ok G q
    exact ⟨rfl, by decide +kernel, g1, g2, by decide, g3⟩
  · split at h
    · rename_i q
      cases h
      obtain ⟨rfl, g1, g2, g3⟩ := isB_ok G q
      exact ⟨rfl, by decide +kernel, g1, g2, by decide, g3⟩
    · split at h
      · rename_i q
        cases h
        obtain ⟨rfl, g1, g2, g3⟩ := isB_ok G q
        exact ⟨rfl, by decide +kernel, g1, g2, by decide, g3⟩
      · split at h
        · rename_i q
          cases h
          obtain ⟨rfl, g1, g2, g3⟩ := isB_ok G q
          exact ⟨rfl, by decide +kernel, g1, g2, by decide, g3⟩
        · split at h
          · rename_i q
            cases h
            obtain ⟨rfl, g1, g2, g3⟩ := isB_ok G q
            exact ⟨rfl, by decide +kernel, g1, g2, by decide, g3⟩
          · split at h
            · rename_i q
              cases h
              obtain ⟨rfl, g1, g2, g3⟩ := isB_ok G q
              exact ⟨rfl, by decide +kernel, g1, g2, by decide, g3⟩
            · cases h
theorem tr_isi (G : Good C P X Ew Γ k) {x y : Str} {p p2 : Pos} {e : Expr} {a' : E} {ra : R} {t : Ty} (hx : isB C x "isinstance" = true) (ht : tyOf C y = some t) (ha : TrE C P X Ew Γ T e a' ra T1) (hst : starred e = false) :
    TrE C P X Ew Γ T (.Call (.Name x p) [e, .Name y p2] [] pos) (.isi a' [t]) .imm T1 := by
  intro A env σ H Z Q s ne ok ex
  obtain ⟨rfl, g1, g2, g3⟩ := isB_ok G hx
  obtain ⟨t1, t2, t3, t4, t5, t6⟩ := tyOf_ok G ht
  have pa : PA X [e, .Name y p2] (tCons (WE X e) (tCons (tC (.ty (tyT t))) tNil)) := pa_cons peW (pa_cons (pe_bltn t3 t4 t2 rfl t5 t6) pa_nil rfl) (each_ok hst)
  refine .of (pe_callB call_isi g1 g2 (by decide +kernel) pa (by decide) g3 (each_ok hst) rfl) ?_
  refine one ha s (g := fun x env1 => .of (isiD Γ.sup x [t]) env1) ne ex (fun j hj => hj) fun d env1 v1 H1 A1 F1 e1 eg f1 s1 tt r1 => ?_
  have w := r1.view s1
  have ne' := ne
  rw [show evE Γ (.isi a' [t]) env = _ from eg] at ne'
  obtain ⟨z, hz⟩ := of_ne ne'
  have hz' := hz
  unfold isiD at hz
  split at hz
  · rename_i hd
    cases hz
    have hd := (Bool.and_eq_true_iff.mp hd).1
    refine ⟨v1, .ty (tyT t), _, _, _, rfl, .ty _, by rw [G.K]; exact ty_of hd w, kit_ty (kit_d (f := Γ.sup) hd t1), ?_⟩
    refine ok.fin0 (z := .bl (isiT Γ.sup d t)) ?_ s1 (fun _ z => .inl z) tt (fun j hj => hj) (rv_scal (d := .bl _) rfl (fun i => by simp))
    rw [show evE Γ (.isi a' [t]) env = _ from eg, hz']
    simp [Out.of]
  · cases hz

/-! ### changes of a list -/
theorem fc_keep1 {l : Addr} {o : HO} (a : Addr) (u : HO) (e : H a = some u) (n : a ≠ l) : upd H l o a = some u := by rw [upd_ne n]; exact e
/-- slot i's own list is written -/
theorem SR.write {i : Nat} {l : Addr} {d' : D} {o : HO} (s : SR P T A env σ H Z) (hT : T[i]? = some .top) (hi : i < env.length) (hσ : σ[i]? = some (some (.ref l))) (hA : A i = [l]) (ho : isCell o = true)
    (hn : Own P (upd H l o) (W Z A) .top d' (.ref l) [l]) : SR P T A (env.set i (some d')) σ (upd H l o) Z where
  ls := by rw [List.length_set]; exact s.ls
  lt := by rw [List.length_set]; exact s.lt
  val := fun j m d h1 h2 => by
    by_cases e : i = j
    · subst e
      rw [List.getElem?_set_self hi] at h2
      cases h2
      rw [hT] at h1
      cases h1
      exact ⟨_, hσ, by rw [hA]; exact hn⟩
    · rw [List.getElem?_set_ne e] at h2
      obtain ⟨v, e1, q⟩ := s.val j m d h1 h2
      refine ⟨v, e1, q.frame (fun a u ea n => fc_keep1 a u ea fun z => ?_) fun _ _ n => n⟩
      subst z
      have hl : a ∈ A i := by rw [hA]; simp
      rcases n with n | n
      · exact n (.inr ⟨i, hl⟩)
      · exact s.dj i j a e hl n
  emp := fun j h => by
    by_cases e : i = j
    · subst e
      exact absurd (List.getElem?_set_self hi) (h _)
    · exact s.emp j fun d q => h d (by rw [List.getElem?_set_ne e]; exact q)
  dj := s.dj
  zA := s.zA
  zc := fun a z => by
    obtain ⟨u, e, q⟩ := s.zc a z
    refine ⟨u, fc_keep1 a u e fun x => ?_, q⟩
    subst x
    exact s.zA i a (by rw [hA]; simp) z
theorem Stp.write {i : Nat} {l : Addr} {d' : D} {o : HO} (hA : A i = [l]) : Stp [i] A H env A (upd H l o) (env.set i (some d')) where
  keep := fun a u e n => fc_keep1 a u e fun z => n i (by simp) (by rw [hA, z]; simp)
  thr := fun a e => by
    by_cases z : a = l
    · subst z; rw [upd_same]; exact fun z => nomatch z
    · rw [upd_ne z]; exact e
  same := fun j hj => List.getElem?_set_ne (fun e => hj (by simp [e]))
  foot := fun _ _ h => .inl h
  len := List.length_set
theorem own_lst {ds : List D} {v : V} {F : List Addr} (h : Own P H Z .top (.lst ds) v F) : ∃ a vs, v = .ref a ∧ F = [a] ∧ H a = some (.lst vs) ∧ Reps P H Z ds vs := h
theorem reps_upd {ds : List D} {vs : List V} {l : Addr} {o : HO} {i : Nat} (hA : A i = [l]) (h : Reps P H (W Z A) ds vs) : Reps P (upd H l o) (W Z A) ds vs :=
  Reps.frame (fun a u e n => fc_keep1 a u e fun z => n (.inr ⟨i, by rw [hA, z]; simp⟩)) (fun _ _ n => n) _ _ h
def MW (X : Cx) (id : String) (x : V) (vs : List V) (H : Hp) (Q : VK) : Prop := ∀ (pins : List (Addr × Obj)) (s : Shared) (σ : L2.St) (v : Value) (us : List Value), Inv X pins σ H s → RelV x v → Vals vs us → wpAny (model X.prog X.w) X.A (call (.builtin id) (v :: us)) (EP X pins σ Q) X.xe s
theorem MW.mt {X : Cx} {id : String} : MtR X id (MW X id) := fun pins s σ H x vs v us Q I rx rv q => q pins s σ v us I rx rv
theorem MW.of {X : Cx} {id : String} {r : V → List V → Hp → VK → Prop} (h : MtR X id r) {x : V} {vs : List V} {H : Hp} {Q : VK} (q : r x vs H Q) : MW X id x vs H Q := fun pins s σ v us I rx rv => h pins s σ H x vs v us Q I rx rv q
def muId : Mu → String
  | .append => "list.append" | .pop => "list.pop" | .clear => "list.clear" | .remove => "list.remove" | .reverse => "list.reverse"
def muR : Mu → R
  | .pop => .sh
  | _ => .imm
theorem mutS {i : Nat} {m : Mu} {d d' r : D} {ds : List D} {v : V} {vs : List V} {Q : VK} (s : SR P T A env σ H Z) (hT : T[i]? = some .top) (hd : env[i]? = some (some d)) (hv : σ[i]? = some (some v)) (hk : kindD d = 1) (e : mutD m d ds = some (r, d')) (hr : Reps P H (W Z A) ds vs)
    (h : ∀ v' H', SR P T A (env.set i (some d')) σ H' Z → Stp [i] A H env A H' (env.set i (some d')) → RV P (muR m) r v' [] A (env.set i (some d')) σ H' Z → Q v' H') : MW X (muId m) v vs H Q := by
  have hi : i < env.length := (List.getElem?_eq_some_iff.mp hd).1
  obtain ⟨v', e1, o⟩ := s.val i .top d hT hd
  rw [hv] at e1
  cases e1
  have go : ∀ {l : Addr} {vs0 vs1 : List V} {ds1 : List D} {w : V}, v = .ref l → A i = [l] → H l = some (.lst vs0) → d' = .lst ds1 → Reps P H (W Z A) ds1 vs1 → RV P (muR m) r w [] A env σ H Z → (∀ j, muR m ≠ .bor j) → (muR m ≠ .top) → Q w (upd H l (.lst vs1)) := fun {l vs0 vs1 ds1 w} ev eA eH ed hR rv nb nt => by
    subst ev ed
    have hR' := reps_upd (o := .lst vs1) eA hR
    refine h _ _ (s.write hT hi hv eA rfl ⟨l, vs1, rfl, rfl, upd_same, hR'⟩) (Stp.write eA) ?_
    have fr : ∀ {x : D} {y : V}, Rep P H (W Z A) x y → Rep P (upd H l (.lst vs1)) (W Z A) x y := fun q => Rep.frame (fun a u e n => fc_keep1 a u e fun z => n (.inr ⟨i, by rw [eA, z]; simp⟩)) (fun _ _ n => n) _ _ q
    cases hm : muR m with
    | imm => rw [hm] at rv; exact ⟨rv.1, rv.2.1, fr rv.2.2⟩
    | sh => rw [hm] at rv; exact ⟨rv.1, fr rv.2⟩
    | top => exact absurd hm nt
    | bor j => exact absurd hm (nb j)
  unfold mutD at e
  split at e
  · split at e
    · rename_i xs x hl
      cases e
      obtain ⟨l, ws, rfl, eF, eH, eR⟩ := own_lst o
      obtain ⟨y, r', rfl, q1, q2⟩ := hr
      obtain rfl := (show r' = [] from q2)
      have hl' : xs.length < sizeLine := of_decide_eq_true hl
      rw [eR.length] at hl'
      exact .of mt_append ⟨l, ws, y, rfl, rfl, eH, hl', go rfl eF eH rfl (eR.append (.one q1)) (rv_scal (d := .non) rfl (fun j => by simp [muR])) (fun j => by simp [muR]) (by simp [muR])⟩
    · cases e
  · split at e
    · rename_i xs y hy
      cases e
      obtain ⟨l, ws, rfl, eF, eH, eR⟩ := own_lst o
      obtain rfl := (show vs = [] from hr)
      obtain ⟨w, h1, h2⟩ := eR.get hy
      have hl := eR.length
      refine .of mt_pop ⟨l, ws, w, rfl, rfl, eH, by rw [← hl]; exact h1, ?_⟩
      refine go rfl eF eH rfl ?_ ⟨rfl, h2⟩ (fun j => by simp [muR]) (by simp [muR])
      rw [List.dropLast_eq_take, List.dropLast_eq_take, hl]
      exact eR.take _
    · cases e
  · split at e
    · rename_i xs j hj
      have hj' : -(2 ^ 63) ≤ j ∧ j < 2 ^ 63 := of_decide_eq_true hj
      split at e
      · rename_i k hk'
        split at e
        · rename_i y hy
          cases e
          obtain ⟨l, ws, rfl, eF, eH, eR⟩ := own_lst o
          obtain ⟨y', r', rfl, q1, q2⟩ := hr
          obtain rfl := (show r' = [] from q2)
          obtain rfl := (show y' = .int j from q1)
          obtain ⟨w, h1, h2⟩ := eR.get hy
          have hl := eR.length
          refine .of mt_popAt ⟨l, ws, j, k, w, rfl, rfl, eH, hj'.1, hj'.2, by rw [← hl]; exact hk', h1, ?_⟩
          refine go rfl eF eH rfl ?_ ⟨rfl, h2⟩ (fun j => by simp [muR]) (by simp [muR])
          rw [List.eraseIdx_eq_take_drop_succ, List.eraseIdx_eq_take_drop_succ]
          exact (eR.take _).append (eR.drop _)
        · cases e
      · cases e
    · cases e
  · cases e
    obtain ⟨l, ws, rfl, eF, eH, eR⟩ := own_lst o
    obtain rfl := (show vs = [] from hr)
    exact .of mt_clear ⟨l, ws, rfl, rfl, eH, go (ds1 := []) rfl eF eH rfl rfl (rv_scal (d := .non) rfl (fun j => by simp [muR])) (fun j => by simp [muR]) (by simp [muR])⟩
  · cases e
    obtain ⟨l, ws, rfl, eF, eH, eR⟩ := own_lst o
    obtain rfl := (show vs = [] from hr)
    refine .of mt_reverse ⟨l, ws, rfl, rfl, eH, go rfl eF eH rfl ?_ (rv_scal (d := .non) rfl (fun j => by simp [muR])) (fun j => by simp [muR]) (by simp [muR])⟩
    exact Reps.rev eR
  · cases e
end
end Fc
end

section
/-! Soundness: methods of texts and lists, lists repeated, turned, displays. -/
namespace Fc
open PySem L2 PySem.Spec
open PyProof.Rows hiding St
section
variable {C : Ctx} {P : GP} {X : Cx} {Ew : L2.St → XK} {Γ : Gam} {k : Nat}
variable {T T' T1 T2 T3 : List M} {A A1 A2 A' : Ft} {env env1 env2 env' : Env} {σ : L2.St} {H H1 H2 H3 H' : Hp} {Z Z1 Z2 Z' : AS} {mu mu1 mu2 : List Nat} {pos : Pos}
theorem base_ok {o : Expr} {m : Str} {E : PySem.Env} {w : Sem Value} (h : baseOk o = true) : attributeBase o m E w = w := by
  unfold attributeBase
  split
  · exact Bool.noConfusion h
  · rfl
theorem Reps.flat_rep {vs : List V} {ds : List D} (h : Reps P H Z ds vs) : ∀ n : Nat, Reps P H Z (List.replicate n ds).flatten (List.replicate n vs).flatten
  | 0 => rfl
  | n + 1 => by
    rw [List.replicate_succ, List.replicate_succ, List.flatten_cons, List.flatten_cons]
    exact Reps.append h (Reps.flat_rep h n)
theorem tr_rep (G : Good C P X Ew Γ k) {a b : Expr} {a' b' : E} {rb : R} (ha : TrE C P X Ew Γ T a a' .top T1) (hb : TrE C P X Ew Γ T1 b b' rb T2) :
    TrE C P X Ew Γ T (.BinOp a .Mult b pos) (.rep a' b') .top T2 := by
  intro A env σ H Z Q s ne ok ex
  have ne0 : ((evE Γ a' env).bind fun x env1 => (evE Γ b' env1).bind fun y env2 => Out.of (repD x y) env2) ≠ .err := ne
  refine we_bin (ha A env σ H Z _ s (bind_ne ne0) (fun x env1 e1 v1 H1 A1 F1 f1 s1 t1 r1 => ?_) (ExE.sub (o2 := evE Γ a' env) ex (Stp.refl) (fun x e' e => bind_exn e) (fun j hj => by simp at hj; exact List.mem_append_left _ hj) fun _ z => z))
  rw [bind_ok e1] at ne0
  refine hb A1 env1 σ H1 (Zf Z F1) _ s1 (bind_ne ne0) (fun y env2 e2 v2 H2 A2 F2 f2 s2 t2 r2 => ?_) (ExE.sub (o2 := evE Γ b' env1) ex t1 (fun x e' e => by
    show ((evE Γ a' env).bind fun x env1 => (evE Γ b' env1).bind fun y env2 => Out.of (repD x y) env2) = _
    rw [bind_ok e1]; exact bind_exn e) (fun j hj => hj) fun _ z => .inl z)
  rw [bind_ok e2] at ne0
  obtain ⟨z, hz⟩ := of_ne ne0
  have r1' := r1.step (G := F2) t2 rfl (fun a ha j q => s1.zA j a q (.inr ha)) f2
  have w2 := r2.view s2
  unfold repD at hz
  split at hz
  · split at hz
    · rename_i xs i hc
      cases hz
      obtain ⟨p, vs, rfl, rfl, q1, q2⟩ := own_lst r1'
      obtain ⟨c1, c2, c3⟩ := of_decide_eq_true hc
      rw [q2.length] at c3
      rw [vw_int w2]
      refine .of op_rep ⟨p, i, vs, rfl, rfl, q1, c1, c2, c3, fun q hq => ?_⟩
      have ev : evE Γ (.rep a' b') env = .ok (.lst (List.replicate i.toNat xs).flatten) env2 := by
        show ((evE Γ a' env).bind fun x env1 => (evE Γ b' env1).bind fun y env2 => Out.of (repD x y) env2) = _
        rw [bind_ok e1, bind_ok e2]
        show Out.of (if decide (-(2 ^ 63) ≤ i ∧ i < 2 ^ 63 ∧ xs.length * i.toNat ≤ sizeLine) then some (D.lst (List.replicate i.toNat xs).flatten) else none) env2 = _
        rw [if_pos hc]
        rfl
      exact ok.fin (F := [q]) ev s2 (fun a z => .inl (.inl z)) (t1.trans t2) (fun j hj => hj) (grow_upd hq) (fresh1 hq) cell_new (rv_new s2 hq (q2.flat_rep _))
    · cases hz
  · cases hz
theorem tr_rev (G : Good C P X Ew Γ k) {a : Expr} {a' : E} {ra : R} {kk : Nat} {p1 p2 p3 : Pos} (ha : TrE C P X Ew Γ T a a' ra T1) :
    TrE C P X Ew Γ T (.Subscript a (.Slice none none (some (.UnaryOp .USub (.Constant (.int 1) kk p1) p2)) p3) pos) (.rev a') .top T1 := by
  intro A env σ H Z Q s ne ok ex
  refine .of (pe_revL peW) ?_
  refine one ha s (g := fun x env1 => .of (revD x) env1) ne ex (fun j hj => hj) fun x env1 v1 H1 A1 F1 e1 eg f1 s1 t1 r1 => ?_
  have ne' := ne
  rw [show evE Γ (.rev a') env = _ from eg] at ne'
  have w := r1.view s1
  cases x with
  | lst xs =>
    obtain ⟨p, vs, rfl, q1, q2⟩ := vw_lst w
    refine ⟨p, vs, rfl, by rw [G.K]; exact q1, fun q hq => ?_⟩
    exact ok.fin (F := [q]) eg s1 (fun _ z => .inl z) t1 (fun j hj => hj) (grow_upd hq) (fresh1 hq) cell_new (rv_new s1 hq q2.rev)
  | _ => exact absurd rfl ne'
/-! ### methods -/
theorem strs_v : ∀ {ds : List D} {ys : List Str} {vs : List V}, strsD ds = some ys → Reps P H Z ds vs → vs = ys.map V.str
  | [], ys, vs, e, h => by cases e; exact h
  | .str s :: ds, ys, vs, e, h => by
    obtain ⟨v, r, rfl, h1, h2⟩ := h
    obtain ⟨zs, e1, rfl⟩ := Option.map_eq_some_iff.mp e
    rw [strs_v e1 h2]
    obtain rfl := (show v = .str s from h1)
    rfl
  | .non :: _, _, _, e, _ => by cases e
  | .bl _ :: _, _, _, e, _ => by cases e
  | .int _ :: _, _, _, e, _ => by cases e
  | .tup _ :: _, _, _, e, _ => by cases e
  | .lst _ :: _, _, _, e, _ => by cases e
  | .dic _ _ :: _, _, _, e, _ => by cases e
  | .exc _ _ _ :: _, _, _, e, _ => by cases e
  | .obj _ _ _ :: _, _, _, e, _ => by cases e
theorem ints_d : ∀ {ds : List D} {ys : List Int}, getInts ds = some ys → ds = ys.map .int
  | [], ys, e => by cases e; rfl
  | .int s :: ds, ys, e => by
    obtain ⟨zs, e1, rfl⟩ := Option.map_eq_some_iff.mp e
    rw [ints_d e1]
    rfl
  | .non :: _, _, e => by cases e
  | .bl _ :: _, _, e => by cases e
  | .str _ :: _, _, e => by cases e
  | .tup _ :: _, _, e => by cases e
  | .lst _ :: _, _, e => by cases e
  | .dic _ _ :: _, _, e => by cases e
  | .exc _ _ _ :: _, _, e => by cases e
  | .obj _ _ _ :: _, _, e => by cases e
theorem bls_d : ∀ {ds : List D} {ys : List Bool}, getBls ds = some ys → ds = ys.map .bl
  | [], ys, e => by cases e; rfl
  | .bl s :: ds, ys, e => by
    obtain ⟨zs, e1, rfl⟩ := Option.map_eq_some_iff.mp e
    rw [bls_d e1]
    rfl
  | .non :: _, _, e => by cases e
  | .int _ :: _, _, e => by cases e
  | .str _ :: _, _, e => by cases e
  | .tup _ :: _, _, e => by cases e
  | .lst _ :: _, _, e => by cases e
  | .dic _ _ :: _, _, e => by cases e
  | .exc _ _ _ :: _, _, e => by cases e
  | .obj _ _ _ :: _, _, e => by cases e
theorem reps_ints : ∀ {ys : List Int} {vs : List V}, Reps P H Z (ys.map .int) vs → vs = ys.map V.int
  | [], vs, h => h
  | y :: ys, vs, h => by
    obtain ⟨v, r, rfl, h1, h2⟩ := h
    rw [reps_ints h2]
    obtain rfl := (show v = .int y from h1)
    rfl
theorem reps_bls : ∀ {ys : List Bool} {vs : List V}, Reps P H Z (ys.map .bl) vs → vs = ys.map V.bl
  | [], vs, h => h
  | y :: ys, vs, h => by
    obtain ⟨v, r, rfl, h1, h2⟩ := h
    rw [reps_bls h2]
    obtain rfl := (show v = .bl y from h1)
    rfl
theorem reps_of_ints : ∀ (ys : List Int), Reps P H Z (ys.map .int) (ys.map V.int)
  | [] => rfl
  | y :: ys => ⟨_, _, rfl, rfl, reps_of_ints ys⟩
theorem reps_of_strs : ∀ (ys : List Str), Reps P H Z (ys.map .str) (ys.map V.str)
  | [] => rfl
  | y :: ys => ⟨_, _, rfl, rfl, reps_of_strs ys⟩
def mfR : Mf → R
  | .split => .top
  | _ => .imm
/-- what a method's rule wants, without the receiver's type -/
def MthW (X : Cx) (m : Mf) (v : V) (vs : List V) (H : Hp) (Q : VK) : Prop :=
  match m with
  | .join => MW X "str.join" v vs H Q | .split => MW X "str.split" v vs H Q | .partition => MW X "str.partition" v vs H Q | .isdigit => MW X "str.isdigit" v vs H Q
  | .index => MW X "list.index" v vs H Q | .count => MW X "list.count" v vs H Q | .get => False
theorem posF_at {x : D} : ∀ {ys : List D} {j : Nat}, posF x ys = some j → (∃ y, ys[j]? = some y ∧ eqF y x = true) ∧ ∀ m y, m < j → ys[m]? = some y → eqF y x = false
  | [], j, h => by cases h
  | y :: ys, j, h => by
    unfold posF at h
    split at h
    · rename_i hy
      cases h
      exact ⟨⟨y, rfl, hy⟩, fun m _ hm => absurd hm (Nat.not_lt_zero _)⟩
    · rename_i hy
      obtain ⟨i, e, rfl⟩ := Option.map_eq_some_iff.mp h
      obtain ⟨⟨z, h1, h2⟩, h3⟩ := posF_at e
      refine ⟨⟨z, by simpa using h1, h2⟩, fun m w hm hw => ?_⟩
      cases m with
      | zero =>
        have : y = w := by simpa using hw
        subst this
        cases q : eqF y x with
        | false => rfl
        | true => exact absurd q hy
      | succ m => exact h3 m w (by omega) (by simpa using hw)
theorem cnt_v {x : D} (h : x.flat = true) : ∀ {ys : List D} {vs : List V} {its : List Value} {w : Value}, ys.all D.flat = true → vs = ys.map scV → Vals vs its → RelV (scV x) w → its.countP (eqU (scV x)) = cntF x ys
  | [], _, _, _, _, rfl, .nil, _ => rfl
  | y :: ys, _, u :: us, _, e, rfl, .cons r rs, hw => by
    rw [List.all_cons, Bool.and_eq_true] at e
    have ih := cnt_v h e.2 rfl rs hw
    have e1 : eqU (scV x) u = eqF y x := by rw [eqU_of r (flat_v e.1), eqF_v e.1 h]
    rw [List.countP_cons, ih, e1]
    unfold cntF
    rw [List.filter_cons]
    cases eqF y x <;> simp
/-- xs.count(y), flat things -/
theorem mt_countF : MtR X "list.count" (fun x xs H Q => ∃ (a : Addr) (ys : List V) (y : V) (n : Nat), x = V.ref a ∧ xs = [y] ∧ SqL X.K H a ys ∧ flatV y = true ∧ ys.all flatV = true ∧ (∀ its, Vals ys its → its.countP (eqU y) = n) ∧ Q (.int (n : Nat)) H) := by
  intro pins s σ H x xs v us Q I rx rxs h
  obtain ⟨a, ys, y, n0, rfl, rfl, hs, fy, fys, hn, q⟩ := h
  cases rx
  cases rxs with
  | cons ry rt =>
    rename_i uy ut
    cases rt
    obtain ⟨its, rv, ⟨⟨cls, dd, data, sl⟩, n, ho, hc, hdn, hd⟩, hlen⟩ := I.list hs
    simp only at hc hd
    subst hc hd
    refine call_meets PySem.F.slot_list_count ⟨_, ho, rfl⟩ PySem.F.entry_list_count (PySem.F.args_list_count_2 _ _)
      (SeqAt.list_countAt a its.toArray n dd sl uy (eqU y)) ⟨ho, fun u' hu' => mem_eqAt ry fy rv fys u' (by simpa using hu'), ?_⟩
    refine ⟨.int (n0 : Nat), H, I.tok _, ⟨s.toks, ?_⟩, q⟩
    show Value.int ((its.toArray.toList.countP (eqU y) : Nat) : Int) s.toks = Value.int ((n0 : Nat) : Int) s.toks
    rw [show its.toArray.toList = its from by simp, hn its rv]
theorem mthS (hK : X.K = P.K) (s : SR P T A env σ H Z) {m : Mf} {x z : D} {ds : List D} {v : V} {vs : List V} {Q : VK} (e : mthD m x ds = some z) (hx : Vw P H (W Z A) x v) (hv : Paired (fun d v => Vw P H (W Z A) d v) ds vs)
    (h : Res P (mfR m) z A env σ H Z Q) : MthW X m v vs H Q := by
  have sc : ∀ {d : D}, d.scal = true → mfR m ≠ .top → Res P (mfR m) d A env σ H Z Q → Q (scV d) H := fun hd _ h => h.sc hd (fun i => by cases m <;> simp [mfR])
  unfold mthD at e
  split at e
  · split at e
    · rename_i ys hy
      split at e
      · rename_i hl
        cases e
        obtain ⟨w, rfl, q⟩ := paired1 hv
        obtain ⟨p, ws, rfl, q1, q2⟩ := vw_lst q
        have ew := strs_v hy q2
        subst ew
        rw [vw_str hx]
        exact .of mt_join ⟨_, p, ys, rfl, rfl, .inl (by rw [hK]; exact q1), of_decide_eq_true hl, sc (d := .str _) rfl (by simp [mfR]) h⟩
      · cases e
    · cases e
  · split at e
    · rename_i a b hl
      cases e
      obtain ⟨w, rfl, q⟩ := paired1 hv
      rw [vw_str hx, vw_str q]
      rw [Bool.and_eq_true] at hl
      refine .of mt_split ⟨a, b, rfl, rfl, by simpa using hl.1, of_decide_eq_true hl.2, fun p hp => ?_⟩
      exact h _ _ [p] (grow_upd hp) (fresh1 hp) cell_new (rv_new s hp (reps_of_strs _))
    · cases e
  · split at e
    · rename_i a b hl
      cases e
      obtain ⟨w, rfl, q⟩ := paired1 hv
      rw [vw_str hx, vw_str q]
      rw [Bool.and_eq_true] at hl
      refine .of mt_partition ⟨a, b, rfl, rfl, by simpa using hl.1, of_decide_eq_true hl.2, fun p hp => ?_⟩
      refine h _ _ [] (grow_upd hp) none1 none1 ⟨rfl, rfl, ?_⟩
      have := rep_newT s hp (reps_of_strs [(Txt.partition a b).1, (Txt.partition a b).2.1, (Txt.partition a b).2.2])
      exact Rep.less (fun a z => z.imp (fun q => q.elim id fun x => absurd x (by simp)) id) this
    · cases e
  · cases e
    have : vs = [] := by cases hv; rfl
    subst this
    rw [vw_str hx]
    exact .of mt_isdigit ⟨_, rfl, rfl, trivial, sc (d := .bl _) rfl (by simp [mfR]) h⟩
  · split at e
    · rename_i xs y hf
      rw [Bool.and_eq_true] at hf
      obtain ⟨j, hj, rfl⟩ := Option.map_eq_some_iff.mp e
      obtain ⟨w, rfl, q⟩ := paired1 hv
      obtain ⟨p, ws, rfl, q1, q2⟩ := vw_lst hx
      have ev := vw_scal (flat_scal hf.1) q
      have es := reps_flat q2 hf.2
      subst ev es
      obtain ⟨⟨y', h1, h2⟩, h3⟩ := posF_at hj
      have fy' : y'.flat = true := List.all_eq_true.mp hf.2 _ (List.mem_of_getElem? h1)
      refine .of mt_index ⟨p, _, _, j, scV y', rfl, rfl, by rw [hK]; exact q1, flat_v hf.1, all_flatV hf.2, by rw [List.getElem?_map, h1]; rfl, by rw [eqF_v fy' hf.1]; exact h2, fun m z' hm hz' => ?_, sc (d := .int _) rfl (by simp [mfR]) h⟩
      rw [List.getElem?_map] at hz'
      obtain ⟨y2, g1, rfl⟩ := Option.map_eq_some_iff.mp hz'
      rw [eqF_v (List.all_eq_true.mp hf.2 _ (List.mem_of_getElem? g1)) hf.1]
      exact h3 m y2 hm g1
    · cases e
  · split at e
    · rename_i xs y hf
      rw [Bool.and_eq_true] at hf
      cases e
      obtain ⟨w, rfl, q⟩ := paired1 hv
      obtain ⟨p, ws, rfl, q1, q2⟩ := vw_lst hx
      have ev := vw_scal (flat_scal hf.1) q
      have es := reps_flat q2 hf.2
      subst ev es
      have hr : ∃ w, RelV (scV y) w := by
        cases y <;> first | exact Bool.noConfusion hf.1 | exact ⟨.none, rfl⟩ | exact ⟨.bool _, rfl⟩ | exact ⟨.int _ 0, 0, rfl⟩ | exact ⟨.str _ 0, 0, rfl⟩
      obtain ⟨w, hw⟩ := hr
      exact .of mt_countF ⟨p, _, _, cntF y xs, rfl, rfl, by rw [hK]; exact q1, flat_v hf.1, all_flatV hf.2, fun its rv => cnt_v hf.1 hf.2 rfl rv hw, sc (d := .int _) rfl (by simp [mfR]) h⟩
    · cases e
  · cases e
theorem tr_mth0 (G : Good C P X Ew Γ k) {o : Expr} {a' : E} {ra : R} {m : Str} {mf : Mf} {r : R} {apos cpos : Pos} (hm : mtOf m 0 = some (mf, r)) (ho : TrE C P X Ew Γ T o a' ra T1) (hb : baseOk o = true) (hl : apos.endLine = cpos.line) :
    TrE C P X Ew Γ T (.Call (.Attribute o m apos) [] [] cpos) (.mth mf a' []) r T1 := by
  intro A env σ H Z Q s ne ok ex
  have hm' : m = "isdigit" ∧ mf = .isdigit ∧ r = .imm := by
    unfold mtOf at hm
    split at hm
    · rename_i h; exact absurd h.2 (by decide)
    · split at hm
      · rename_i h; exact absurd h.2 (by decide)
      · split at hm
        · rename_i h; exact absurd h.2 (by decide)
        · split at hm
          · rename_i h; cases hm; exact ⟨h.1, rfl, rfl⟩
          · split at hm
            · rename_i h; exact absurd h.2 (by decide)
            · split at hm
              · rename_i h; exact absurd h.2 (by decide)
              · cases hm
  obtain ⟨rfl, rfl, rfl⟩ := hm'
  refine .of (pe_m0 (r := fun v vs H Q => MW X "str.isdigit" v vs H Q) PySem.F.slot_str_isdigit PySem.F.type_str_isdigit MW.mt peW (base_ok hb) (by simpa using hl)) ?_
  refine one ho s (g := fun x env1 => whenK (mthT .isdigit x) ((evEs Γ [] env1).bind fun ds env2 => .of (mthD .isdigit x ds) env2)) ne ex (fun j hj => by simpa [muE, muEs] using hj) fun x env1 v1 H1 A1 F1 e1 eg f1 s1 t1 r1 => ?_
  have ne' := ne
  rw [show evE Γ (.mth .isdigit a' []) env = _ from eg] at ne'
  have w := r1.view s1
  cases x with
  | str a =>
    refine ⟨⟨a, vw_str w⟩, ?_⟩
    exact mthS G.K s1 (m := .isdigit) (x := .str a) (ds := []) rfl w .nil fun v H3 F hk hF hc rv => ok.fin eg s1 (fun _ z => .inl z) t1 (fun j hj => by simpa [muE, muEs] using hj) hk hF hc rv
  | _ => exact absurd rfl ne'
/-- a receiver, an argument -/
theorem mth_run (G : Good C P X Ew Γ k) {a b : Expr} {a' b' : E} {ra rb : R} {mf : Mf} {r : R} (ha : TrE C P X Ew Γ T a a' ra T1) (hb : TrE C P X Ew Γ T1 b b' rb T2) (hn : okNexts ra [b'] = true) (s : SR P T A env σ H Z) {Q : VK} (hr : r = mfR mf)
    (ne : evE Γ (.mth mf a' [b']) env ≠ .err) (ok : OkE P (evE Γ (.mth mf a' [b']) env) (muE (.mth mf a' [b'])) T2 r A env σ H Z Q) (ex : ExE C P Ew (evE Γ (.mth mf a' [b']) env) (muE (.mth mf a' [b'])) A env σ H Z) :
    WE X a σ H fun v H1 => (∃ d W, mthT mf d = true ∧ Vw P H1 W d v) ∧ WE X b σ H1 fun w H2 => MthW X mf v [w] H2 Q := by
  have hn' : okNext ra b' = true := by
    unfold okNexts muEs muEs at hn
    unfold okNext
    simpa using hn
  have e0 : evE Γ (.mth mf a' [b']) env = (evE Γ a' env).bind fun x env1 => whenK (mthT mf x) ((evEs Γ [b'] env1).bind fun ds env2 => .of (mthD mf x ds) env2) := rfl
  have hmu : ∀ j, j ∈ muE a' ++ muE b' ↔ j ∈ muE (.mth mf a' [b']) := fun j => by simp [muE, muEs]
  rw [e0] at ne ok ex
  refine ha A env σ H Z _ s (bind_ne ne) (fun x env1 e1 v1 H1 A1 F1 f1 s1 t1 r1 => ?_) (ex.sub (Stp.refl) (fun x e' e => bind_exn e) (fun j hj => (hmu j).mp (List.mem_append_left _ (by simpa using hj))) fun _ z => z)
  rw [bind_ok e1] at ne ok ex
  cases hk : mthT mf x with
  | false => rw [hk] at ne; exact absurd rfl ne
  | true =>
    rw [hk] at ne ok ex
    refine ⟨⟨x, _, hk, r1.view s1⟩, ?_⟩
    have e2' : (evEs Γ [b'] env1).bind (fun ds env2 => Out.of (mthD mf x ds) env2) = (evE Γ b' env1).bind fun y env2 => .of (mthD mf x [y]) env2 := by
      show ((evE Γ b' env1).bind fun y env2 => (Out.ok [] env2).bind fun xs env3 => Out.ok (y :: xs) env3).bind _ = _
      cases evE Γ b' env1 <;> rfl
    have e3 : whenK true ((evEs Γ [b'] env1).bind fun ds env2 => Out.of (mthD mf x ds) env2) = (evE Γ b' env1).bind fun y env2 => .of (mthD mf x [y]) env2 := e2'
    rw [e3] at ne ok ex
    refine hb A1 env1 σ H1 (Zf Z F1) _ s1 (bind_ne ne) (fun y env2 e2 v2 H2 A2 F2 f2 s2 t2 r2 => ?_) (ex.sub t1 (fun x e' e => bind_exn e) (fun j hj => (hmu j).mp hj) fun _ z => .inl z)
    rw [bind_ok e2] at ne ok ex
    obtain ⟨z, hz⟩ := of_ne ne
    have r1' := r1.step (G := F2) t2 hn' (fun a ha j q => s1.zA j a q (.inr ha)) f2
    subst hr
    refine mthS G.K s2 hz (r1'.view s2) (.cons (r2.view s2) .nil) fun v H3 F hk hF hc rv => ?_
    exact ok.fin (by rw [hz]; rfl) s2 (fun a z => .inl (.inl z)) (t1.trans t2) (fun j hj => (hmu j).mp hj) hk hF hc rv
theorem mtOf1 {m : Str} {mf : Mf} {r : R} (hm : mtOf m 1 = some (mf, r)) : r = mfR mf ∧ ((m = "join" ∧ mf = .join) ∨ (m = "split" ∧ mf = .split) ∨ (m = "partition" ∧ mf = .partition) ∨ (m = "index" ∧ mf = .index) ∨ (m = "count" ∧ mf = .count)) := by
  unfold mtOf at hm
  split at hm
  · rename_i h; cases hm; exact ⟨rfl, .inl ⟨h.1, rfl⟩⟩
  · split at hm
    · rename_i h; cases hm; exact ⟨rfl, .inr (.inl ⟨h.1, rfl⟩)⟩
    · split at hm
      · rename_i h; cases hm; exact ⟨rfl, .inr (.inr (.inl ⟨h.1, rfl⟩))⟩
      · split at hm
        · rename_i h; exact absurd h.2 (by decide)
        · split at hm
          · rename_i h; cases hm; exact ⟨rfl, .inr (.inr (.inr (.inl ⟨h.1, rfl⟩)))⟩
          · split at hm
            · rename_i h; cases hm; exact ⟨rfl, .inr (.inr (.inr (.inr ⟨h.1, rfl⟩)))⟩
            · cases hm
theorem str_of_mth {mf : Mf} {d : D} {v : V} {W : AS} (h : mthT mf d = true) (w : Vw P H W d v) (hm : mf = .join ∨ mf = .split ∨ mf = .partition) : ∃ a, v = .str a := by
  rcases hm with rfl | rfl | rfl <;> (cases d <;> first | exact Bool.noConfusion h | exact ⟨_, vw_str w⟩)
theorem lst_of_mth {mf : Mf} {d : D} {v : V} {W : AS} (hK : X.K = P.K) (h : mthT mf d = true) (w : Vw P H W d v) (hm : mf = .index ∨ mf = .count) : tyV X.K "list" v H := by
  have : ∃ ds, d = .lst ds := by
    rcases hm with rfl | rfl <;> (cases d <;> first | exact Bool.noConfusion h | exact ⟨_, rfl⟩)
  obtain ⟨ds, rfl⟩ := this
  obtain ⟨p, vs, rfl, q1, q2⟩ := vw_lst w
  exact .inl ⟨rfl, vs, by rw [hK]; exact q1⟩
theorem WE.imp {e : Expr} {K K' : VK} (h : WE X e σ H K) (q : ∀ v H1, K v H1 → K' v H1) : WE X e σ H K' := fun pins s I =>
  wpAny_mono (h pins s I) (fun u s' ⟨v, H', I', r, k⟩ => ⟨v, H', I', r, q v H' k⟩) fun _ _ x => x
theorem tr_mth1 (G : Good C P X Ew Γ k) {a b : Expr} {a' b' : E} {ra rb : R} {m : Str} {mf : Mf} {r : R} {apos cpos : Pos} (hm : mtOf m 1 = some (mf, r)) (ha : TrE C P X Ew Γ T a a' ra T1) (hb : TrE C P X Ew Γ T1 b b' rb T2) (hn : okNexts ra [b'] = true) (hbs : baseOk a = true) (hst : starred b = false)
    (hl : apos.endLine = cpos.line) : TrE C P X Ew Γ T (.Call (.Attribute a m apos) [b] [] cpos) (.mth mf a' [b']) r T2 := by
  intro A env σ H Z Q s ne ok ex
  obtain ⟨hr, hm⟩ := mtOf1 hm
  have run := mth_run G ha hb hn s hr ne ok ex
  have hl' : (apos.endLine == cpos.line) = true := by simpa using hl
  have es : starEach [b] X.env = [(false, eval b X.env)] := each_ok hst
  have few : ((backTo cpos (starEach (b :: []) X.env)).all (fun x => !x.1) && (backToKw cpos (keywordEach [] X.env)).all (fun x => x.1.isSome) && decide ((b :: ([] : List Expr)).length + ([] : List Keyword).length + (if ([] : List Keyword).isEmpty then 0 else 1) < 30)) = true := by
    rw [es]; rfl
  have pb : PA X [b] (fun σ H K => WE X b σ H fun w H2 => K [w] H2) := pa_cons peW pa_nil (each_ok hst)
  rcases hm with ⟨rfl, rfl⟩ | ⟨rfl, rfl⟩ | ⟨rfl, rfl⟩ | ⟨rfl, rfl⟩ | ⟨rfl, rfl⟩
  · exact .of (pe_m1 (r := fun v vs H Q => MW X "str.join" v vs H Q) PySem.F.slot_str_join PySem.F.type_str_join MW.mt peW peW es (base_ok hbs) hl') (run.imp fun v H1 ⟨⟨d, W, q1, q2⟩, q3⟩ => ⟨str_of_mth q1 q2 (.inl rfl), q3⟩)
  · exact .of (pe_m1 (r := fun v vs H Q => MW X "str.split" v vs H Q) PySem.F.slot_str_split PySem.F.type_str_split MW.mt peW peW es (base_ok hbs) hl') (run.imp fun v H1 ⟨⟨d, W, q1, q2⟩, q3⟩ => ⟨str_of_mth q1 q2 (.inr (.inl rfl)), q3⟩)
  · exact .of (pe_m1 (r := fun v vs H Q => MW X "str.partition" v vs H Q) PySem.F.slot_str_partition PySem.F.type_str_partition MW.mt peW peW es (base_ok hbs) hl') (run.imp fun v H1 ⟨⟨d, W, q1, q2⟩, q3⟩ => ⟨str_of_mth q1 q2 (.inr (.inr rfl)), q3⟩)
  · exact .of (pe_bm (r := fun v vs H Q => MW X "list.index" v vs H Q) PySem.F.plainAttrs_list PySem.F.slot_list_index PySem.F.type_list_index MW.mt peW pb (base_ok hbs) few hl' es rfl) (run.imp fun v H1 ⟨⟨d, W, q1, q2⟩, q3⟩ => ⟨lst_of_mth G.K q1 q2 (.inl rfl), q3⟩)
  · exact .of (pe_bm (r := fun v vs H Q => MW X "list.count" v vs H Q) PySem.F.plainAttrs_list PySem.F.slot_list_count PySem.F.type_list_count MW.mt peW pb (base_ok hbs) few hl' es rfl) (run.imp fun v H1 ⟨⟨d, W, q1, q2⟩, q3⟩ => ⟨lst_of_mth G.K q1 q2 (.inr rfl), q3⟩)
/-! ### further built-ins -/
def bfV2 : Bf → Value
  | .tuple => .type "tuple" | .sorted => .builtin "sorted" | .sum => .builtin "sum" | .any => .builtin "any" | .all => .builtin "all"
  | _ => .none
theorem sort_uni {ns ns' : List Int} (h : ns'.Perm ns) (hs : ns'.Pairwise (· ≤ ·)) : ns' = ns.mergeSort fun a b => decide (a ≤ b) := by
  have h2 : (ns.mergeSort fun a b => decide (a ≤ b)).Pairwise (fun a b => decide (a ≤ b) = true) := List.pairwise_mergeSort (fun a b c h1 h2 => by simp at *; omega) (fun a b => by simp; omega) ns
  refine List.Perm.eq_of_pairwise (le := fun a b : Int => a ≤ b) (fun a b _ _ h1 h2 => by omega) hs (h2.imp fun h => by simpa using h) (h.trans (List.mergeSort_perm ns _).symm)
theorem bltS2 (hK : X.K = P.K) (hc : X.calm = true) (s : SR P T A env σ H Z) {b : Bf} {d z : D} {v : V} {Q : VK} (e : bltD b [d] = some z) (hb : b = .sorted ∨ b = .sum ∨ b = .any ∨ b = .all) (w : Vw P H (W Z A) d v) (h : Res P (bfR2 b) z A env σ H Z Q) : CW X (bfV2 b) [v] H Q := by
  have sc : ∀ {d : D}, d.scal = true → bfR2 b ≠ .top → bfR2 b ≠ .sh → Res P (bfR2 b) d A env σ H Z Q → Q (scV d) H := fun hd _ _ h => h.sc hd (fun i => by cases b <;> simp [bfR2])
  rcases hb with rfl | rfl | rfl | rfl
  · cases d with
    | lst xs =>
      obtain ⟨ns, h1, rfl⟩ := Option.map_eq_some_iff.mp (show (getInts xs).map _ = some z from e)
      have := ints_d h1
      subst this
      obtain ⟨p, vs, rfl, q1, q2⟩ := vw_lst w
      rw [reps_ints q2] at q1
      refine .of cr_sortedI ⟨p, ns, rfl, by rw [hK]; exact q1, fun ns' q hp hs hq => ?_⟩
      rw [sort_uni hp hs]
      exact h _ _ [q] (grow_upd hq) (fresh1 hq) cell_new (rv_new s hq (reps_of_ints _))
    | _ => cases e
  · cases d with
    | lst xs =>
      obtain ⟨ns, h1, rfl⟩ := Option.map_eq_some_iff.mp (show (getInts xs).map _ = some z from e)
      have := ints_d h1
      subst this
      obtain ⟨p, vs, rfl, q1, q2⟩ := vw_lst w
      rw [reps_ints q2] at q1
      exact .of (cr_sum hc) ⟨p, ns, rfl, by rw [hK]; exact q1, sc (d := .int _) rfl (by simp [bfR2]) (by simp [bfR2]) h⟩
    | _ => cases e
  · cases d with
    | lst xs =>
      obtain ⟨ns, h1, rfl⟩ := Option.map_eq_some_iff.mp (show (getBls xs).map _ = some z from e)
      have := bls_d h1
      subst this
      obtain ⟨p, vs, rfl, q1, q2⟩ := vw_lst w
      rw [reps_bls q2] at q1
      exact .of (cr_any hc) ⟨p, ns, rfl, by rw [hK]; exact q1, sc (d := .bl _) rfl (by simp [bfR2]) (by simp [bfR2]) h⟩
    | _ => cases e
  · cases d with
    | lst xs =>
      obtain ⟨ns, h1, rfl⟩ := Option.map_eq_some_iff.mp (show (getBls xs).map _ = some z from e)
      have := bls_d h1
      subst this
      obtain ⟨p, vs, rfl, q1, q2⟩ := vw_lst w
      rw [reps_bls q2] at q1
      exact .of (cr_all hc) ⟨p, ns, rfl, by rw [hK]; exact q1, sc (d := .bl _) rfl (by simp [bfR2]) (by simp [bfR2]) h⟩
    | _ => cases e
theorem blt1_eq {b : Bf} {a' : E} : evE Γ (.blt b [a']) env = (evE Γ a' env).bind fun x env1 => .of (bltD b [x]) env1 := by
  show ((evE Γ a' env).bind fun x env1 => (Out.ok [] env1).bind fun xs env2 => Out.ok (x :: xs) env2).bind _ = _
  cases evE Γ a' env <;> rfl
theorem tr_blt2 (G : Good C P X Ew Γ k) {x : Str} {p : Pos} {e : Expr} {a' : E} {ra : R} {b : Bf} {id : String} (hf : bfV2 b = .builtin id) (hb : b = .sorted ∨ b = .sum ∨ b = .any ∨ b = .all) (hv : bootBuiltins x = some (.builtin id)) (hg : Gl X x) (hm : X.mg x = none)
    (hn : x ≠ "__name__") (hd : (x == ("__debug__" : Str)) = false) (ha : TrE C P X Ew Γ T e a' ra T1) (hst : starred e = false) : TrE C P X Ew Γ T (.Call (.Name x p) [e] [] pos) (.blt b [a']) (bfR2 b) T1 := by
  intro A env σ H Z Q s ne ok ex
  have pb : PA X [e] (fun σ H K => WE X e σ H fun w H2 => K [w] H2) := pa_cons peW pa_nil (each_ok hst)
  refine .of (pe_callB CW.cr hg hm hv pb hn hd (each_ok hst) rfl) ?_
  rw [← hf]
  rw [blt1_eq] at ne ok ex
  have hmu : ∀ j, j ∈ muE a' ↔ j ∈ muE (.blt b [a']) := fun j => by simp [muE, muEs]
  refine one ha s (g := fun x env1 => .of (bltD b [x]) env1) ne ex (fun j hj => (hmu j).mp hj) fun x env1 v1 H1 A1 F1 e1 eg f1 s1 t1 r1 => ?_
  rw [eg] at ne ok
  obtain ⟨z, hz⟩ := of_ne ne
  exact bltS2 G.K G.calm s1 hz hb (r1.view s1) fun v H3 F hk hF hc rv => ok.fin (by rw [hz]; rfl) s1 (fun _ z => .inl z) t1 (fun j hj => (hmu j).mp hj) hk hF hc rv
theorem tr_tupOf (G : Good C P X Ew Γ k) {p : Pos} {e : Expr} {a' : E} {ra : R} (hg : Gl X "tuple") (hm : X.mg "tuple" = none) (ha : TrE C P X Ew Γ T e a' ra T1) (hst : starred e = false) :
    TrE C P X Ew Γ T (.Call (.Name "tuple" p) [e] [] pos) (.blt .tuple [a']) .sh (frz T1 [ra]) := by
  intro A env σ H Z Q s ne ok ex
  refine .of (pe_tupleOf hg hm peW (each_ok hst)) ?_
  rw [blt1_eq] at ne ok ex
  have hmu : ∀ j, j ∈ muE a' ↔ j ∈ muE (.blt .tuple [a']) := fun j => by simp [muE, muEs]
  refine one ha s (g := fun x env1 => .of (bltD .tuple [x]) env1) ne ex (fun j hj => (hmu j).mp hj) fun x env1 v1 H1 A1 F1 e1 eg f1 s1 t1 r1 => ?_
  rw [eg] at ne ok
  obtain ⟨z, hz⟩ := of_ne ne
  have w := r1.view s1
  cases x with
  | lst xs =>
    cases hz
    obtain ⟨q, vs, rfl, q1, q2⟩ := vw_lst w
    have s2 := (SR.thawL (rs := [ra]) s1).drop
    have rp : Reps P H1 (W Z (thawL A1 [ra])) xs vs := by
      have le : ∀ a, W Z (thawL A1 [ra]) a → W (Zf Z F1) A1 a := fun a z => (W_thawL z).imp .inl id
      exact Reps.less le q2
    refine .inl ⟨q, vs, rfl, by rw [G.K]; exact q1, fun p hp => ?_⟩
    refine ok.fin (F := []) (Z2 := Z) rfl s2 (fun _ z => z) (t1.trans Stp.thawL) (fun j hj => (hmu j).mp (by simpa using hj)) (grow_upd hp) none1 none1 ⟨rfl, ?_⟩
    exact Rep.less (fun a z => z.imp (fun q => q.elim id fun x => absurd x (by simp)) id) (rep_newT s2 hp rp)
  | tup xs =>
    cases hz
    obtain ⟨s2, r2⟩ := freed (rs := [ra]) (xs := [.tup xs]) (vs := [v1]) s1 (fresh_notZ s f1) ⟨⟨F1, fun _ h => h, r1⟩, trivial⟩
    obtain ⟨v', r', e', r3, r4⟩ := r2
    cases e'
    obtain ⟨q, vs, rfl, q1, q2⟩ := vw_tup w
    refine .inr ⟨q, vs, rfl, by rw [G.K]; exact q1, ?_⟩
    exact ok.fin0 rfl s2 (fun _ z => z) (t1.trans Stp.thawL) (fun j hj => (hmu j).mp (by simpa using hj)) ⟨rfl, r3⟩
  | _ => cases hz
theorem tr_bltX (G : Good C P X Ew Γ k) {x : Str} {p : Pos} {e : Expr} {a' : E} {ra : R} {b : Bf} (hx : bltOf2 C x = some b) (ha : TrE C P X Ew Γ T e a' ra T1) (hst : starred e = false) :
    TrE C P X Ew Γ T (.Call (.Name x p) [e] [] pos) (.blt b [a']) (bfR2 b) (if b = .tuple then frz T1 [ra] else T1) := by
  unfold bltOf2 at hx
  split at hx
  · rename_i h
    cases hx
    obtain ⟨rfl, g1, g2, g3⟩ := isB_ok G h
    exact tr_tupOf G g1 g2 ha hst
  · split at hx
    · rename_i h
      cases hx
      obtain ⟨rfl, g1, g2, g3⟩ := isB_ok G h
      exact tr_blt2 G (b := .sorted) rfl (.inl rfl) (by decide +kernel) g1 g2 (by decide) g3 ha hst
    · split at hx
      · rename_i h
        cases hx
        obtain ⟨rfl, g1, g2, g3⟩ := isB_ok G h
        exact tr_blt2 G (b := .sum) rfl (.inr (.inl rfl)) (by decide +kernel) g1 g2 (by decide) g3 ha hst
      · split at hx
        · rename_i h
          cases hx
          obtain ⟨rfl, g1, g2, g3⟩ := isB_ok G h
          exact tr_blt2 G (b := .any) rfl (.inr (.inr (.inl rfl))) (by decide +kernel) g1 g2 (by decide) g3 ha hst
        · split at hx
          · rename_i h
            cases hx
            obtain ⟨rfl, g1, g2, g3⟩ := isB_ok G h
            exact tr_blt2 G (b := .all) rfl (.inr (.inr (.inr rfl))) (by decide +kernel) g1 g2 (by decide) g3 ha hst
          · cases hx
/-! ### displays of dicts -/
theorem mergeK_new : ∀ (kvs acc : List (Key × V)), ((acc ++ kvs).map (·.1)).Nodup → mergeK acc kvs = acc ++ kvs
  | [], acc, _ => by simp [mergeK]
  | p :: kvs, acc, h => by
    have e : putK acc p.1 p.2 = acc ++ [p] := by
      unfold putK
      rw [if_neg]
      intro q
      obtain ⟨x, hx, hq⟩ := List.any_eq_true.mp q
      have hq : x.1 = p.1 := of_decide_eq_true hq
      rw [List.map_append, List.map_cons] at h
      have := (List.nodup_append.mp h).2.2 x.1 (List.mem_map.mpr ⟨x, hx, rfl⟩) p.1 (by simp)
      exact this hq
    show mergeK (putK acc p.1 p.2) kvs = _
    rw [e, mergeK_new kvs (acc ++ [p]) (by simpa using h)]
    simp
theorem dkey_pe {k : Option Expr} {k' : Key} (h : dkey k = some k') : ∃ e, k = some e ∧ PE X e (tC (kV k')) := by
  unfold dkey at h
  split at h
  · cases h; exact ⟨_, rfl, pe_int⟩
  · cases h; exact ⟨_, rfl, pe_str⟩
  · cases h
theorem dcon_pe {e : Expr} {d : D} (h : dcon e = some d) : PE X e (tC (scV d)) ∧ d.scal = true := by
  unfold dcon at h
  split at h
  · cases h; exact ⟨pe_int, rfl⟩
  · cases h; exact ⟨pe_str, rfl⟩
  · cases h; exact ⟨pe_bl, rfl⟩
  · cases h; exact ⟨pe_non, rfl⟩
  · cases h
theorem dkvs_ok : ∀ {ks : List (Option Expr)} {vs : List Expr} {ks' : List Key} {ds : List D}, dkvs ks vs = some (ks', ds) →
    PPs X pos ks vs ((ks'.zip ds).map fun p => (tC (kV p.1), tC (scV p.2))) ∧ ks.all (·.isSome) = true ∧ ks.length = vs.length ∧ ks'.length = ks.length ∧ ds.length = ks.length ∧ ds.all D.scal = true
  | [], [], ks', ds, h => by
    cases h
    exact ⟨pps_nil, rfl, rfl, rfl, rfl, rfl⟩
  | k :: ks, v :: vs, ks', ds, h => by
    unfold dkvs at h
    split at h
    · rename_i k1 d1 ks1 ds1 h1 h2 h3
      cases h
      obtain ⟨g1, g2, g3, g4, g5, g6⟩ := dkvs_ok h3
      obtain ⟨e, rfl, pk⟩ := dkey_pe (X := X) h1
      obtain ⟨pv, sc⟩ := dcon_pe (X := X) h2
      exact ⟨pps_cons pk pv g1, by simp [g2], by simp [g3], by simp [g4], by simp [g5], by simp [sc, g6]⟩
    · cases h
  | [], _ :: _, _, _, h => by cases h
  | _ :: _, [], _, _, h => by cases h
theorem pairs_con : ∀ (ps : List (Key × D)) (K : List (V × V) → Hp → Prop), K (ps.map fun p => (kV p.1, scV p.2)) H → tPairs (ps.map fun p => (tC (kV p.1), tC (scV p.2))) σ H K
  | [], K, h => h
  | p :: ps, K, h => pairs_con ps _ h
theorem ev_cons : ∀ ds : List D, evEs Γ (ds.map .con) env = .ok ds env
  | [] => rfl
  | d :: ds => by
    show ((Out.ok d env).bind fun x env1 => (evEs Γ (ds.map .con) env1).bind fun xs env2 => Out.ok (x :: xs) env2) = _
    show ((evEs Γ (ds.map .con) env).bind fun xs env2 => Out.ok (d :: xs) env2) = _
    rw [ev_cons ds]
    rfl
theorem reps_scal : ∀ {ds : List D}, ds.all D.scal = true → Reps P H Z ds (ds.map scV)
  | [], _ => rfl
  | d :: ds, h => by
    rw [List.all_cons, Bool.and_eq_true] at h
    exact ⟨_, _, rfl, rep_scal h.1, reps_scal h.2⟩
theorem zip_fst {α β : Type} : ∀ {as : List α} {bs : List β}, as.length = bs.length → (as.zip bs).map (·.1) = as ∧ (as.zip bs).map (·.2) = bs
  | [], [], _ => ⟨rfl, rfl⟩
  | a :: as, b :: bs, h => by
    obtain ⟨h1, h2⟩ := zip_fst (as := as) (bs := bs) (by simpa using h)
    exact ⟨by simp [h1], by simp [h2]⟩
  | [], _ :: _, h => by simp at h
  | _ :: _, [], h => by simp at h
theorem tr_dic {ks : List (Option Expr)} {vs : List Expr} {ks' : List Key} {ds : List D} (h : dkvs ks vs = some (ks', ds)) (hn : ks'.Nodup) (hl : ks'.length ≤ 15) :
    TrE C P X Ew Γ T (.Dict ks vs pos) (.dic ks' (ds.map .con)) .top T := by
  intro A env σ H Z Q s ne ok ex
  obtain ⟨g1, g2, g3, g4, g5, g6⟩ := dkvs_ok (X := X) (pos := pos) h
  have ev : evE Γ (.dic ks' (ds.map .con)) env = .ok (.dic ks' ds) env := by
    show ((evEs Γ (ds.map .con) env).bind fun ds env1 => Out.ok (D.dic ks' ds) env1) = _
    rw [ev_cons]
    rfl
  have lz : ks'.length = ds.length := by omega
  obtain ⟨z1, z2⟩ := zip_fst lz
  have fin : ∀ p, H p = none → ∀ kvs : List (Key × V), kvs = (ks'.zip ds).map (fun q => (q.1, scV q.2)) → Q (.ref p) (upd H p (.dK kvs)) := fun p hp kvs e => by
    refine ok.fin (F := [p]) ev s (fun _ z => z) Stp.refl (fun j hj => absurd hj (by simp)) (grow_upd hp) (fresh1 hp) (fun a ha => ?_) ?_
    · obtain rfl : a = p := by simpa using ha
      exact ⟨_, upd_same, rfl⟩
    · refine ⟨p, kvs, rfl, rfl, upd_same, ?_, ?_⟩
      · rw [e, List.map_map]; exact z1
      · have : kvs.map (·.2) = ds.map scV := by
          rw [e, List.map_map]
          have : (((fun x => x.2) ∘ fun q => (q.1, scV q.2)) : Key × D → V) = scV ∘ (fun q => q.2) := rfl
          rw [this, ← List.map_map, z2]
        rw [this]
        exact reps_scal g6
  cases ks with
  | nil =>
    have : vs = [] := by cases vs with
      | nil => rfl
      | cons => simp at g3
    subst this
    cases h
    exact .of pe_dnewK fun p hp => fin p hp [] rfl
  | cons k0 ks0 =>
    refine .of (pe_disp g1 g2 g3 (by simp) (by simp at g4 ⊢; omega)) fun p hp => ?_
    refine pairs_con _ _ ⟨upd_same, (ks'.zip ds).map (fun q => (q.1, scV q.2)), by rw [List.map_map]; rfl, by rw [List.length_map, List.length_zip]; omega, ?_⟩
    rw [mergeK_new, List.nil_append, upd_upd]
    · exact fin p hp _ rfl
    · rw [List.nil_append, List.map_map]
      show ((ks'.zip ds).map (·.1)).Nodup
      rw [z1]
      exact hn
end
end Fc
end

section
/-! Soundness, 7: lists changed by methods; all expressions. -/
namespace Fc
open PySem L2 PySem.Spec
open PyProof.Rows hiding St
section
variable {C : Ctx} {P : GP} {X : Cx} {Ew : L2.St → XK} {Γ : Gam} {k : Nat}
variable {T T' T1 T2 T3 : List M} {A A1 A2 A' : Ft} {env env1 env2 env' : Env} {σ : L2.St} {H H1 H2 H3 H' : Hp} {Z Z1 Z2 Z' : AS} {mu mu1 mu2 : List Nat} {pos : Pos}
theorem star_all (pos : Pos) {E : PySem.Env} : ∀ {es : List Expr}, es.all (fun e => !starred e) = true → (backTo pos (starEach es E)).all (fun x => !x.1) = true
  | [], _ => rfl
  | e :: es, h => by
    rw [List.all_cons, Bool.and_eq_true] at h
    have h1 : starred e = false := by simpa using h.1
    rw [each_ok h1]
    have ih := star_all pos (E := E) h.2
    unfold backTo at ih ⊢
    rw [List.map_cons, List.all_cons, ih]
    rfl
theorem few_ok {e : Expr} {es : List Expr} {E : PySem.Env} (h : (e :: es).all (fun e => !starred e) = true) (hl : (e :: es).length < 30) :
    ((backTo pos (starEach (e :: es) E)).all (fun x => !x.1) && (backToKw pos (keywordEach [] E)).all (fun x => x.1.isSome) && decide ((e :: es).length + ([] : List Keyword).length + (if ([] : List Keyword).isEmpty then 0 else 1) < 30)) = true := by
  rw [star_all pos h]
  have : (e :: es).length + ([] : List Keyword).length + (if ([] : List Keyword).isEmpty then 0 else 1) = (e :: es).length := by simp
  rw [this, decide_eq_true hl]
  rfl
theorem slot_vis {x : Str} {i : Nat} (hi : slotOf C x = some i) : C.N[i]? = some x ∧ Vis C.sc x := by
  have hN : ∀ {j}, slotOf.idx x C.N = some j → C.N[j]? = some x := fun {j} q => by
    unfold slotOf.idx at q
    simp only at q
    split at q
    · cases q; assumption
    · cases q
  unfold slotOf at hi
  split at hi
  · exact ⟨hN hi, .inl (by assumption)⟩
  · exact ⟨hN hi, .inr (.inl (by assumption))⟩
  · exact ⟨hN hi, .inr (.inr (by assumption))⟩
  · cases hi
theorem mut_kind {m : Mu} {d : D} {ds : List D} {q : D × D} (h : mutD m d ds = some q) : kindD d = 1 := by
  unfold mutD at h
  split at h <;> first | rfl | cases h
theorem slotD_get {i : Nat} {d : D} (h : slotD env i = some d) : env[i]? = some (some d) := by
  unfold slotD at h
  split at h
  · cases h; assumption
  · cases h
theorem mut_end {i : Nat} {m : Mu} {q : Nat} {xs : List D} {v : V} {vs : List V} {Q : VK} {o : Out D} (s2 : SR P T2 A1 env1 σ H1 Z) (hT2 : T2[i]? = some .top) (hv : σ[i]? = some (some v)) (r2 : Reps P H1 (W Z A1) xs vs)
    (ne : sameK q env1 i (mutK env1 i [] fun x => mutD m x xs) ≠ .err) (eo : o = sameK q env1 i (mutK env1 i [] fun x => mutD m x xs)) (ok : OkE P o mu T2 (muR m) A env σ H Z Q) (t1 : Stp mu1 A H env A1 H1 env1) (hm : ∀ j, j ∈ mu1 ++ [i] → j ∈ mu) :
    MW X (muId m) v vs H1 Q := by
  unfold sameK at ne eo
  split at ne
  · rename_i hs
    rw [if_pos hs] at eo
    obtain ⟨d, h1, hq2⟩ := Option.bind_eq_some_iff.mp hs
    have g1 := slotD_get h1
    have em : mutK env1 i [] (fun x => mutD m x xs) = match mutD m d xs with | some (r, d') => .ok r (env1.set i (some d')) | none => .err := by
      unfold mutK
      rw [h1]
      rfl
    rw [em] at ne eo
    cases hm' : mutD m d xs with
    | none => rw [hm'] at ne; exact absurd rfl ne
    | some rd =>
      obtain ⟨r, d'⟩ := rd
      rw [hm'] at eo
      refine mutS s2 hT2 g1 hv (mut_kind hm') hm' r2 fun v' H' s' t' rv => ?_
      exact ok.fin0 (Z2 := Z) eo s' (fun _ z => z) (t1.trans t') hm rv
  · exact absurd rfl ne
theorem mut_head {i : Nat} {d0 : D} {v : V} (hX : X.K = P.K) (hk : (if kindD d0 = 1 then some 1 else none : Option Nat) = some q) (o : Own P H (W Z A) .top d0 v (A i)) : tyV X.K "list" v H := by
  split at hk
  · rename_i hk0
    cases d0 with
    | lst ds =>
      obtain ⟨l, ws, rfl, _, eH, _⟩ := own_lst o
      exact .inl ⟨rfl, ws, .inl (.inl eH)⟩
    | _ => simp [kindD] at hk0
  · cases hk
theorem mut_run (G : Good C P X Ew Γ k) {i : Nat} {m : Mu} {es : List Expr} {cs : List E} {rs : List R}
    (hT : T[i]? = some .top) (ha : TrA C P X Ew Γ T es cs rs T1) (hT2 : (frz T1 rs)[i]? = some .top) (s : SR P T A env σ H Z) {Q : VK} (ne : evE Γ (.mut i [] m cs) env ≠ .err)
    (ok : OkE P (evE Γ (.mut i [] m cs) env) (muE (.mut i [] m cs)) (frz T1 rs) (muR m) A env σ H Z Q) (ex : ExE C P Ew (evE Γ (.mut i [] m cs) env) (muE (.mut i [] m cs)) A env σ H Z) :
    ∃ v, σ[i]? = some (some v) ∧ tyV X.K "list" v H ∧ WA X es σ H fun vs H2 => MW X (muId m) v vs H2 Q := by
  have ee : evE Γ (.mut i [] m cs) env = (Out.of (kindAt env i) env).bind fun q env0 => (evEs Γ cs env0).bind fun ds env2 => sameK q env2 i (mutK env2 i [] fun x => mutD m x ds) := rfl
  rw [ee] at ne ok ex
  cases hk : kindAt env i with
  | none => rw [hk] at ne; exact absurd rfl ne
  | some q =>
    rw [hk] at ne ok ex
    have ne : ((evEs Γ cs env).bind fun ds env2 => sameK q env2 i (mutK env2 i [] fun x => mutD m x ds)) ≠ .err := ne
    have ok : OkE P ((evEs Γ cs env).bind fun ds env2 => sameK q env2 i (mutK env2 i [] fun x => mutD m x ds)) (muE (.mut i [] m cs)) (frz T1 rs) (muR m) A env σ H Z Q := ok
    have ex : ExE C P Ew ((evEs Γ cs env).bind fun ds env2 => sameK q env2 i (mutK env2 i [] fun x => mutD m x ds)) (muE (.mut i [] m cs)) A env σ H Z := ex
    obtain ⟨d0, h0, hq⟩ := Option.bind_eq_some_iff.mp hk
    obtain ⟨v, hv, o⟩ := s.val i .top d0 hT (slotD_get h0)
    refine ⟨v, hv, mut_head G.K hq o, ?_⟩
    refine args ha s ne ex (fun j hj => by simp [muE, muEs]; exact .inl hj) fun xs env1 vs H1 A1 F1 e1 eg f1 s1 t1 r1 => ?_
    obtain ⟨s2, r2⟩ := freed s1 (fresh_notZ s f1) r1
    rw [eg] at ne
    exact mut_end s2 hT2 hv r2 ne eg ok (t1.trans Stp.thawL) fun j hj => by simpa [muE, muEs] using hj
theorem muOf_ok {x : Str} {n : Nat} {m : Mu} {r : R} (h : muOf x n = some (m, r)) : r = muR m ∧ Slot "list" x (muId m) ∧ typeOf (.builtin (muId m)) = pure (.type "method_descriptor") := by
  unfold muOf at h
  split at h
  · rename_i q; cases h; obtain ⟨rfl, _⟩ := q; exact ⟨rfl, F.slot_list_append, F.type_list_append⟩
  · split at h
    · rename_i q; cases h; obtain ⟨rfl, _⟩ := q; exact ⟨rfl, F.slot_list_pop, F.type_list_pop⟩
    · split at h
      · rename_i q; cases h; obtain ⟨rfl, _⟩ := q; exact ⟨rfl, F.slot_list_clear, F.type_list_clear⟩
      · split at h
        · rename_i q; cases h; obtain ⟨rfl, _⟩ := q; exact ⟨rfl, F.slot_list_reverse, F.type_list_reverse⟩
        · cases h
theorem tr_mut (G : Good C P X Ew Γ k) {x name : Str} {px apos cpos : Pos} {i : Nat} {m : Mu} {r : R} {e : Expr} {es : List Expr} {cs : List E} {rs : List R} (hm : muOf name (e :: es).length = some (m, r)) (hi : slotOf C x = some i) (hd : (x == ("__debug__" : Str)) = false) (hcd : (x == ("__classdict__" : Str)) = false)
    (hT : T[i]? = some .top) (ha : TrA C P X Ew Γ T (e :: es) cs rs T1) (hT2 : (frz T1 rs)[i]? = some .top) (hst : (e :: es).all (fun e => !starred e) = true) (hl : (e :: es).length < 29) (hline : apos.endLine = cpos.line) :
    TrE C P X Ew Γ T (.Call (.Attribute (.Name x px) name apos) (e :: es) [] cpos) (.mut i [] m cs) r (frz T1 rs) := by
  intro A env σ H Z Q s ne ok ex
  obtain ⟨rfl, sl, ty⟩ := muOf_ok hm
  obtain ⟨v, hv, t, w⟩ := mut_run G hT ha hT2 s ne ok ex
  obtain ⟨v1, v2⟩ := slot_vis hi
  have pv : PE X (.Name x px) (tVar i) := pe_var (by rw [G.N]; exact v1) (by rw [G.sc]; exact v2) hd hcd
  have hline' : (apos.endLine == cpos.line) = true := by rw [hline]; exact beq_self_eq_true _
  have hst' := hst
  rw [List.all_cons, Bool.and_eq_true] at hst'
  exact .of (pe_bm F.plainAttrs_list sl ty MW.mt pv paW rfl (few_ok hst (by omega)) hline' (each_ok (by simpa using hst'.1)) (star_ok cpos hst'.2)) ⟨v, hv, t, w⟩
theorem tr_mut0 (G : Good C P X Ew Γ k) {x name : Str} {px apos cpos : Pos} {i : Nat} {m : Mu} {r : R} (hm : muOf name 0 = some (m, r)) (hi : slotOf C x = some i) (hd : (x == ("__debug__" : Str)) = false) (hcd : (x == ("__classdict__" : Str)) = false)
    (hT : T[i]? = some .top) (hline : apos.endLine = cpos.line) :
    TrE C P X Ew Γ T (.Call (.Attribute (.Name x px) name apos) [] [] cpos) (.mut i [] m []) r T := by
  intro A env σ H Z Q s ne ok ex
  obtain ⟨rfl, sl, ty⟩ := muOf_ok hm
  obtain ⟨v1, v2⟩ := slot_vis hi
  have pv : PE X (.Name x px) (tVar i) := pe_var (by rw [G.N]; exact v1) (by rw [G.sc]; exact v2) hd hcd
  have hline' : (apos.endLine == cpos.line) = true := by rw [hline]; exact beq_self_eq_true _
  have ee : evE Γ (.mut i [] m []) env = (Out.of (kindAt env i) env).bind fun q env2 => sameK q env2 i (mutK env2 i [] fun x => mutD m x []) := rfl
  rw [ee] at ne ok
  cases hk : kindAt env i with
  | none => rw [hk] at ne; exact absurd rfl ne
  | some q =>
    rw [hk] at ne ok
    obtain ⟨d0, h0, hq⟩ := Option.bind_eq_some_iff.mp hk
    obtain ⟨v, hv, o⟩ := s.val i .top d0 hT (slotD_get h0)
    refine .of (pe_bm0 F.plainAttrs_list sl ty MW.mt pv rfl hline') ⟨v, hv, mut_head G.K hq o, ?_⟩
    exact mut_end (xs := []) (vs := []) s hT hv rfl ne rfl ok Stp.refl fun j hj => by simpa [muE, muEs] using hj
end
end Fc
end

section
/-! Soundness, 8: targets, what loops walk over. -/
namespace Fc
open PySem L2 PySem.Spec
open PyProof.Rows hiding St
section
variable {C : Ctx} {P : GP} {X : Cx} {Ew : L2.St → XK} {Γ : Gam} {k : Nat}
variable {T T' T1 T2 T3 : List M} {A A1 A2 A' : Ft} {env env1 env2 env' : Env} {σ σ' : L2.St} {H H1 H2 H3 H' : Hp} {Z Z1 Z2 Z' : AS} {mu mu1 mu2 : List Nat} {pos : Pos}

/-- slots' values that stay -/
structure Sg (as : List Nat) (σ σ' : L2.St) : Prop where
  same : ∀ j, j ∉ as → σ'[j]? = σ[j]?
  len : σ'.length = σ.length
theorem Sg.refl : Sg [] σ σ := ⟨fun _ _ => rfl, rfl⟩
theorem Sg.trans {as bs : List Nat} {σ1 σ2 : L2.St} (a : Sg as σ σ1) (b : Sg bs σ1 σ2) : Sg (as ++ bs) σ σ2 :=
  ⟨fun j hj => (b.same j fun q => hj (List.mem_append_right _ q)).trans (a.same j fun q => hj (List.mem_append_left _ q)), b.len.trans a.len⟩
theorem Sg.mono {as bs : List Nat} {σ1 : L2.St} (a : Sg as σ σ1) (h : ∀ j, j ∈ as → j ∈ bs) : Sg bs σ σ1 := ⟨fun j hj => a.same j fun q => hj (h j q), a.len⟩

/-- slot i takes a value, with its cells F -/
def putF (A : Ft) (i : Nat) (F : List Addr) : Ft := fun j => if j = i then F else A j
theorem putF_self {i : Nat} {F : List Addr} : Fc.putF A i F i = F := by unfold Fc.putF; rw [if_pos rfl]
theorem putF_ne {i j : Nat} {F : List Addr} (h : j ≠ i) : Fc.putF A i F j = A j := by unfold Fc.putF; rw [if_neg h]
theorem SR.put {i : Nat} {m : M} {d : D} {v : V} {F : List Addr} (s : SR P T A env σ H (Zf Z F)) (hi : i < env.length) (o : Own P H (W (Zf Z F) A) m d v F) (hF : ∀ a ∈ F, ¬ Z a) :
    SR P (T.set i m) (Fc.putF A i F) (env.set i (some d)) (σ.set i (some v)) H Z := by
  have ww : ∀ a, W Z (Fc.putF A i F) a → W (Zf Z F) A a := fun a z => by
    rcases z with z | ⟨j, z⟩
    · exact .inl (.inl z)
    · by_cases e : j = i
      · subst e
        rw [putF_self] at z
        exact .inl (.inr z)
      · rw [putF_ne e] at z
        exact .inr ⟨j, z⟩
  refine ⟨by rw [List.length_set, List.length_set]; exact s.ls, by rw [List.length_set, List.length_set]; exact s.lt, fun j m' d' h1 h2 => ?_, fun j h => ?_, fun j l a ne h1 h2 => ?_, fun j a h z => ?_, fun a z => s.zc a (.inl z)⟩
  · by_cases e : i = j
    · subst e
      rw [List.getElem?_set_self (by rw [s.lt]; exact hi)] at h1
      rw [List.getElem?_set_self hi] at h2
      cases h1
      cases h2
      refine ⟨v, List.getElem?_set_self (by rw [s.ls]; exact hi), ?_⟩
      rw [putF_self]
      exact o.frame (fun _ _ e _ => e) fun a _ n z => n (ww a z)
    · rw [List.getElem?_set_ne e] at h1 h2
      obtain ⟨v', e1, q⟩ := s.val j m' d' h1 h2
      refine ⟨v', by rw [List.getElem?_set_ne e]; exact e1, ?_⟩
      rw [putF_ne (Ne.symm e)]
      exact q.frame (fun _ _ e _ => e) fun a _ n z => n (ww a z)
  · by_cases e : i = j
    · subst e
      exact absurd (List.getElem?_set_self hi) (h _)
    · rw [putF_ne (Ne.symm e)]
      exact s.emp j fun d' q => h d' (by rw [List.getElem?_set_ne e]; exact q)
  · by_cases e1 : j = i
    · subst e1
      rw [putF_self] at h1
      rw [putF_ne (Ne.symm ne)] at h2
      exact s.zA l a h2 (.inr h1)
    · rw [putF_ne e1] at h1
      by_cases e2 : l = i
      · subst e2
        rw [putF_self] at h2
        exact s.zA j a h1 (.inr h2)
      · rw [putF_ne e2] at h2
        exact s.dj j l a ne h1 h2
  · by_cases e : j = i
    · subst e
      rw [putF_self] at h
      exact hF a h z
    · rw [putF_ne e] at h
      exact s.zA j a h (.inl z)
theorem Stp.put {i : Nat} {d : D} {F : List Addr} (hF : ∀ a ∈ F, H a = none ∨ a ∈ A i) : Stp [i] A H env (Fc.putF A i F) H (env.set i (some d)) where
  keep := fun _ _ e _ => e
  thr := fun _ e => e
  same := fun j hj => List.getElem?_set_ne (fun e => hj (by simp [e]))
  foot := fun j a h => by
    by_cases e : j = i
    · subst e
      rw [putF_self] at h
      exact (hF a h).symm
    · rw [putF_ne e] at h
      exact .inl h
  len := List.length_set

/-! ### targets -/
mutual
def gT (K : PySem.W.Frag) : Tg → TG
  | .nm i => gName i
  | .tp ts => fun v σ H Q => gTup K ts.length (gTs K ts) v σ H Q ∨ gLst K ts.length (gTs K ts) v σ H Q
def gTs (K : PySem.W.Frag) : List Tg → TGs
  | [] => gNil
  | t :: ts => gCons (gT K t) (gTs K ts)
end
/-- what a block's context must bring for its targets -/
structure GoodT (C : Ctx) (X : Cx) : Prop where
  N : X.N = C.N
  sc : X.env.scope = C.sc
  nd : X.N.Nodup
  calm : X.calm = true
  st : ∀ x, C.st x = true → Loc X.env.scope x ∧ (X.fn x = true ∨ X.env.scope.names.lookup x = some .local)
theorem asg_each {e : Expr} {es : List Expr} {E : PySem.Env} (h : starred e = false) : (assignEach (e :: es) E) = (false, assign e E) :: assignEach es E := by
  cases e <;> first | rfl | exact Bool.noConfusion h
theorem tgs_len : ∀ {n : Nat} {es : List Expr} {ts : List Tg} {E : PySem.Env}, cTgs C n es = some ts → (assignEach es E).length = ts.length ∧ (assignEach es E).findIdx? (·.1) = none
  | 0, es, ts, E, h => by cases h
  | n + 1, [], ts, E, h => by cases h; exact ⟨rfl, rfl⟩
  | n + 1, e :: es, ts, E, h => by
    unfold cTgs at h
    simp only at h
    split at h
    · rename_i t ts' h1 h2
      split at h
      · cases h
      · rename_i hs
        cases h
        have hs' : starred e = false := by simpa using hs
        obtain ⟨l1, l2⟩ := tgs_len (E := E) h2
        rw [asg_each hs']
        refine ⟨by simp [l1], ?_⟩
        rw [List.findIdx?_cons, l2]
        rfl
    · cases h
mutual
theorem pg_T (G : GoodT C X) : ∀ (n : Nat) (e : Expr) (t : Tg), cTg C n e = some t → PG X e (gT X.K t)
  | 0, e, t, h => by cases h
  | n + 1, e, t, h => by
    unfold cTg at h
    split at h
    · rename_i x p
      obtain ⟨i, hi, rfl⟩ := Option.map_eq_some_iff.mp h
      unfold stOf at hi
      split at hi
      · rename_i hs
        obtain ⟨g1, g2⟩ := G.st x hs
        obtain ⟨v1, v2⟩ := slot_vis hi
        exact pg_name G.nd (by rw [G.N]; exact v1) g1 g2
      · cases hi
    · rename_i es q p
      obtain ⟨ts, hts, rfl⟩ := Option.map_eq_some_iff.mp h
      obtain ⟨l1, l2⟩ := tgs_len (E := X.env) hts
      have ps := pgs_T G n es ts hts
      refine ⟨fun pins s σ H v u Q I r hw => ?_⟩
      rcases hw with hw | hw
      · exact (pg_tup G.calm ps l1 l2).run pins s σ H v u Q I r hw
      · exact (pg_lst G.calm ps l1 l2).run pins s σ H v u Q I r hw
    · cases h
theorem pgs_T (G : GoodT C X) : ∀ (n : Nat) (es : List Expr) (ts : List Tg), cTgs C n es = some ts → PGs X es (gTs X.K ts)
  | 0, es, ts, h => by cases h
  | n + 1, es, ts, h => by
    unfold cTgs at h
    split at h
    · cases h
      exact pgs_nil
    · rename_i e es'
      split at h
      · rename_i t ts' h1 h2
        split at h
        · cases h
        · rename_i hs
          cases h
          have hs' : starred e = false := by simpa using hs
          exact pgs_cons (pg_T G n e t h1) (pgs_T G n es' ts' h2) (by rw [asg_each hs']; rfl)
      · cases h
end
/-- the slots of a target, all of them known -/
def tgF (A : Ft) : List Nat → Ft
  | [] => A
  | i :: is => Fc.putF (tgF A is) i []
theorem tgF_sub : ∀ {is : List Nat} {j : Nat} {a : Addr}, a ∈ tgF A is j → a ∈ A j
  | [], _, _, h => h
  | i :: is, j, a, h => by
    by_cases e : j = i
    · subst e
      unfold tgF at h
      rw [putF_self] at h
      exact absurd h (by simp)
    · unfold tgF at h
      rw [putF_ne e] at h
      exact tgF_sub h
/-- a value comes to a target: the slots then -/
def TgOk (P : GP) (T : List M) (A : Ft) (env : Env) (σ : L2.St) (H : Hp) (Z : AS) (is : List Nat) (env' : Env) (σ' : L2.St) : Prop :=
  ∃ T' A', SR P T' A' env' σ' H Z ∧ leT (shS T is) T' = true ∧ Stp is A H env A' H env' ∧ Sg is σ σ'
theorem leT_refl : ∀ {T : List M}, leT T T = true
  | [] => rfl
  | m :: ms => Bool.and_eq_true_iff.mpr ⟨by cases m <;> rfl, leT_refl⟩
theorem leT_set : ∀ {T T' : List M} (i : Nat), leT T T' = true → leT (T.set i .sh) (T'.set i .sh) = true
  | [], [], _, _ => rfl
  | a :: as, b :: bs, 0, h => by
    have h' := Bool.and_eq_true_iff.mp (show (a.le b && leT as bs) = true from h)
    exact Bool.and_eq_true_iff.mpr ⟨rfl, h'.2⟩
  | a :: as, b :: bs, i + 1, h => by
    have h' := Bool.and_eq_true_iff.mp (show (a.le b && leT as bs) = true from h)
    exact Bool.and_eq_true_iff.mpr ⟨h'.1, leT_set i h'.2⟩
theorem leT_trans : ∀ {T1 T2 T3 : List M}, leT T1 T2 = true → leT T2 T3 = true → leT T1 T3 = true
  | [], [], [], _, _ => rfl
  | a :: as, b :: bs, c :: cs, h1, h2 => by
    have h1' := Bool.and_eq_true_iff.mp (show (a.le b && leT as bs) = true from h1)
    have h2' := Bool.and_eq_true_iff.mp (show (b.le c && leT bs cs) = true from h2)
    refine Bool.and_eq_true_iff.mpr ⟨?_, leT_trans h1'.2 h2'.2⟩
    have q1 := h1'.1
    have q2 := h2'.1
    cases a <;> cases b <;> cases c <;> first | rfl | exact Bool.noConfusion q1 | exact Bool.noConfusion q2
theorem shS_app {is js : List Nat} : shS T (is ++ js) = shS (shS T js) is := by
  induction is with
  | nil => rfl
  | cons i is ih => simp only [List.cons_append, shS, ih]
theorem shS_le : ∀ {is : List Nat} {T T' : List M}, leT T T' = true → leT (shS T is) (shS T' is) = true
  | [], _, _, h => h
  | i :: is, _, _, h => leT_set i (shS_le (is := is) h)
theorem shS_set {is : List Nat} {i : Nat} : shS (T.set i .sh) is = (shS T is).set i .sh := by
  induction is with
  | nil => rfl
  | cons j js ih =>
    simp only [shS, ih]
    by_cases e : i = j
    · subst e; rfl
    · rw [List.set_comm _ _ e]
mutual
theorem tg_run (hK : X.K = P.K) : ∀ (t : Tg) (d : D) (v : V) (T : List M) (A : Ft) (env : Env) (σ : L2.St) (env' : Env) (Q : L2.St → Hp → Prop), SR P T A env σ H Z → (∀ i ∈ tgS t, i < env.length) → Rep P H (W Z A) d v → asgT t d env = some env' →
    (∀ σ' T' A', SR P T' A' env' σ' H Z → leT (shS T (tgS t)) T' = true → Stp (tgS t) A H env A' H env' → Sg (tgS t) σ σ' → (∀ j a, a ∈ A' j → a ∈ A j) → Q σ' H) → gT X.K t v σ H Q
  | .nm i, d, v, T, A, env, σ, env', Q, s, hi, r, e, h => by
    unfold asgT at e
    cases e
    have s' : SR P (T.set i .sh) (Fc.putF A i []) (env.set i (some d)) (σ.set i (some v)) H Z :=
      SR.put (F := []) (s.less fun a z => z.elim id fun q => absurd q (by simp)) (hi i (by simp [tgS])) (Own.sh (Rep.less (fun a z => z.imp (fun q => q.elim id fun q => absurd q (by simp)) id) r)) none1
    exact h _ _ _ s' leT_refl (Stp.put none1) ⟨fun j hj => List.getElem?_set_ne (fun e => hj (by simp [tgS, e])), List.length_set⟩ (fun j a q => by
      by_cases e : j = i
      · subst e; rw [putF_self] at q; exact absurd q (by simp)
      · rw [putF_ne e] at q; exact q)
  | .tp ts, d, v, T, A, env, σ, env', Q, s, hi, r, e, h => by
    cases d with
    | tup ds =>
      unfold asgT at e
      split at e
      · rename_i hl
        obtain ⟨a, vs, rfl, h1, h2⟩ := r
        refine .inl ⟨a, vs, rfl, by rw [hK]; exact h1.sq, by rw [← h2.length]; exact hl.symm, ?_⟩
        exact tgs_run hK ts ds vs T A env σ env' Q s hi h2 e h
      · cases e
    | lst ds =>
      unfold asgT at e
      split at e
      · rename_i hl
        obtain ⟨a, vs, rfl, h1, h2⟩ := r
        refine .inr ⟨a, vs, rfl, by rw [hK]; exact h1.sq, by rw [← h2.length]; exact hl.symm, ?_⟩
        exact tgs_run hK ts ds vs T A env σ env' Q s hi h2 e h
      · cases e
    | _ => unfold asgT at e; cases e
theorem tgs_run (hK : X.K = P.K) : ∀ (ts : List Tg) (ds : List D) (vs : List V) (T : List M) (A : Ft) (env : Env) (σ : L2.St) (env' : Env) (Q : L2.St → Hp → Prop), SR P T A env σ H Z → (∀ i ∈ tgS.tgSs ts, i < env.length) → Reps P H (W Z A) ds vs → asgT.asgTs ts ds env = some env' →
    (∀ σ' T' A', SR P T' A' env' σ' H Z → leT (shS T (tgS.tgSs ts)) T' = true → Stp (tgS.tgSs ts) A H env A' H env' → Sg (tgS.tgSs ts) σ σ' → (∀ j a, a ∈ A' j → a ∈ A j) → Q σ' H) → gTs X.K ts vs σ H Q
  | [], ds, vs, T, A, env, σ, env', Q, s, hi, r, e, h => by
    cases ds with
    | nil =>
      unfold asgT.asgTs at e
      cases e
      exact ⟨r, h σ T A s leT_refl Stp.refl Sg.refl fun _ _ q => q⟩
    | cons d ds => unfold asgT.asgTs at e; cases e
  | t :: ts, ds, vs, T, A, env, σ, env', Q, s, hi, r, e, h => by
    cases ds with
    | nil => unfold asgT.asgTs at e; cases e
    | cons d ds =>
      obtain ⟨v, vr, rfl, r1, r2⟩ := r
      unfold asgT.asgTs at e
      split at e
      · rename_i env1 e1
        refine ⟨v, vr, rfl, ?_⟩
        refine tg_run hK t d v T A env σ env1 _ s (fun i h => hi i (by simp [tgS.tgSs, h])) r1 e1 fun σ1 T1 A1 s1 l1 t1 g1 sub1 => ?_
        refine tgs_run hK ts ds vr T1 A1 env1 σ1 env' Q s1 (fun i h => by rw [t1.len]; exact hi i (by simp [tgS.tgSs, h])) (Reps.less (fun a z => z.imp id fun ⟨j, q⟩ => ⟨j, sub1 j a q⟩) r2) e fun σ2 T2 A2 s2 l2 t2 g2 sub2 => ?_
        refine h σ2 T2 A2 s2 ?_ (t1.trans t2) (g1.trans g2) fun j a q => sub1 j a (sub2 j a q)
        show leT (shS T (tgS t ++ tgS.tgSs ts)) T2 = true
        refine leT_trans ?_ l2
        have := shS_le (is := tgS.tgSs ts) l1
        rw [← shS_app] at this
        have comm : ∀ (is js : List Nat), shS T (is ++ js) = shS T (js ++ is) := fun is js => by
          induction is with
          | nil => simp [shS]
          | cons i is ih =>
            rw [shS_app, shS_app]
            have sw : ∀ (js : List Nat) (T : List M) (i : Nat), shS (T.set i .sh) js = (shS T js).set i .sh := fun js T i => shS_set
            simp only [shS]
            rw [sw, ← shS_app, ← shS_app, ih]
        rw [comm]
        exact this
      · cases e
end
end
end Fc
end

section
/-! Soundness, 9: what loops walk over. -/
namespace Fc
open PySem L2 PySem.Spec
open PyProof.Rows hiding St
section
variable {C : Ctx} {P : GP} {X : Cx} {Ew : L2.St → XK} {Γ : Gam} {k : Nat}
variable {T T' T1 T2 T3 : List M} {A A1 A2 A' : Ft} {env env1 env2 env' : Env} {σ σ' : L2.St} {H H1 H2 H3 H' : Hp} {Z Z1 Z2 Z' : AS} {mu mu1 mu2 : List Nat} {pos : Pos}

structure Src (P : GP) (Z : AS) (mu : List Nat) (J : It) (xs : List D) (S : Ft → Hp → Prop) : Prop where
  step : ∀ {A H env A' H' env'}, S A H → Stp mu A H env A' H' env' → S A' H'
  item : ∀ {A H i d}, S A H → Cells H (W Z A) → xs[i]? = some d → J.go i H ∧ ∀ v H', J.yld i H v H' → (∀ a o, H a = some o → H' a = some o) ∧ Rep P H' (W Z A) d v
  stop : ∀ {A H i}, S A H → xs.length ≤ i → J.stop i H
/-- a list or tuple that stays -/
def SL (P : GP) (Z : AS) (mu : List Nat) (a : Addr) (vs : List V) (xs : List D) : Ft → Hp → Prop := fun A H => ((Rd H a (.lst vs) ∧ ∀ j ∈ mu, a ∉ A j) ∨ KL P.K a vs) ∧ Reps P H (W Z A) xs vs
def ST (P : GP) (Z : AS) (mu : List Nat) (a : Addr) (vs : List V) (xs : List D) : Ft → Hp → Prop := fun A H => ((Rd H a (.tup vs) ∧ ∀ j ∈ mu, a ∉ A j) ∨ KT P.K a vs) ∧ Reps P H (W Z A) xs vs
theorem SL.sq {a : Addr} {vs : List V} {xs : List D} (h : SL P Z mu a vs xs A H) : SqL P.K H a vs := h.1.imp (·.1) id
theorem ST.sq {a : Addr} {vs : List V} {xs : List D} (h : ST P Z mu a vs xs A H) : SqT P.K H a vs := h.1.imp (·.1) id
theorem rd_step {a : Addr} {o : HO} (h : Rd H a o) (n : ∀ j ∈ mu, a ∉ A j) (t : Stp mu A H env A' H' env') : Rd H' a o ∧ ∀ j ∈ mu, a ∉ A' j := by
  refine ⟨?_, fun j hj q => ?_⟩
  · rcases h with h | ⟨u, h⟩
    · exact .inl (t.keep a _ h n)
    · exact .inr ⟨u, t.keep a _ h n⟩
  · rcases t.foot j a q with q | q
    · exact n j hj q
    · exact Rd.ne h q
theorem reps_step {vs : List V} {xs : List D} (h : Reps P H (W Z A) xs vs) (t : Stp mu A H env A' H' env') : Reps P H' (W Z A') xs vs :=
  Reps.frame (fun a o e n => t.keep a o e fun j _ q => n (.inr ⟨j, q⟩)) (fun a e n z => by
    rcases z with z | ⟨j, z⟩
    · exact n (.inl z)
    · rcases t.foot j a z with z | z
      · exact n (.inr ⟨j, z⟩)
      · exact e z) _ _ h
theorem SL.step {a : Addr} {vs : List V} {xs : List D} (h : SL P Z mu a vs xs A H) (t : Stp mu A H env A' H' env') : SL P Z mu a vs xs A' H' :=
  ⟨h.1.imp (fun q => rd_step q.1 q.2 t) id, reps_step h.2 t⟩
theorem ST.step {a : Addr} {vs : List V} {xs : List D} (h : ST P Z mu a vs xs A H) (t : Stp mu A H env A' H' env') : ST P Z mu a vs xs A' H' :=
  ⟨h.1.imp (fun q => rd_step q.1 q.2 t) id, reps_step h.2 t⟩
theorem src_list (a : Addr) (vs : List V) (xs : List D) : Src P Z mu (Itl P.K a) xs (SL P Z mu a vs xs) where
  step := fun h t => h.step t
  item := fun {A H i d} h hc e => by
    obtain ⟨v, hv, r⟩ := h.2.get e
    refine ⟨⟨vs, v, h.sq, hv⟩, fun v' H' y => ?_⟩
    obtain ⟨rfl, y⟩ := y
    have e' := y vs h.sq
    rw [hv] at e'
    cases e'
    exact ⟨fun _ _ e => e, r⟩
  stop := fun {A H i} h l => ⟨vs, h.sq, by rw [← h.2.length]; exact l⟩
theorem src_tup (a : Addr) (vs : List V) (xs : List D) : Src P Z mu (Itt P.K a) xs (ST P Z mu a vs xs) where
  step := fun h t => h.step t
  item := fun {A H i d} h hc e => by
    obtain ⟨v, hv, r⟩ := h.2.get e
    refine ⟨⟨vs, v, h.sq, hv⟩, fun v' H' y => ?_⟩
    obtain ⟨rfl, y⟩ := y
    have e' := y vs h.sq
    rw [hv] at e'
    cases e'
    exact ⟨fun _ _ e => e, r⟩
  stop := fun {A H i} h l => ⟨vs, h.sq, by rw [← h.2.length]; exact l⟩
theorem src_str (s : Str) : Src P Z mu (Its s) (s.cps.toList.map fun c => .str ⟨#[c]⟩) (fun _ _ => True) where
  step := fun _ _ => True.intro
  item := fun {A H i d} h hc e => by
    rw [List.getElem?_map] at e
    obtain ⟨c, hc', rfl⟩ := Option.map_eq_some_iff.mp e
    rw [Array.getElem?_toList] at hc'
    refine ⟨(Array.getElem?_eq_some_iff.mp hc').1, fun v H' y => ?_⟩
    obtain ⟨rfl, c', h1, rfl⟩ := y
    rw [hc'] at h1
    cases h1
    exact ⟨fun _ _ e => e, rfl⟩
  stop := fun {A H i} h l => by
    have l' : s.cps.size ≤ i := by simpa using l
    exact l'
theorem src_range (lo : Int) (n : Nat) (xs : List D) (hx : xs = (List.range n).map fun (k : Nat) => D.int (lo + (k : Int))) : Src P Z mu (Itr lo n) xs (fun _ _ => True) where
  step := fun _ _ => True.intro
  item := fun {A H i d} h hc e => by
    subst hx
    rw [List.getElem?_map] at e
    obtain ⟨c, hc', rfl⟩ := Option.map_eq_some_iff.mp e
    obtain ⟨hl, e2⟩ := List.getElem?_eq_some_iff.mp hc'
    have e3 : c = i := by rw [← e2]; simp
    subst e3
    have hl' : c < n := by simpa using hl
    refine ⟨hl', fun v H' y => ?_⟩
    obtain ⟨rfl, rfl⟩ := y
    exact ⟨fun _ _ e => e, rfl⟩
  stop := fun {A H i} h l => by
    subst hx
    have l' : n ≤ i := by simpa using l
    exact l'
theorem fresh_W (hc : Cells H (W Z A)) {p : Addr} (hp : H p = none) : ¬ W Z A p := fun z => by
  obtain ⟨o, e, _⟩ := hc p z
  rw [hp] at e
  cases e
theorem src_enum (a : Addr) (vs : List V) (xs : List D) : Src P Z mu (Ite P.K a) (xs.zipIdx.map fun p => .tup [.int p.2, p.1]) (SL P Z mu a vs xs) where
  step := fun h t => h.step t
  item := fun {A H i d} h hc e => by
    rw [List.getElem?_map] at e
    obtain ⟨⟨x, j⟩, hx, rfl⟩ := Option.map_eq_some_iff.mp e
    rw [List.getElem?_zipIdx] at hx
    obtain ⟨x', hx', e2⟩ := Option.map_eq_some_iff.mp hx
    simp only [Nat.zero_add, Prod.mk.injEq] at e2
    obtain ⟨rfl, rfl⟩ := e2
    obtain ⟨v, hv, r⟩ := h.2.get hx'
    refine ⟨⟨vs, v, h.sq, hv⟩, fun v' H' y => ?_⟩
    obtain ⟨t, y', rfl, ht, rfl, q⟩ := y
    have e' := q vs h.sq
    rw [hv] at e'
    cases e'
    refine ⟨grow_upd ht, t, _, rfl, .inl ⟨.inl upd_same, fresh_W hc ht⟩, ?_⟩
    exact ⟨_, _, rfl, rfl, Reps.one (Rep.grow (grow_upd ht) r)⟩
  stop := fun {A H i} h l => ⟨vs, h.sq, by rw [← h.2.length]; simpa using l⟩
theorem src_zip (a b : Addr) (vs ws : List V) (xs ys : List D) : Src P Z mu (Itz P.K a b) ((xs.zip ys).map fun p => .tup [p.1, p.2]) (fun A H => SL P Z mu a vs xs A H ∧ SL P Z mu b ws ys A H) where
  step := fun h t => ⟨h.1.step t, h.2.step t⟩
  item := fun {A H i d} h hc e => by
    rw [List.getElem?_map] at e
    obtain ⟨⟨x, y⟩, hx, rfl⟩ := Option.map_eq_some_iff.mp e
    rw [List.getElem?_zip_eq_some] at hx
    obtain ⟨v, hv, r⟩ := h.1.2.get hx.1
    obtain ⟨w, hw, r'⟩ := h.2.2.get hx.2
    refine ⟨⟨vs, ws, v, w, h.1.sq, h.2.sq, hv, hw⟩, fun v' H' y => ?_⟩
    obtain ⟨t, y1, y2, rfl, ht, rfl, q1, q2⟩ := y
    have e1 := q1 vs h.1.sq
    have e2 := q2 ws h.2.sq
    rw [hv] at e1
    rw [hw] at e2
    cases e1
    cases e2
    refine ⟨grow_upd ht, t, _, rfl, .inl ⟨.inl upd_same, fresh_W hc ht⟩, ?_⟩
    exact ⟨_, _, rfl, Rep.grow (grow_upd ht) r, Reps.one (Rep.grow (grow_upd ht) r')⟩
  stop := fun {A H i} h l => ⟨vs, ws, h.1.sq, h.2.sq, by
    have := h.1.2.length
    have := h.2.2.length
    simp at l
    omega⟩

/-- a list that was told, as a loop's source -/
theorem RV.src {r : R} {ds : List D} {v : V} {F : List Addr} (h : RV P r (.lst ds) v F A env σ H (Zf Z F)) (s : SR P T A env σ H (Zf Z F)) (hr : r.noBor mu = true) : ∃ a vs, v = .ref a ∧ SL P Z mu a vs ds A H := by
  have le : ∀ a, W Z A a → W (Zf Z F) A a := fun a z => z.imp .inl id
  have sh : ∀ {Z0 : AS}, Rep P H (W Z0 A) (.lst ds) v → (∀ a, W Z A a → W Z0 A a) → ∃ a vs, v = .ref a ∧ SL P Z mu a vs ds A H := fun {Z0} q l => by
    obtain ⟨a, vs, e, q1, q2⟩ := q
    refine ⟨a, vs, e, q1.imp (fun q => ⟨q.1, fun j _ z => q.2 (.inr ⟨j, z⟩)⟩) id, Reps.less l q2⟩
  cases r with
  | imm => exact sh h.2.2 le
  | sh => exact sh h.2 le
  | top =>
    obtain ⟨a, vs, e1, e2, e3, e4⟩ := own_lst h
    refine ⟨a, vs, e1, .inl ⟨.inl e3, fun j _ z => s.zA j a z (.inr (by rw [e2]; simp))⟩, Reps.less le e4⟩
  | bor i =>
    obtain ⟨h0, h1, h2⟩ := h
    have hi : i < T.length := by
      rw [s.lt]
      exact (List.getElem?_eq_some_iff.mp h1).1
    obtain ⟨v', e1, q⟩ := s.val i _ _ (List.getElem?_eq_getElem hi) h1
    rw [h2] at e1
    cases e1
    cases hm : T[i] with
    | sh =>
      rw [hm] at q
      exact sh q.sh_rep.2 le
    | top =>
      rw [hm] at q
      obtain ⟨a, vs, e1, e2, e3, e4⟩ := own_lst q
      have hmu : i ∉ mu := by simpa [R.noBor] using hr
      refine ⟨a, vs, e1, .inl ⟨.inl e3, fun j hj z => ?_⟩, Reps.less le e4⟩
      exact s.dj i j a (fun e => hmu (e ▸ hj)) (by rw [e2]; simp) z
theorem vw_srcT {ds : List D} {v : V} (s : SR P T A env σ H Z') (hz : ∀ a, Z a → Z' a) (h : Vw P H (W Z' A) (.tup ds) v) : ∃ a vs, v = .ref a ∧ ST P Z mu a vs ds A H := by
  obtain ⟨a, vs, e, q1, q2⟩ := h
  exact ⟨a, vs, e, q1.imp (fun q => ⟨q.1, fun j _ z => q.2 (.inr ⟨j, z⟩)⟩) id, Reps.less (fun a z => z.imp (hz a) id) q2⟩

def WI (X : Cx) (tg iter : Expr) (σ : L2.St) (H : Hp) (R : It → Hp → Prop) : Prop := ∀ (pins : List (Addr × Obj)) (s : Shared), Inv X pins σ H s →
  wpAny (model X.prog X.w) X.A (eval iter X.env) (fun v s1 => wpAny (model X.prog X.w) X.A (pyIter v) (PIE X pins σ tg R) X.xe s1) X.xe s
theorem piW {X : Cx} {tg iter : Expr} : PI X tg iter (WI X tg iter) := ⟨fun pins s _ _ _ I h => h pins s I⟩
theorem WI.of {X : Cx} {tg iter : Expr} {wi : TI} (h : PI X tg iter wi) {σ : L2.St} {H : Hp} {R : It → Hp → Prop} (q : wi σ H R) : WI X tg iter σ H R := fun pins s I => h.run pins s σ H R I q
def TrI (C : Ctx) (P : GP) (X : Cx) (Ew : L2.St → XK) (Γ : Gam) (T : List M) (tg iter : Expr) (ik : Ik) (src : List E) (mu : List Nat) (T' : List M) : Prop :=
  ∀ A env σ H Z (R : It → Hp → Prop), SR P T A env σ H Z → evEs Γ src env ≠ .err →
    (∀ ds env1, evEs Γ src env = .ok ds env1 → ∃ xs, itemsD ik ds = some xs ∧ ∀ J S H1 A1, SR P T' A1 env1 σ H1 Z → Stp (muEs src) A H env A1 H1 env1 → Src P Z mu J xs S → S A1 H1 → R J H1) →
    ExE C P Ew (evEs Γ src env) (muEs src) A env σ H Z → WI X tg iter σ H R
theorem evEs_one {c : E} : evEs Γ [c] env = (evE Γ c env).bind fun x e => .ok [x] e := rfl
theorem fold_ok {iter : Expr} {E : PySem.Env} (h : isSetE iter = false) : ∀ x, foldedSetIterable iter E x = pure x := by
  intro x
  cases iter <;> first | rfl | exact Bool.noConfusion h
theorem ti_of (G : Good C P X Ew Γ k) {tg e : Expr} {c : E} {r : R} (h : TrE C P X Ew Γ T e c r T1) (hr : r.noBor mu = true) : TrI C P X Ew Γ T tg e .of [c] mu T1 := by
  intro A env σ H Z R s ne ok ex
  rw [evEs_one] at ne ex
  have main : ∀ {te : Hp → V → Prop}, (∀ d env1 v1 H1 A1 F1, evE Γ c env = .ok d env1 → SR P T1 A1 env1 σ H1 (Zf Z F1) → Stp (muE c) A H env A1 H1 env1 → RV P r d v1 F1 A1 env1 σ H1 (Zf Z F1) → te H1 v1) → WE X e σ H fun v1 H1 => te H1 v1 := fun {te} q =>
    one h s ne ex (fun j hj => by simpa [muEs] using hj) fun x env1 v1 H1 A1 F1 e1 eg f1 s1 t1 r1 => q x env1 v1 H1 A1 F1 e1 s1 t1 r1
  have tm : ∀ {A1 H1 env1}, Stp (muE c) A H env A1 H1 env1 → Stp (muEs [c]) A H env A1 H1 env1 := fun t => t.mono fun j hj => by simpa [muEs] using hj
  cases ev : evE Γ c env with
  | err => rw [ev] at ne; exact absurd rfl ne
  | exn x e' =>
    exact .of (pi_list peW) (main fun d env1 v1 H1 A1 F1 e1 => by rw [ev] at e1; cases e1)
  | ok d env1 =>
    obtain ⟨xs, hx, ok⟩ := ok [d] env1 (by rw [evEs_one, ev]; rfl)
    cases d with
    | lst ds =>
      cases hx
      refine .of (pi_list peW) (main fun d env1' v1 H1 A1 F1 e1 s1 t1 r1 => ?_)
      rw [ev] at e1
      cases e1
      obtain ⟨a, vs, rfl, sl⟩ := r1.src s1 hr
      refine ⟨a, rfl, ⟨vs, by rw [G.K]; exact sl.sq⟩, ?_⟩
      rw [G.K]
      exact ok _ _ H1 A1 s1.drop (tm t1) (src_list a vs _) sl
    | tup ds =>
      cases hx
      refine .of (pi_tup peW) (main fun d env1' v1 H1 A1 F1 e1 s1 t1 r1 => ?_)
      rw [ev] at e1
      cases e1
      obtain ⟨a, vs, rfl, sl⟩ := vw_srcT (mu := mu) (Z := Z) s1 (fun _ z => .inl z) (r1.view s1)
      refine ⟨a, rfl, ⟨vs, by rw [G.K]; exact sl.sq⟩, ?_⟩
      rw [G.K]
      exact ok _ _ H1 A1 s1.drop (tm t1) (src_tup a vs _) sl
    | str t =>
      cases hx
      refine .of (pi_str peW) (main fun d env1' v1 H1 A1 F1 e1 s1 t1 r1 => ?_)
      rw [ev] at e1
      cases e1
      exact ⟨t, vw_str (r1.view s1), ok _ _ H1 A1 s1.drop (tm t1) (src_str t) True.intro⟩
    | _ => cases hx
theorem all_one {a : Expr} (h : starred a = false) {E : PySem.Env} : starEach [a] E = [(false, eval a E)] := each_ok h
theorem RVs.two {F : List Addr} {r r' : R} {ds : List D} {vs : List V} (h : RVs P F A env σ H Z [r, r'] ds vs) : ∃ d d' v v' G G', ds = [d, d'] ∧ vs = [v, v'] ∧ (∀ a ∈ G, a ∈ F) ∧ (∀ a ∈ G', a ∈ F) ∧ RV P r d v G A env σ H Z ∧ RV P r' d' v' G' A env σ H Z := by
  have hl := h.len
  match ds, vs, hl, h with
  | [d, d'], [v, v'], _, ⟨⟨G, h1, h2⟩, ⟨G', h3, h4⟩, _⟩ => exact ⟨d, d', v, v', G, G', rfl, rfl, h1, h3, h2, h4⟩
  | [], _, hl, _ => simp at hl; omega
  | [_], _, hl, _ => simp at hl; omega
  | _ :: _ :: _ :: _, _, hl, _ => simp at hl; omega
  | [_, _], [], hl, _ => simp at hl
  | [_, _], [_], hl, _ => simp at hl
  | [_, _], _ :: _ :: _ :: _, hl, _ => simp at hl
theorem RVs.one {F : List Addr} {r : R} {ds : List D} {vs : List V} (h : RVs P F A env σ H Z [r] ds vs) : ∃ d v G, ds = [d] ∧ vs = [v] ∧ (∀ a ∈ G, a ∈ F) ∧ RV P r d v G A env σ H Z := by
  have hl := h.len
  match ds, vs, hl, h with
  | [d], [v], _, ⟨⟨G, h1, h2⟩, _⟩ => exact ⟨d, v, G, rfl, rfl, h1, h2⟩
  | [], _, hl, _ => simp at hl; omega
  | _ :: _ :: _, _, hl, _ => simp at hl; omega
  | [_], [], hl, _ => simp at hl
  | [_], _ :: _ :: _, hl, _ => simp at hl
theorem tr_a1 {a : Expr} {c : E} {r : R} (h : TrE C P X Ew Γ T a c r T1) (hs : starred a = false) : TrA C P X Ew Γ T [a] [c] [r] T1 := tr_cons h tr_nil (by cases r <;> simp [okNexts, R.noBor, muEs]) hs
theorem tr_a2 {a b : Expr} {c c' : E} {r r' : R} (h : TrE C P X Ew Γ T a c r T1) (h' : TrE C P X Ew Γ T1 b c' r' T2) (hn : r.noBor (muEs [c']) = true) (hs : starred a = false) (hs' : starred b = false) : TrA C P X Ew Γ T [a, b] [c, c'] [r, r'] T2 := tr_cons h (tr_a1 h' hs') hn hs
theorem ti_range1 (G : Good C P X Ew Γ k) {tg a : Expr} {x : Str} {p pos : Pos} {c : E} {r : R} (hx : isB C x "range" = true) (h : TrE C P X Ew Γ T a c r T1) (hs : starred a = false) : TrI C P X Ew Γ T tg (.Call (.Name x p) [a] [] pos) .range [c] mu T1 := by
  intro A env σ H Z R s ne ok ex
  obtain ⟨rfl, g1, g2, g3⟩ := isB_ok G hx
  refine .of (pi_range1 g1 g2 paW (all_one hs)) ?_
  refine tr_a1 h hs A env σ H Z _ s ne (fun ds env1 e1 vs H1 A1 F1 f1 s1 t1 r1 => ?_) ex
  obtain ⟨d, v, G', rfl, rfl, _, rv⟩ := r1.one
  obtain ⟨xs, hi, ok⟩ := ok [d] env1 e1
  have w := rv.view s1
  cases d with
  | int n =>
    simp only [itemsD] at hi
    split at hi
    · rename_i hb
      cases hi
      have hb' : n < 2 ^ 62 ∧ -(2 ^ 62) ≤ n := of_decide_eq_true hb
      refine ⟨n, by rw [vw_int w], hb'.2, hb'.1, ?_⟩
      exact ok _ _ H1 A1 s1.drop t1 (src_range 0 n.toNat _ (by simp)) True.intro
    · cases hi
  | _ => cases hi
theorem ti_range2 (G : Good C P X Ew Γ k) {tg a b : Expr} {x : Str} {p pos : Pos} {c c' : E} {r r' : R} (hx : isB C x "range" = true) (h : TrE C P X Ew Γ T a c r T1) (h' : TrE C P X Ew Γ T1 b c' r' T2) (hn : r.noBor (muEs [c']) = true) (hs : starred a = false) (hs' : starred b = false) :
    TrI C P X Ew Γ T tg (.Call (.Name x p) [a, b] [] pos) .range [c, c'] mu T2 := by
  intro A env σ H Z R s ne ok ex
  obtain ⟨rfl, g1, g2, g3⟩ := isB_ok G hx
  refine .of (pi_range2 g1 g2 paW (by rw [each_ok hs, all_one hs']) (all_one hs')) ?_
  refine tr_a2 h h' hn hs hs' A env σ H Z _ s ne (fun ds env1 e1 vs H1 A1 F1 f1 s1 t1 r1 => ?_) ex
  obtain ⟨d, d', v, v', G', G'', rfl, rfl, _, _, rv, rv'⟩ := r1.two
  obtain ⟨xs, hi, ok⟩ := ok [d, d'] env1 e1
  have w := rv.view s1
  have w' := rv'.view s1
  cases d with
  | int n =>
    cases d' with
    | int m =>
      simp only [itemsD] at hi
      split at hi
      · rename_i hb
        cases hi
        have hb' : m < 2 ^ 62 ∧ -(2 ^ 62) ≤ m ∧ n < 2 ^ 62 ∧ -(2 ^ 62) ≤ n := of_decide_eq_true hb
        refine ⟨n, m, by rw [vw_int w, vw_int w'], ⟨hb'.2.2.2, hb'.2.2.1, hb'.2.1, hb'.1⟩, ?_⟩
        exact ok _ _ H1 A1 s1.drop t1 (src_range n (m - n).toNat _ rfl) True.intro
      · cases hi
    | _ => cases hi
  | _ => cases hi
theorem RVs_src {F G : List Addr} {r : R} {ds : List D} {v : V} (hG : ∀ a ∈ G, a ∈ F) (h : RV P r (.lst ds) v G A env σ H (Zf Z F)) (s : SR P T A env σ H (Zf Z F)) (hr : r.noBor mu = true) : ∃ a vs, v = .ref a ∧ SL P Z mu a vs ds A H := by
  have zz : ∀ a, Zf Z G a → Zf Z F a := fun a z => z.imp id (hG a)
  exact (h.less zz).src (s.less zz) hr
theorem ti_enum (G : Good C P X Ew Γ k) {a : Expr} {x : Str} {p pos tpos : Pos} {elts : List Expr} {kk : Nat} {c : E} {r : R} (hx : isB C x "enumerate" = true) (h : TrE C P X Ew Γ T a c r T1) (hs : starred a = false) (hr : r.noBor mu = true) :
    TrI C P X Ew Γ T (.Tuple elts kk tpos) (.Call (.Name x p) [a] [] pos) .enum [c] mu T1 := by
  intro A env σ H Z R s ne ok ex
  obtain ⟨rfl, g1, g2, g3⟩ := isB_ok G hx
  refine .of (pi_enum g1 g2 paW (all_one hs)) ?_
  refine tr_a1 h hs A env σ H Z _ s ne (fun ds env1 e1 vs H1 A1 F1 f1 s1 t1 r1 => ?_) ex
  obtain ⟨d, v, G', rfl, rfl, hG', rv⟩ := r1.one
  obtain ⟨xs, hi, ok⟩ := ok [d] env1 e1
  cases d with
  | lst ds =>
    cases hi
    obtain ⟨a, vs, rfl, sl⟩ := RVs_src hG' rv s1 hr
    refine ⟨a, vs, rfl, by rw [G.K]; exact sl.sq, ?_⟩
    rw [G.K]
    exact ok _ _ H1 A1 s1.drop t1 (src_enum a vs _) sl
  | _ => cases hi
theorem ti_zip (G : Good C P X Ew Γ k) {a b : Expr} {x : Str} {p pos tpos : Pos} {elts : List Expr} {kk : Nat} {c c' : E} {r r' : R} (hx : isB C x "zip" = true) (h : TrE C P X Ew Γ T a c r T1) (h' : TrE C P X Ew Γ T1 b c' r' T2) (hn : r.noBor (muEs [c']) = true) (hs : starred a = false) (hs' : starred b = false)
    (hr : r.noBor mu = true) (hr' : r'.noBor mu = true) : TrI C P X Ew Γ T (.Tuple elts kk tpos) (.Call (.Name x p) [a, b] [] pos) .zip [c, c'] mu T2 := by
  intro A env σ H Z R s ne ok ex
  obtain ⟨rfl, g1, g2, g3⟩ := isB_ok G hx
  refine .of (pi_zip g1 g2 paW (each_ok hs) (star_ok pos (by simp [hs']))) ?_
  refine tr_a2 h h' hn hs hs' A env σ H Z _ s ne (fun ds env1 e1 vs H1 A1 F1 f1 s1 t1 r1 => ?_) ex
  obtain ⟨d, d', v, v', G', G'', rfl, rfl, hG', hG'', rv, rv'⟩ := r1.two
  obtain ⟨xs, hi, ok⟩ := ok [d, d'] env1 e1
  cases d with
  | lst ds =>
    cases d' with
    | lst ds' =>
      cases hi
      obtain ⟨a, vs, rfl, sl⟩ := RVs_src hG' rv s1 hr
      obtain ⟨b, ws, rfl, sl'⟩ := RVs_src hG'' rv' s1 hr'
      refine ⟨a, b, vs, ws, rfl, by rw [G.K]; exact sl.sq, by rw [G.K]; exact sl'.sq, ?_⟩
      rw [G.K]
      exact ok _ _ H1 A1 s1.drop t1 (src_zip a b vs ws _ _) ⟨sl, sl'⟩
    | _ => cases hi
  | _ => cases hi
end
end Fc
end

section
/-! Soundness, 10: comprehensions. -/
namespace Fc
open PySem L2 PySem.Spec
open PyProof.Rows hiding St
section
variable {C : Ctx} {P : GP} {X : Cx} {Ew : L2.St → XK} {Γ : Gam} {k : Nat}
variable {T T' T1 T2 T3 : List M} {A A1 A2 A' : Ft} {env env1 env2 env' : Env} {σ σ' : L2.St} {H H1 H2 H3 H' : Hp} {Z Z1 Z2 Z' : AS} {mu mu1 mu2 : List Nat} {pos : Pos}

/-! ### slots wiped and put back -/
theorem wipeE_len : ∀ {is : List Nat} {env : Env}, (wipeE env is).length = env.length
  | [], _ => rfl
  | i :: is, env => by
    show ((wipeE env is).set i none).length = _
    rw [List.length_set, wipeE_len]
theorem wipeE_out : ∀ {is : List Nat} {env : Env} {j : Nat}, j ∉ is → (wipeE env is)[j]? = env[j]?
  | [], _, _, _ => rfl
  | i :: is, env, j, h => by
    show ((wipeE env is).set i none)[j]? = _
    rw [List.getElem?_set_ne (fun e => h (by simp [e])), wipeE_out fun q => h (List.mem_cons_of_mem _ q)]
theorem wipeE_in : ∀ {is : List Nat} {env : Env} {j : Nat} {d : D}, j ∈ is → (wipeE env is)[j]? ≠ some (some d)
  | i :: is, env, j, d, h => by
    show ((wipeE env is).set i none)[j]? ≠ _
    by_cases e : i = j
    · subst e
      by_cases hl : i < (wipeE env is).length
      · rw [List.getElem?_set_self hl]; simp
      · rw [List.getElem?_eq_none (by rw [List.length_set]; omega)]; simp
    · rw [List.getElem?_set_ne e]
      rcases List.mem_cons.mp h with q | q
      · exact absurd q.symm e
      · exact wipeE_in q
theorem wipe_out : ∀ {is : List Nat} {σ : L2.St} {j : Nat}, j ∉ is → (wipe σ is)[j]? = σ[j]?
  | [], _, _, _ => rfl
  | i :: is, σ, j, h => by
    show ((wipe σ is).set i none)[j]? = _
    rw [List.getElem?_set_ne (fun e => h (by simp [e])), wipe_out fun q => h (List.mem_cons_of_mem _ q)]
theorem wipe_in : ∀ {is : List Nat} {σ : L2.St} {j : Nat}, j ∈ is → j < σ.length → (wipe σ is)[j]? = some none
  | i :: is, σ, j, h, hl => by
    show ((wipe σ is).set i none)[j]? = _
    by_cases e : i = j
    · subst e
      exact List.getElem?_set_self (by rw [wipe_length]; exact hl)
    · rw [List.getElem?_set_ne e]
      rcases List.mem_cons.mp h with q | q
      · exact absurd q.symm e
      · exact wipe_in q hl
theorem wipe_eq {is : List Nat} {σ1 σ2 : L2.St} (hl : σ1.length = σ2.length) (h : ∀ j, j ∉ is → σ1[j]? = σ2[j]?) : wipe σ1 is = wipe σ2 is := by
  apply List.ext_getElem?
  intro j
  by_cases hj : j ∈ is
  · by_cases hb : j < σ1.length
    · rw [wipe_in hj hb, wipe_in hj (by rw [← hl]; exact hb)]
    · rw [List.getElem?_eq_none (by rw [wipe_length]; omega), List.getElem?_eq_none (by rw [wipe_length]; omega)]
  · rw [wipe_out hj, wipe_out hj, h j hj]
theorem backE_len : ∀ {is : List Nat} {env old : Env}, (backE env old is).length = env.length
  | [], _, _ => rfl
  | i :: is, env, old => by
    show ((backE env old is).set i _).length = _
    rw [List.length_set, backE_len]
theorem backE_out : ∀ {is : List Nat} {env old : Env} {j : Nat}, j ∉ is → (backE env old is)[j]? = env[j]?
  | [], _, _, _, _ => rfl
  | i :: is, env, old, j, h => by
    show ((backE env old is).set i _)[j]? = _
    rw [List.getElem?_set_ne (fun e => h (by simp [e])), backE_out fun q => h (List.mem_cons_of_mem _ q)]
theorem backE_in : ∀ {is : List Nat} {env old : Env} {j : Nat}, j ∈ is → env.length = old.length → (backE env old is)[j]? = old[j]?
  | i :: is, env, old, j, h, hl => by
    show ((backE env old is).set i (old[i]?.getD none))[j]? = _
    by_cases e : i = j
    · subst e
      by_cases hb : i < old.length
      · rw [List.getElem?_set_self (by rw [backE_len]; omega), List.getElem?_eq_getElem hb]
        rfl
      · rw [List.getElem?_eq_none (by rw [List.length_set, backE_len]; omega), List.getElem?_eq_none (by omega)]
    · rw [List.getElem?_set_ne e]
      rcases List.mem_cons.mp h with q | q
      · exact absurd q.symm e
      · exact backE_in q hl
theorem SR.wipe {is : List Nat} (s : SR P T A env σ H Z) (hA : ∀ j ∈ is, A j = []) : SR P T A (wipeE env is) (wipe σ is) H Z where
  ls := by rw [wipeE_len, wipe_length]; exact s.ls
  lt := by rw [wipeE_len]; exact s.lt
  val := fun i m d h1 h2 => by
    by_cases hi : i ∈ is
    · exact absurd h2 (wipeE_in hi)
    · rw [wipeE_out hi] at h2
      obtain ⟨v, e, q⟩ := s.val i m d h1 h2
      exact ⟨v, by rw [wipe_out hi]; exact e, q⟩
  emp := fun i h => by
    by_cases hi : i ∈ is
    · exact hA i hi
    · exact s.emp i fun d q => h d (by rw [wipeE_out hi]; exact q)
  dj := s.dj
  zA := s.zA
  zc := s.zc
/-- the slots is may be known from now on -/
def thawS (A : Ft) : List Nat → Ft
  | [] => A
  | i :: is => thaw (thawS A is) i
theorem thawS_sub : ∀ {is : List Nat} {j : Nat} {a : Addr}, a ∈ thawS A is j → a ∈ A j
  | [], _, _, h => h
  | i :: is, _, _, h => thawS_sub (is := is) (thaw_sub h).1
theorem thawS_in : ∀ {is : List Nat} {j : Nat}, j ∈ is → thawS A is j = []
  | i :: is, j, h => by
    by_cases e : j = i
    · subst e; exact thaw_self
    · show thaw (thawS A is) i j = []
      rw [thaw_ne e]
      rcases List.mem_cons.mp h with q | q
      · exact absurd q e
      · exact thawS_in q
theorem SR.thawS : ∀ {is : List Nat}, SR P T A env σ H Z → SR P (shS T is) (thawS A is) env σ H Z
  | [], h => h
  | i :: is, h => (SR.thawS (is := is) h).thaw i
theorem Stp.thawS {is : List Nat} : Stp [] A H env (Fc.thawS A is) H env := ⟨fun _ _ e _ => e, fun _ e => e, fun _ _ => rfl, fun _ _ h => .inl (thawS_sub h), rfl⟩
theorem shS_get : ∀ {is : List Nat} {j : Nat} {m : M}, j ∈ is → (shS T is)[j]? = some m → m = .sh
  | i :: is, j, m, h, e => by
    by_cases q : i = j
    · subst q
      by_cases hl : i < (shS T is).length
      · have e' : ((shS T is).set i .sh)[i]? = some m := e
        rw [List.getElem?_set_self hl] at e'
        exact (Option.some.inj e').symm
      · have e' : ((shS T is).set i .sh)[i]? = some m := e
        rw [List.getElem?_eq_none (by rw [List.length_set]; omega)] at e'
        cases e'
    · have e' : ((shS T is).set i .sh)[j]? = some m := e
      rw [List.getElem?_set_ne q] at e'
      rcases List.mem_cons.mp h with h | h
      · exact absurd h.symm q
      · exact shS_get h e'
/-- what a forbidden cell holds may turn -/
theorem SR.writeZ {D : Addr} {o : HO} (s : SR P T A env σ H Z) (hD : Z D) (ho : isCell o = true) : SR P T A env σ (upd H D o) Z where
  ls := s.ls
  lt := s.lt
  val := fun i m d h1 h2 => by
    obtain ⟨v, e, q⟩ := s.val i m d h1 h2
    refine ⟨v, e, q.frame (fun a u ea n => fc_keep1 a u ea fun z => ?_) fun _ _ n => n⟩
    subst z
    rcases n with n | n
    · exact n (.inl hD)
    · exact s.zA i a n hD
  emp := s.emp
  dj := s.dj
  zA := s.zA
  zc := fun a z => by
    by_cases e : a = D
    · subst e; exact ⟨o, upd_same, ho⟩
    · obtain ⟨u, h1, h2⟩ := s.zc a z
      exact ⟨u, fc_keep1 a u h1 e, h2⟩
theorem Stp.updF {D : Addr} {o : HO} (t : Stp mu A H env A' H' env') (hD : H D = none) : Stp mu A H env A' (upd H' D o) env' where
  keep := fun a u e n => fc_keep1 a u (t.keep a u e n) fun z => by subst z; rw [hD] at e; cases e
  thr := fun a e => by
    by_cases z : a = D
    · subst z; rw [upd_same]; exact fun z => nomatch z
    · rw [upd_ne z]; exact t.thr a e
  same := t.same
  foot := t.foot
  len := t.len
/-- D put to the cells, at a number that no slot has -/
def plusF (n0 : Nat) (A : Ft) (D : Addr) : Ft := fun j => if j = n0 then D :: A j else A j
theorem plus_self {n0 : Nat} {D : Addr} : D ∈ plusF n0 A D n0 := by unfold plusF; rw [if_pos rfl]; simp
theorem plus_of {n0 j : Nat} {D a : Addr} (h : a ∈ A j) : a ∈ plusF n0 A D j := by
  unfold plusF
  split
  · exact List.mem_cons_of_mem _ h
  · exact h
theorem plus_sub {n0 j : Nat} {D a : Addr} (h : a ∈ plusF n0 A D j) : (a = D ∧ j = n0) ∨ a ∈ A j := by
  unfold plusF at h
  split at h
  · rename_i e
    rcases List.mem_cons.mp h with h | h
    · exact .inl ⟨h, e⟩
    · exact .inr h
  · exact .inr h
theorem W_plus {n0 : Nat} {D a : Addr} : W Z (plusF n0 A D) a ↔ W (Zf Z [D]) A a := by
  constructor
  · rintro (h | ⟨j, h⟩)
    · exact .inl (.inl h)
    · rcases plus_sub h with ⟨h, _⟩ | h
      · exact .inl (.inr (by simp [h]))
      · exact .inr ⟨j, h⟩
  · rintro ((h | h) | ⟨j, h⟩)
    · exact .inl h
    · obtain rfl : a = D := by simpa using h
      exact .inr ⟨n0, plus_self⟩
    · exact .inr ⟨j, plus_of h⟩
theorem Stp.plus {n0 : Nat} {D : Addr} (t : Stp mu A H env A' H' env') : Stp mu (plusF n0 A D) H env (plusF n0 A' D) H' env' where
  keep := fun a o e n => t.keep a o e fun j hj q => n j hj (plus_of q)
  thr := t.thr
  same := t.same
  foot := fun j a h => by
    rcases plus_sub h with ⟨rfl, rfl⟩ | h
    · exact .inl plus_self
    · exact (t.foot j a h).imp plus_of id
  len := t.len
theorem Stp.plus_upd {n0 : Nat} {D : Addr} {o : HO} (hn : n0 ∈ mu) (hD : H D ≠ none) : Stp mu (plusF n0 A D) H env (plusF n0 A D) (upd H D o) env where
  keep := fun a u e n => fc_keep1 a u e fun z => by subst z; exact n n0 hn plus_self
  thr := fun a e => by
    by_cases z : a = D
    · subst z; rw [upd_same]; exact fun z => nomatch z
    · rw [upd_ne z]; exact e
  same := fun _ _ => rfl
  foot := fun _ _ h => .inl h
  len := rfl
theorem Stp.plus_new {n0 : Nat} {D : Addr} {o : HO} (hD : H D = none) : Stp [] A H env (plusF n0 A D) (upd H D o) env where
  keep := fun a u e _ => grow_upd hD a u e
  thr := fun a e => by
    by_cases z : a = D
    · subst z; exact absurd hD e
    · rw [upd_ne z]; exact e
  same := fun _ _ => rfl
  foot := fun j a h => by
    rcases plus_sub h with ⟨rfl, _⟩ | h
    · exact .inr hD
    · exact .inl h
  len := rfl

/-! ### tests of a comprehension -/
def WTs (X : Cx) (ifs : List Expr) (σ : L2.St) (H : Hp) (Q : Bool → Hp → Prop) : Prop := ∀ (pins : List (Addr × Obj)) (s : Shared), Inv X pins σ H s →
  wpAny (model X.prog X.w) X.A (forIn ifs true fun c r => if r = true then do let ok ← isTrue c X.env (eval c X.env); pure (ForInStep.yield ok) else pure (ForInStep.yield r)) (TP X pins σ Q) X.xe s
theorem ptsW {X : Cx} {ifs : List Expr} : PTs X ifs (WTs X ifs) := ⟨fun pins s _ _ _ I h => h pins s I⟩
theorem WTs.of {X : Cx} {ifs : List Expr} {t : TT} (h : PTs X ifs t) {σ : L2.St} {H : Hp} {Q : Bool → Hp → Prop} (q : t σ H Q) : WTs X ifs σ H Q := fun pins s I => h.run pins s σ H Q I q
def TrTs (C : Ctx) (P : GP) (X : Cx) (Ew : L2.St → XK) (Γ : Gam) (T : List M) (ifs : List Expr) (cs : List Fc.T) (T' : List M) : Prop :=
  ∀ A env σ H Z Q, SR P T A env σ H Z → evTs Γ cs env ≠ .err → OkB P (evTs Γ cs env) (muTs cs) T' A env σ H Z Q → ExE C P Ew (evTs Γ cs env) (muTs cs) A env σ H Z → WTs X ifs σ H Q
theorem tts_nil : TrTs C P X Ew Γ T [] [] T := fun A env σ H Z Q s ne ok ex => .of pts_nil (ok true env rfl H A s Stp.refl)
theorem tts_one {e : Expr} {c : Fc.T} (h : TrT C P X Ew Γ T e c T1) : TrTs C P X Ew Γ T [e] [c] T1 := by
  intro A env σ H Z Q s ne ok ex
  have ee : evTs Γ [c] env = evT Γ c env := by
    show (evT Γ c env).bind (fun x env1 => iteK x env1 (.ok true) (.ok false)) = _
    cases evT Γ c env with
    | ok b e => cases b <;> rfl
    | exn _ _ => rfl
    | err => rfl
  rw [ee] at ne ok ex
  refine .of (pts_one ptW) (h A env σ H Z Q s ne (fun b e' e H' A' s' t' => ok b e' e H' A' s' (t'.mono fun j hj => by simp [muTs]; exact hj)) fun x e' e cls dd H' A' s' t' => ex x e' e cls dd H' A' s' (t'.mono fun j hj => by simp [muTs]; exact hj))

/-! ### the comprehension -/
theorem Rep.stepW {d : D} {v : V} (h : Rep P H (W Z A) d v) (t : Stp mu A H env A' H' env') : Rep P H' (W Z A') d v :=
  Rep.frame (fun a o e n => t.keep a o e fun j _ q => n (.inr ⟨j, q⟩)) (fun a e n z => by
    rcases z with z | ⟨j, z⟩
    · exact n (.inl z)
    · rcases t.foot j a z with z | z
      · exact n (.inr ⟨j, z⟩)
      · exact e z) _ _ h
/-- the slots is of the state ahead, as they still are -/
def Old (P : GP) (is : List Nat) (env1 : Env) (σ : L2.St) (Z : AS) (A : Ft) (H : Hp) : Prop := ∀ j ∈ is, ∀ d, env1[j]? = some (some d) → ∃ v, σ[j]? = some (some v) ∧ Rep P H (W Z A) d v
theorem Old.step {is : List Nat} (h : Old P is env1 σ Z A H) (t : Stp mu A H env A' H' env') : Old P is env1 σ Z A' H' := fun j hj d e => by
  obtain ⟨v, h1, h2⟩ := h j hj d e
  exact ⟨v, h1, h2.stepW t⟩
theorem SR.back {is : List Nat} (s : SR P T A (wipeE env is) (L2.wipe σ is) H Z) (ho : Old P is env1 σ Z A H) (hA : ∀ j ∈ is, A j = []) (hT : ∀ j ∈ is, ∀ m, T[j]? = some m → m = .sh) (hl : env.length = env1.length) : SR P T A (backE env env1 is) σ H Z where
  ls := by
    have := s.ls
    rw [wipeE_len, wipe_length] at this
    rw [backE_len]; exact this
  lt := by
    have := s.lt
    rw [wipeE_len] at this
    rw [backE_len]; exact this
  val := fun j m d h1 h2 => by
    by_cases hj : j ∈ is
    · rw [backE_in hj hl] at h2
      obtain ⟨v, e1, e2⟩ := ho j hj d h2
      rw [hT j hj m h1, hA j hj]
      exact ⟨v, e1, Own.sh e2⟩
    · rw [backE_out hj] at h2
      obtain ⟨v, e1, q⟩ := s.val j m d h1 (by rw [wipeE_out hj]; exact h2)
      rw [wipe_out hj] at e1
      exact ⟨v, e1, q⟩
  emp := fun j h => by
    by_cases hj : j ∈ is
    · exact hA j hj
    · exact s.emp j fun d q => h d (by rw [wipeE_out hj] at q; rw [backE_out hj]; exact q)
  dj := s.dj
  zA := s.zA
  zc := s.zc
/-- one turn of the comprehension -/
def lcF (Γ : Gam) (tg : Tg) (own : List Nat) (cs : List Fc.T) (elt : E) : D → Env → Out (Option D) := fun d env' => lcTurn tg own d env' fun env2 => (evTs Γ cs env2).bind fun t env3 =>
  iteK t env3 (fun env3 => (evE Γ elt env3).bind fun y env4 => .ok (some y) env4) (fun env3 => .ok none env3)
theorem noExn_ok {α : Type} {o : Out α} {a : α} (h : noExn o = .ok a env) : o = .ok a env := by
  cases o with
  | ok b e => exact h
  | exn _ _ => cases h
  | err => cases h
theorem lcL_cons {turn : D → Env → Out (Option D)} {d z : D} {ds acc : List D} (h : lcL turn (d :: ds) acc env = .ok z env') : ∃ o env1, turn d env = .ok o env1 ∧ (match o with | some y => lenLt acc.length = true ∧ lcL turn ds (acc ++ [y]) env1 = .ok z env' | none => lcL turn ds acc env1 = .ok z env') := by
  unfold lcL at h
  cases e : turn d env with
  | ok o env1 =>
    rw [e] at h
    refine ⟨o, env1, rfl, ?_⟩
    cases o with
    | some y =>
      have h' : (if lenLt acc.length then lcL turn ds (acc ++ [y]) env1 else .err) = .ok z env' := h
      split at h'
      · rename_i hl; exact ⟨hl, h'⟩
      · cases h'
    | none => exact h
  | exn _ _ => rw [e] at h; cases h
  | err => rw [e] at h; cases h
theorem Zf2 {D a : Addr} {F : List Addr} (h : Zf Z [D] a) : Zf (Zf Z [D]) F a := .inl h
theorem not_exn {α β : Type} {x : Out α} {f : α → Env → Out β} {z : β} (h : x.bind f = .ok z env') {e : D} {e' : Env} : x ≠ .exn e e' := fun q => by rw [q] at h; cases h
theorem not_err {α β : Type} {x : Out α} {f : α → Env → Out β} {z : β} (h : x.bind f = .ok z env') : x ≠ .err := fun q => by rw [q] at h; cases h

theorem lc_run (G : Good C P X Ew Γ k) {C' : Ctx} {elt tg iter : Expr} {ifs : List Expr} {scope : Scope} {own : List (Str × Nat)} {pos : Pos} {tg' : Tg} {ik : Ik} {src : List E} {cs : List Fc.T} {e' : E} {r : R} {n0 : Nat}
    (blk : BlkOk X.N X.env.scope scope own) (hset : isSetE iter = false) (hn0 : n0 ∈ mu) (hmu : ∀ j, j ∈ own.map (·.2) ++ (muTs cs ++ muE e') → j ∈ mu) (hmu2 : ∀ j, j ∈ mu → j = n0 ∨ j ∈ own.map (·.2) ++ (muTs cs ++ muE e'))
    (hI : TrI C P X Ew Γ T tg iter ik src mu T1) (hn1 : n0 = T1.length) (hT2 : T2 = shS T1 (own.map (·.2))) (htg : ∀ i ∈ tgS tg', i ∈ own.map (·.2)) (htl : ∀ i ∈ tgS tg', i < T1.length) (hle0 : leT T2 (shS T2 (tgS tg')) = true) (hle1 : leT T2 (frz T' [r]) = true) (hle2 : leT T2 T3 = true)
    (hg : ∀ (s : Shared) (H : Hp) (Cc : Addr) (cl : List (Str × Addr)) (fp : List Addr), PG (X.blk s H scope (compEnvC scope cl Cc X.env) fp) tg (gT X.K tg'))
    (ht : ∀ (s : Shared) (H : Hp) (Cc : Addr) (cl : List (Str × Addr)) (fp : List Addr), TrTs C' P (X.blk s H scope (compEnvC scope cl Cc X.env) fp) (fun _ _ _ _ => False) Γ T2 ifs cs T3)
    (he : ∀ (s : Shared) (H : Hp) (Cc : Addr) (cl : List (Str × Addr)) (fp : List Addr), TrE C' P (X.blk s H scope (compEnvC scope cl Cc X.env) fp) (fun _ _ _ _ => False) Γ T3 elt e' r T') :
    ∀ A env σ H Z Q, SR P T A env σ H Z → evE Γ (.lc e' tg' ik src cs (own.map (·.2))) env ≠ .err → OkE P (evE Γ (.lc e' tg' ik src cs (own.map (·.2))) env) (muE (.lc e' tg' ik src cs (own.map (·.2)))) T2 .top A env σ H Z Q →
      ExE C P Ew (evE Γ (.lc e' tg' ik src cs (own.map (·.2))) env) (muE (.lc e' tg' ik src cs (own.map (·.2)))) A env σ H Z →
      tLc (WI X tg iter) (gT X.K tg') (fun σ H Q => ∀ (s : Shared) (H0 : Hp) (Cc : Addr) (cl : List (Str × Addr)) (fp : List Addr), WTs (X.blk s H0 scope (compEnvC scope cl Cc X.env) fp) ifs σ H Q)
        (fun σ H Q => ∀ (s : Shared) (H0 : Hp) (Cc : Addr) (cl : List (Str × Addr)) (fp : List Addr), WE (X.blk s H0 scope (compEnvC scope cl Cc X.env) fp) elt σ H Q) (own.map (·.2)) σ H Q := by
  intro A env σ H Z Q s ne ok ex
  generalize hix : own.map (·.2) = ix at *
  have ee : evE Γ (.lc e' tg' ik src cs ix) env = (evEs Γ src env).bind fun ds env1 => itemsK (itemsD ik ds) fun xs => lcEnd ix env1 (lcL (lcF Γ tg' ix cs e') xs [] env1) := rfl
  rw [ee] at ne ok ex
  refine hI A env σ H Z _ s (bind_ne ne) (fun ds env1 e1 => ?_) (ex.go (fun x e' e => bind_exn e) Stp.refl (fun j hj => by simp [muE] at hj ⊢; exact .inl hj))
  rw [bind_ok e1] at ne ok
  cases hxs : itemsD ik ds with
  | none => rw [hxs] at ne; exact absurd rfl ne
  | some xs =>
    rw [hxs] at ne ok
    refine ⟨xs, rfl, fun J S H1 A1 s1 t1 src0 hS D hD => ?_⟩
    have ne : lcEnd ix env1 (lcL (lcF Γ tg' ix cs e') xs [] env1) ≠ .err := ne
    have ok : OkE P (lcEnd ix env1 (lcL (lcF Γ tg' ix cs e') xs [] env1)) (muE (.lc e' tg' ik src cs ix)) T2 .top A env σ H Z Q := ok
    obtain ⟨z, envz, hz⟩ : ∃ z envz, lcL (lcF Γ tg' ix cs e') xs [] env1 = .ok z envz := by
      cases q : lcL (lcF Γ tg' ix cs e') xs [] env1 with
      | ok z envz => exact ⟨z, envz, rfl⟩
      | exn _ _ => rw [q] at ne; exact absurd rfl ne
      | err => rw [q] at ne; exact absurd rfl ne
    rw [hz] at ok
    -- the state ahead of the turns
    have s2 : SR P T2 (thawS A1 ix) env1 σ H1 Z := by rw [hT2]; exact SR.thawS s1
    have t2 : Stp [] A1 H1 env1 (thawS A1 ix) H1 env1 := Stp.thawS
    have old0 : Old P ix env1 σ Z (thawS A1 ix) H1 := fun j hj d e => by
      have hjl : j < T2.length := by rw [s2.lt]; exact (List.getElem?_eq_some_iff.mp e).1
      obtain ⟨v, e1', q⟩ := s2.val j _ d (List.getElem?_eq_getElem hjl) e
      have em : T2[j] = .sh := shS_get (T := T1) hj (by rw [← hT2]; exact List.getElem?_eq_getElem hjl)
      rw [em] at q
      exact ⟨v, e1', q.sh_rep.2⟩
    have hT2sh : ∀ j ∈ ix, ∀ m, T2[j]? = some m → m = .sh := fun j hj m e => shS_get (T := T1) hj (by rw [← hT2]; exact e)
    have st0 : Stp mu A1 H1 env1 (plusF n0 (thawS A1 ix) D) (upd H1 D (.lst [])) env1 := (t2.trans (Stp.plus_new (A := thawS A1 ix) hD)).mono fun j hj => absurd hj (by simp)
    have oldP : Old P ix env1 σ Z (plusF n0 (thawS A1 ix) D) (upd H1 D (.lst [])) := old0.step (Stp.plus_new (A := thawS A1 ix) (env := env1) hD)
    have s3 : SR P T2 (thawS A1 ix) env1 σ (upd H1 D (.lst [])) (Zf Z [D]) := s2.growF (grow_upd hD) (fresh1 hD) cell_new
    have hDA1 : ∀ j, D ∉ A1 j := fun j q => by
      obtain ⟨o, e, _⟩ := s1.cell q
      rw [hD] at e
      cases e
    refine ⟨fun i m H' => m = xs.length - i ∧ i ≤ xs.length ∧ ∃ (A' : Ft) (envc : Env) (acc : List Fc.D) (accv : List V), SR P T2 A' (wipeE envc ix) (wipe σ ix) H' (Zf Z [D]) ∧ S (plusF n0 A' D) H' ∧ Old P ix env1 σ Z (plusF n0 A' D) H' ∧
        H' D = some (.lst accv) ∧ Reps P H' (W (Zf Z [D]) A') acc accv ∧ Stp mu A1 H1 env1 A' H' envc ∧ (∀ j ∈ ix, A' j = []) ∧ lcL (lcF Γ tg' ix cs e') (xs.drop i) acc envc = .ok z envz,
      ⟨xs.length, by simp, Nat.zero_le _, thawS A1 ix, env1, [], [], s3.wipe (fun j hj => thawS_in hj), src0.step hS st0, oldP, upd_same, rfl, ?_, fun j hj => thawS_in hj, by simpa using hz⟩, ?_⟩
    · exact ((t2.updF (o := .lst []) hD).mono fun j hj => absurd hj (by simp))
    rintro i m H' ⟨rfl, hi, A', envc, acc, accv, q1, q2, q3, q4, q5, q6, q7, q8⟩
    have cel : Cells H' (W Z (plusF n0 A' D)) := fun a h => q1.cells a (W_plus.mp h)
    by_cases hlt : i < xs.length
    · refine .inr ⟨(src0.item q2 cel (List.getElem?_eq_getElem hlt)).1, fun H5 => ?_, ?_⟩
      · exact ∃ (A' : Ft) (envc : Env) (acc : List Fc.D) (accv : List V), SR P T2 A' (wipeE envc ix) (wipe σ ix) H5 (Zf Z [D]) ∧ S (plusF n0 A' D) H5 ∧ Old P ix env1 σ Z (plusF n0 A' D) H5 ∧
          H5 D = some (.lst accv) ∧ Reps P H5 (W (Zf Z [D]) A') acc accv ∧ Stp mu A1 H1 env1 A' H5 envc ∧ (∀ j ∈ ix, A' j = []) ∧ lcL (lcF Γ tg' ix cs e') (xs.drop (i + 1)) acc envc = .ok z envz
      refine ⟨fun H5 h5 => ⟨xs.length - (i + 1), by omega, rfl, hlt, h5⟩, fun x H2 y => ?_⟩
      obtain ⟨gr, rx⟩ := (src0.item q2 cel (List.getElem?_eq_getElem hlt)).2 x H2 y
      rw [List.drop_eq_getElem_cons hlt] at q8
      obtain ⟨o, env3, ht1, ht2⟩ := lcL_cons q8
      have ht1 : lcTurn tg' ix xs[i] envc (fun env2 => (evTs Γ cs env2).bind fun t env3 => iteK t env3 (fun env3 => (evE Γ e' env3).bind fun y env4 => .ok (some y) env4) (fun env3 => .ok none env3)) = .ok o env3 := ht1
      unfold lcTurn at ht1
      cases ha : asgT tg' xs[i] (wipeE envc ix) with
      | none => rw [ha] at ht1; cases ht1
      | some env2 =>
        rw [ha] at ht1
        have ht1 := noExn_ok ht1
        have q1' := q1.grow gr
        have rx' : Rep P H2 (W (Zf Z [D]) A') xs[i] x := Rep.less (fun a z => W_plus.mpr z) rx
        have el : (wipeE envc ix).length = T1.length := by
          have := q1.lt
          rw [← this, hT2]
          have : ∀ (is : List Nat) (T : List M), (shS T is).length = T.length := fun is T => by
            induction is with
            | nil => rfl
            | cons i is ih => simp [shS, ih]
          exact this _ _
        refine tg_run G.K tg' xs[i] x T2 A' (wipeE envc ix) (wipe σ ix) env2 _ q1' (fun i hi => by rw [el]; exact htl i hi) rx' ha fun σ2 T4 A3 s4 l4 t4 g4 sub4 => ?_
        have hw : wipe σ2 ix = wipe σ ix := by
          have : wipe σ2 ix = wipe (wipe σ ix) ix := wipe_eq g4.len fun j hj => g4.same j fun q => hj (htg j q)
          rw [this]
          exact wipe_eq (wipe_length _ _) fun j hj => wipe_out hj
        refine ⟨hw, ?_⟩
        have s5 := s4.weak (leT_trans hle0 l4)
        have tA : Stp mu A' H' envc A3 H2 env2 := by
          have a1 : Stp mu A' H' envc A' H2 (wipeE envc ix) := ⟨fun a o e _ => gr a o e, (fun a e => by
            cases q : H' a with
            | none => exact absurd q e
            | some o => rw [gr a o q]; exact fun z => nomatch z), fun j hj => wipeE_out fun q => hj (hmu j (List.mem_append_left _ q)), fun _ _ h => .inl h, wipeE_len⟩
          exact (a1.trans t4).mono fun j hj => by
            rcases List.mem_append.mp hj with h | h
            · exact h
            · exact hmu j (List.mem_append_left _ (htg j h))
        have tB : Stp mu A' H' envc (keepF T2 A3) H2 env2 := (tA.trans Stp.weak).mono fun j hj => by simpa using hj
        intro s0' H0' Cc cl fp
        refine ht s0' H0' Cc cl fp _ env2 σ2 H2 (Zf Z [D]) _ s5 (not_err ht1) (fun b env4 e4 H3 A4 s6 t6 => ?_) (fun x e'' e => absurd e (not_exn ht1))
        have ht1 : ((evTs Γ cs env2).bind fun t env3 => iteK t env3 (fun env3 => (evE Γ e' env3).bind fun y env4 => .ok (some y) env4) (fun env3 => .ok none env3)) = .ok o env3 := ht1
        rw [bind_ok e4] at ht1
        have tC : Stp mu A' H' envc A4 H3 env4 := (tB.trans t6).mono fun j hj => by
          rcases List.mem_append.mp hj with h | h
          · exact h
          · exact hmu j (List.mem_append_right _ (List.mem_append_left _ h))
        have keepD : ∀ {A5 H5 env5}, Stp mu A' H' envc A5 H5 env5 → H5 D = some (.lst accv) := fun {A5 H5 env5} t => t.keep D _ q4 fun j _ q => q1.zA j D q (.inr (by simp))
        have noix : ∀ (T0 : List M) (A0 : Ft), leT T2 T0 = true → ∀ j ∈ ix, keepF T2 A0 j = [] := fun T0 A0 _ j hj => by
          unfold keepF
          split
          · rename_i e
            have := hT2sh j hj _ e
            cases this
          · rfl
        cases b with
        | false =>
          have ht1 : Out.ok none env4 = .ok o env3 := ht1
          injection ht1 with ho he3
          subst ho he3
          have s7 := s6.weak hle2
          have tD : Stp mu A' H' envc (keepF T2 A4) H3 env4 := (tC.trans Stp.weak).mono fun j hj => by simpa using hj
          refine ⟨keepF T2 A4, env4, acc, accv, ?_, src0.step q2 tD.plus, q3.step (tD.plus (n0 := n0) (D := D)), keepD tD, ?_, (q6.trans tD).mono (fun j hj => by simpa using hj), noix T3 A4 hle2, ht2⟩
          · have := s7.wipe (noix T3 A4 hle2)
            rw [hw] at this
            exact this
          · exact reps_step q5 tD
        | true =>
          have ht1 : ((evE Γ e' env4).bind fun y env4 => .ok (some y) env4) = .ok o env3 := ht1
          intro s0'' H0'' Cc' cl' fp'
          refine he s0'' H0'' Cc' cl' fp' A4 env4 σ2 H3 (Zf Z [D]) _ s6 (not_err ht1) (fun y env5 e5 v H4 A5 F5 f5 s8 t8 r8 => ?_) (fun x e'' e => absurd e (not_exn ht1))
          rw [bind_ok e5] at ht1
          have ht1 : Out.ok (some y) env5 = .ok o env3 := ht1
          injection ht1 with ho he3
          subst ho he3
          have s9 := (SR.thawL (rs := [r]) s8).drop
          have ry := r8.free s8 (by simp) (fun a z => .inl z) (fresh_notZ s6 f5) (fun a ha => .inr ha) (rs := [r]) (Z' := Zf Z [D])
          have s10 := s9.weak hle1
          have tD : Stp mu A' H' envc A5 H4 env5 := (tC.trans t8).mono fun j hj => by
            rcases List.mem_append.mp hj with h | h
            · exact h
            · exact hmu j (List.mem_append_right _ (List.mem_append_right _ h))
          have tE : Stp mu A' H' envc (keepF T2 (thawL A5 [r])) H4 env5 := ((tD.trans Stp.thawL).trans Stp.weak).mono fun j hj => by simpa using hj
          have hD4 := keepD tE
          obtain ⟨hl, ht2⟩ := ht2
          have hl' : acc.length < sizeLine := of_decide_eq_true hl
          rw [q5.length] at hl'
          have hDn : H4 D ≠ none := by rw [hD4]; exact fun z => nomatch z
          have upS : Stp mu (plusF n0 (keepF T2 (thawL A5 [r])) D) H4 env5 (plusF n0 (keepF T2 (thawL A5 [r])) D) (upd H4 D (.lst (accv ++ [v]))) env5 := Stp.plus_upd hn0 hDn
          have upR : ∀ {ds : List Fc.D} {vs : List V}, Reps P H4 (W (Zf Z [D]) (keepF T2 (thawL A5 [r]))) ds vs → Reps P (upd H4 D (.lst (accv ++ [v]))) (W (Zf Z [D]) (keepF T2 (thawL A5 [r]))) ds vs := fun h =>
            Reps.frame (fun a u e n => fc_keep1 a u e fun z => n (.inl (.inr (by simp [z])))) (fun _ _ n => n) _ _ h
          refine ⟨accv, hD4, hl', keepF T2 (thawL A5 [r]), env5, acc ++ [y], accv ++ [v], ?_, src0.step (src0.step q2 tE.plus) upS, (q3.step (tE.plus (n0 := n0) (D := D))).step upS, upd_same, ?_, ?_, noix _ _ hle1, ht2⟩
          · have := (s10.wipe (noix _ _ hle1)).writeZ (D := D) (o := .lst (accv ++ [v])) (.inr (by simp)) rfl
            rw [hw] at this
            exact this
          · exact upR ((reps_step q5 tE).append (.one (Rep.less (fun a z => W_keepF z) ry)))
          · exact ((q6.trans tE).updF hD).mono fun j hj => by simpa using hj
    · have e : i = xs.length := by omega
      subst e
      refine .inl ⟨src0.stop q2 (Nat.le_refl _), ?_⟩
      rw [List.drop_length] at q8
      have q8 : Out.ok (Fc.D.lst acc) envc = .ok z envz := q8
      injection q8 with hz1 hz2
      subst hz1 hz2
      have q3' : Old P ix env1 σ (Zf Z [D]) A' H' := fun j hj d e => by
        obtain ⟨v, h1, h2⟩ := q3 j hj d e
        exact ⟨v, h1, Rep.less (fun a z => W_plus.mpr z) h2⟩
      have lenv : envc.length = env1.length := q6.len
      refine ok (.lst acc) _ rfl (.ref D) H' A' [D] (fun a ha => ?_) (q1.back q3' q7 hT2sh lenv) ?_ ⟨D, accv, rfl, rfl, q4, q5⟩
      · obtain rfl : a = D := by simpa using ha
        cases q : H a with
        | none => rfl
        | some u => exact absurd hD (t1.thr a (by rw [q]; exact fun z => nomatch z))
      · have tb : Stp mu A1 H1 env1 A' H' (backE envc env1 ix) := ⟨q6.keep, q6.thr, fun j hj => by
          rw [backE_out fun q => hj (hmu j (List.mem_append_left _ q))]
          exact q6.same j hj, q6.foot, by rw [backE_len]; exact q6.len⟩
        have tc := t1.trans tb
        have hn : env[n0]? = none := by
          rw [List.getElem?_eq_none]
          have := s1.lt
          have := t1.len
          omega
        have hnA : A n0 = [] := s.emp n0 fun d q => by rw [hn] at q; cases q
        have hm : ∀ j, j ∈ muEs src ++ mu → j = n0 ∨ j ∈ muE (.lc e' tg' ik src cs ix) := fun j hj => by
          rcases List.mem_append.mp hj with h | h
          · exact .inr (by simp [muE]; exact .inl h)
          · rcases hmu2 j h with h | h
            · exact .inl h
            · exact .inr (by simp [muE] at h ⊢; exact .inr h)
        refine ⟨fun a o e n => tc.keep a o e fun j hj q => ?_, tc.thr, fun j hj => ?_, tc.foot, tc.len⟩
        · rcases hm j hj with h | h
          · subst h; rw [hnA] at q; cases q
          · exact n j h q
        · by_cases e : j = n0
          · subst e
            rw [hn, List.getElem?_eq_none]
            rw [tc.len]
            have := s1.lt
            have := t1.len
            omega
          · exact tc.same j fun q => (hm j q).elim e hj
theorem pts_blk {scope : Scope} {ifs : List Expr} (s0 : Shared) (H0 : Hp) (Cc : Addr) (cl : List (Str × Addr)) (fp : List Addr) : PTs (X.blk s0 H0 scope (compEnvC scope cl Cc X.env) fp) ifs (fun σ H Q => ∀ (s : Shared) (H0 : Hp) (Cc : Addr) (cl : List (Str × Addr)) (fp : List Addr), WTs (X.blk s H0 scope (compEnvC scope cl Cc X.env) fp) ifs σ H Q) :=
  ⟨fun pins s1 σ1 H1 Q1 I1 h1 => (ptsW (X := X.blk s0 H0 scope (compEnvC scope cl Cc X.env) fp) (ifs := ifs)).run pins s1 σ1 H1 Q1 I1 (h1 s0 H0 Cc cl fp)⟩
theorem pe_blk {scope : Scope} {elt : Expr} (s0 : Shared) (H0 : Hp) (Cc : Addr) (cl : List (Str × Addr)) (fp : List Addr) : PE (X.blk s0 H0 scope (compEnvC scope cl Cc X.env) fp) elt (fun σ H Q => ∀ (s : Shared) (H0 : Hp) (Cc : Addr) (cl : List (Str × Addr)) (fp : List Addr), WE (X.blk s H0 scope (compEnvC scope cl Cc X.env) fp) elt σ H Q) :=
  ⟨fun pins s1 σ1 H1 Q1 I1 h1 => (peW (X := X.blk s0 H0 scope (compEnvC scope cl Cc X.env) fp) (e := elt)).run pins s1 σ1 H1 Q1 I1 (h1 s0 H0 Cc cl fp)⟩
theorem tr_lc (G : Good C P X Ew Γ k) {C' : Ctx} {elt tg iter : Expr} {ifs : List Expr} {scope : Scope} {own : List (Str × Nat)} {pos : Pos} {tg' : Tg} {ik : Ik} {src : List E} {cs : List Fc.T} {e' : E} {r : R} {n0 : Nat}
    (blk : BlkOk X.N X.env.scope scope own) (hset : isSetE iter = false) (hn0 : n0 ∈ mu) (hmu : ∀ j, j ∈ own.map (·.2) ++ (muTs cs ++ muE e') → j ∈ mu) (hmu2 : ∀ j, j ∈ mu → j = n0 ∨ j ∈ own.map (·.2) ++ (muTs cs ++ muE e'))
    (hI : TrI C P X Ew Γ T tg iter ik src mu T1) (hn1 : n0 = T1.length) (hT2 : T2 = shS T1 (own.map (·.2))) (htg : ∀ i ∈ tgS tg', i ∈ own.map (·.2)) (htl : ∀ i ∈ tgS tg', i < T1.length) (hle0 : leT T2 (shS T2 (tgS tg')) = true) (hle1 : leT T2 (frz T' [r]) = true) (hle2 : leT T2 T3 = true)
    (hg : ∀ (s : Shared) (H : Hp) (Cc : Addr) (cl : List (Str × Addr)) (fp : List Addr), PG (X.blk s H scope (compEnvC scope cl Cc X.env) fp) tg (gT X.K tg'))
    (ht : ∀ (s : Shared) (H : Hp) (Cc : Addr) (cl : List (Str × Addr)) (fp : List Addr), TrTs C' P (X.blk s H scope (compEnvC scope cl Cc X.env) fp) (fun _ _ _ _ => False) Γ T2 ifs cs T3)
    (he : ∀ (s : Shared) (H : Hp) (Cc : Addr) (cl : List (Str × Addr)) (fp : List Addr), TrE C' P (X.blk s H scope (compEnvC scope cl Cc X.env) fp) (fun _ _ _ _ => False) Γ T3 elt e' r T') :
    TrE C P X Ew Γ T (.ListComp elt [⟨tg, iter, ifs, 0⟩] scope pos) (.lc e' tg' ik src cs (own.map (·.2))) .top T2 := fun A env σ H Z Q s ne ok ex =>
  .of (pe_lc G.calm G.nd piW blk hg pts_blk pe_blk (fold_ok hset)) (lc_run (pos := pos) G blk hset hn0 hmu hmu2 hI hn1 hT2 htg htl hle0 hle1 hle2 hg ht he A env σ H Z Q s ne ok ex)
end
end Fc
end

section
/-! Statements. -/
namespace Fc
open PySem L2

/-! the slots that a statement stores -/
mutual
def asS : S → List Nat
  | .asg t _ => tgS t
  | .par ts _ => ts
  | .aug i _ _ => [i]
  | .ife _ a b => asSs a ++ asSs b
  | .whl _ b => asSs b
  | .loop tg _ _ b => tgS tg ++ asSs b
  | .tryx b _ i h => asSs b ++ (i.toList ++ asSs h)
  | _ => []
def asSs : List S → List Nat
  | [] => []
  | s :: ss => asS s ++ asSs ss
end
def isLC : Expr → Bool
  | .ListComp .. => true | .SetComp .. => true | .DictComp .. => true
  | _ => false
def lcLine (p : Pos) (x : Str) : Expr → Bool
  | .ListComp _ _ scope pos => (p.line == pos.line) && !(scope.names.any fun (n, k) => n == x && (k == .local || k == .cell))
  | _ => false
def auOf : Operator → Option Op
  | .Add => some .add
  | .Sub => some .sub
  | _ => none
def inT1 (T : List M) (is : List Nat) : Bool := is.all fun i => decide (i < T.length)
/-- the modes behind a join; none: never gets there -/
def joinO : Option (List M) → Option (List M) → Option (List M)
  | none, t => t
  | t, none => t
  | some a, some b => some (meetT a b)
def leO (T : List M) : Option (List M) → Bool
  | none => true
  | some T' => leT T T'
def lenO (T : List M) : Option (List M) → Bool
  | none => true
  | some T' => T'.length == T.length
def stR : R → M
  | .top => .top
  | _ => .sh
/-- may r be returned -/
def retOk (C : Ctx) (T : List M) (r : R) : Bool :=
  match C.res with
  | .top => (match r with | .top => true | .imm => true | .bor i => decide (T[i]? = some .top) && !C.io.contains i | .sh => false)
  | _ => true
def ioTop (C : Ctx) (T : List M) : Bool := C.io.all fun i => decide (T[i]? = some .top)
def names2 : List Expr → Option (Str × Str × Pos × Pos)
  | [.Name x px, .Name y py] => some (x, y, px, py)
  | _ => none
def names3 : List Expr → Option (Str × Str × Str × Pos × Pos × Pos)
  | [.Name x px, .Name y py, .Name z pz] => some (x, y, z, px, py, pz)
  | _ => none
def isLoc (C : Ctx) (x : Str) : Bool := decide (C.sc.names.lookup x = some .local)
def allFold (es : List Expr) : Bool := es.all (foldedForSure 8)
def allCon (es : List Expr) : Bool := es.all (constantsAlone 8)
/-- a suite is taken for a loop's invariant: a first guess, then the meet -/
def guess (f : List M → Option (Option (List M))) : Nat → List M → List M
  | 0, T => T
  | n + 1, T => match f T with
    | some (some T') => if leT T T' then T else guess f n (meetT T T')
    | _ => T
set_option maxHeartbeats 4000000
mutual
def cS (C : Ctx) : Nat → List M → Stmt → Option (S × Option (List M))
  | 0, _, _ => none
  | n + 1, T, st => match st with
    | .Pass _ => some (.pass, some T)
    | .Expr (.Constant (.str _) _ _) _ => some (.pass, some T)
    | .Expr e _ => if isLC e then none else match cE C n T e with
      | some (e', _, T1) => some (.ex e', some T1)
      | none => none
    | .Assign [.Name x px] e _ => match stOf C x, cE C n T e with
      | some i, some (e', r, T1) => if (!isLC e || (lcLine px x e && isLoc C x)) && inT1 T1 [i] then some (.asg (.nm i) e', some ((frz T1 [r]).set i (stR r))) else none
      | _, _ => none
    | .Assign [.Tuple ts k pt] e pos =>
      match e with
      | .Tuple es k2 p2 => if allFold es then (match cTg C n (.Tuple ts k pt), cE C n T e with
          | some t, some (e', r, T1) => if inT1 T1 (tgS t) then some (.asg t e', some (shS (frz T1 [r]) (tgS t))) else none
          | _, _ => none)
        else (match names2 ts, es with
          | some (x, y, px, py), [a, b] => match stOf C x, stOf C y, cEs C n T es with
            | some i, some j, some (es', rs, T1) => if isLoc C x && isLoc C y && decide (i ≠ j) && (x != y) && (px.line == py.line) && !allCon es && !starred a && !starred b && inT1 T1 [i, j]
                then some (.par [i, j] es', some (((frz T1 rs).set i .sh).set j .sh)) else none
            | _, _, _ => none
          | _, _ => match names3 ts, es with
            | some (x, y, z, px, py, pz), [a, b, c] => match stOf C x, stOf C y, stOf C z, cEs C n T es with
              | some i, some j, some l, some (es', rs, T1) => if isLoc C x && isLoc C y && isLoc C z && decide (i ≠ j) && decide (i ≠ l) && decide (j ≠ l) && (x != y) && (x != z) && (y != z) && (px.line == py.line) && (px.line == pz.line) && !allCon es && !starred a && !starred b && !starred c && inT1 T1 [i, j, l]
                  then some (.par [i, j, l] es', some ((((frz T1 rs).set i .sh).set j .sh).set l .sh)) else none
              | _, _, _, _ => none
            | _, _ => none)
      | _ => match cTg C n (.Tuple ts k pt), cE C n T e with
        | some t, some (e', r, T1) => if !isLC e && inT1 T1 (tgS t) then some (.asg t e', some (shS (frz T1 [r]) (tgS t))) else none
        | _, _ => none
    | .Assign [.Subscript (.Name x _) ix _] e _ => match slotOf C x, cE C n T e with
      | some i, some (e', r, T1) => match cE C n T1 ix with
        | some (ix', _, T2) => if T[i]? = some .top ∧ (frz T2 [r])[i]? = some .top ∧ okNext r ix' ∧ !isSliceE ix ∧ !isLC e ∧ !(x == ("__debug__" : Str) || x == ("__classdict__" : Str)) then some (.seti i [] ix' e', some (frz T2 [r])) else none
        | none => none
      | _, _ => none
    | .AugAssign (.Name x _) o e _ => match stOf C x, auOf o, cE C n T e with
      | some i, some o', some (e', _, T1) => if !(muE e').contains i && inT1 T1 [i] then some (.aug i o' e', some (T1.set i .sh)) else none
      | _, _, _ => none
    | .Return (some e) _ => match cE C n T e with
      | some (e', r, T1) => if retOk C T1 r && ioTop C (frz T1 [r]) then some (.ret e', none) else none
      | none => none
    | .Return none _ => if ioTop C T then some (.ret (.con .non), none) else none
    | .If c a b _ => match cT C n T c with
      | some (c', T1) => match cSs C n T1 a, cSs C n T1 b with
        | some (a', Ta), some (b', Tb) => if lenO T Ta && lenO T Tb then some (.ife c' a' b', joinO Ta Tb) else none
        | _, _ => none
      | none => none
    | .While c b [] _ =>
      match cT C n (guess (fun T => match cT C n T c with
          | some (_, T1) => (cSs C n T1 b).map (·.2)
          | none => none) 4 T) c with
      | some (c', T1) => match cSs C n T1 b with
        | some (b', T2) =>
          let Ti := guess (fun T => match cT C n T c with
            | some (_, T1) => (cSs C n T1 b).map (·.2)
            | none => none) 4 T
          if leT Ti T && leO Ti T2 then some (.whl c' b', some T1) else none
        | none => none
      | none => none
    | .For tg iter b [] _ => match cI C n T tg iter, cTg C n tg with
      | some (ik, src, rs, T1), some tg' =>
        let Ti := guess (fun T => (cSs C n (shS T (tgS tg')) b).map (·.2)) 4 T1
        match cSs C n (shS Ti (tgS tg')) b with
        | some (b', T2) =>
          if leT Ti T1 && leO Ti T2 && leT Ti (shS Ti (tgS tg')) && inT1 T1 (tgS tg') && !isSetE iter && rs.all (fun r => r.noBor (tgS tg' ++ muSs b')) then some (.loop tg' ik src b', some Ti) else none
        | none => none
      | _, _ => none
    | _ => none
def cSs (C : Ctx) : Nat → List M → List Stmt → Option (List S × Option (List M))
  | 0, _, _ => none
  | n + 1, T, ss => match ss with
    | [] => some ([], some T)
    | s :: ss => match cS C n T s with
      | some (s', some T1) => match cSs C n T1 ss with
        | some (ss', T2) => some (s' :: ss', T2)
        | none => none
      | some (s', none) => match ss with
        | [] => some ([s'], none)
        | _ => none
      | none => none
end
end Fc
end

section
/-! The induction over expressions. -/
namespace Fc
open PySem L2 PySem.Spec
open PyProof.Rows hiding St
section
variable {C : Ctx} {P : GP} {X : Cx} {Ew : L2.St → XK} {Γ : Gam} {k : Nat}
theorem Good.blk (G : Good C P X Ew Γ k) (scope : Scope) (s : Shared) (H : Hp) (Cc : Addr) (cl : List (Str × Addr)) (fp : List Addr) :
    Good (blkCtx C scope) P (X.blk s H scope (compEnvC scope cl Cc X.env) fp) (fun _ _ _ _ => False) Γ k where
  N := G.N
  sc := by
    show relS scope X.env.scope = relS scope C.sc
    rw [G.sc]
  nd := G.nd
  calm := G.calm
  K := G.K
  room := G.room
  con := G.con
  bn := G.bn
  fn := G.fn
  pass := fun σ pins H0 s0 e s' I c => by
    obtain ⟨_, _, _, _, _, _, _, _, _, _, _, _, h⟩ := c
    exact h.elim
theorem ownSt_ok {scope sc : Scope} {x : Str} (h : ownSt scope x = true) : Loc (relS scope sc) x ∧ ((scope.names.lookup x == some .cell) = true ∨ (relS scope sc).names.lookup x = some .local) := by
  unfold ownSt at h
  split at h
  · rename_i e
    have := lookup_relS_keep (sc := sc) (names := scope.names) (x := x) (k := .local) (by simp) e
    exact ⟨.inl this, .inr this⟩
  · rename_i e
    have := lookup_relS_keep (sc := sc) (names := scope.names) (x := x) (k := .cell) (by simp) e
    exact ⟨.inr this, .inl (by rw [e]; rfl)⟩
  · cases h
theorem Good.blkT (G : Good C P X Ew Γ k) (scope : Scope) (s : Shared) (H : Hp) (Cc : Addr) (cl : List (Str × Addr)) (fp : List Addr) :
    GoodT (blkCtx C scope) (X.blk s H scope (compEnvC scope cl Cc X.env) fp) where
  N := G.N
  sc := by
    show relS scope X.env.scope = relS scope C.sc
    rw [G.sc]
  nd := G.nd
  calm := G.calm
  st := fun x h => ownSt_ok h
end
end Fc
end

section
/-! The induction over expressions, 2. -/
namespace Fc
open PySem L2 PySem.Spec
open PyProof.Rows hiding St
structure Snd (P : GP) (Γ : Gam) (k n : Nat) : Prop where
  x : ∀ {C : Ctx} {X : Cx} {Ew : L2.St → XK}, Good C P X Ew Γ k → ∀ T e c r T', cX C n T e = some (c, r, T') → TrE C P X Ew Γ T e c r T'
  e : ∀ {C : Ctx} {X : Cx} {Ew : L2.St → XK}, Good C P X Ew Γ k → ∀ T e c r T', cE C n T e = some (c, r, T') → TrE C P X Ew Γ T e c r T'
  p : ∀ {C : Ctx} {X : Cx} {Ew : L2.St → XK}, Good C P X Ew Γ k → ∀ T o f c T', cP C n T o = some (f, c, T') → TrP C P X Ew Γ T o f c T'
  es : ∀ {C : Ctx} {X : Cx} {Ew : L2.St → XK}, Good C P X Ew Γ k → ∀ T es cs rs T', cEs C n T es = some (cs, rs, T') → TrA C P X Ew Γ T es cs rs T'
  b : ∀ {C : Ctx} {X : Cx} {Ew : L2.St → XK}, Good C P X Ew Γ k → ∀ T o es pos c r T', cB C n T o es = some (c, r, T') → r = .sh ∧ TrE C P X Ew Γ T (.BoolOp o es pos) c .sh T'
  t : ∀ {C : Ctx} {X : Cx} {Ew : L2.St → XK}, Good C P X Ew Γ k → ∀ T e c T', cT C n T e = some (c, T') → TrT C P X Ew Γ T e c T'
  bt : ∀ {C : Ctx} {X : Cx} {Ew : L2.St → XK}, Good C P X Ew Γ k → ∀ T o es pos c T', cBT C n T o es = some (c, T') → TrW C P X Ew Γ T (.BoolOp o es pos) c T'
  i : ∀ {C : Ctx} {X : Cx} {Ew : L2.St → XK}, Good C P X Ew Γ k → ∀ T tg e ik src rs T' mu, cI C n T tg e = some (ik, src, rs, T') → rs.all (fun r => r.noBor mu) = true → TrI C P X Ew Γ T tg e ik src mu T'
  ifs : ∀ {C : Ctx} {X : Cx} {Ew : L2.St → XK}, Good C P X Ew Γ k → ∀ T es cs T', cIfs C n T es = some (cs, T') → TrTs C P X Ew Γ T es cs T'
section
variable {P : GP} {Γ : Gam} {k n : Nat} {C : Ctx} {X : Cx} {Ew : L2.St → XK}
theorem or_ff {a b : Bool} (h : ¬ (a || b) = true) : a = false ∧ b = false := by
  cases a <;> cases b <;> simp_all
theorem nn {b : Bool} (h : (!b) = true) : b = false := by cases b <;> simp_all
set_option maxHeartbeats 8000000
theorem snd_x (ih : Snd P Γ k n) (G : Good C P X Ew Γ k) (T e c r T') (h : cX C (n + 1) T e = some (c, r, T')) : TrE C P X Ew Γ T e c r T' := by
  unfold cX at h
  simp only at h
  split at h
  · split at h
    · rename_i a' T1 ha
      split at h
      · rename_i hb
        cases h
        exact tr_rep G (ih.e G _ _ _ _ _ ha) (ih.e G _ _ _ _ _ hb)
      · cases h
    · cases h
  · split at h
    · rename_i ha
      cases h
      exact tr_rev G (ih.e G _ _ _ _ _ ha)
    · cases h
  · split at h
    · rename_i hm ha
      split at h
      · rename_i hc
        cases h
        exact tr_mth0 G hm (ih.e G _ _ _ _ _ ha) hc.1 hc.2
      · cases h
    · cases h
  · split at h
    · rename_i hm ha
      split at h
      · rename_i hb
        split at h
        · rename_i hc
          cases h
          exact tr_mth1 G hm (ih.e G _ _ _ _ _ ha) (ih.e G _ _ _ _ _ hb) hc.2.2.2 hc.1 hc.2.2.1 hc.2.1
        · cases h
      · cases h
    · cases h
  · split at h
    · rename_i hb ha
      split at h
      · rename_i hc
        cases h
        exact tr_bltX G hb (ih.e G _ _ _ _ _ ha) hc
      · cases h
    · cases h
  · split at h
    · rename_i hk
      split at h
      · rename_i hc
        cases h
        exact tr_dic hk hc.1 hc.2
      · cases h
    · cases h
  · split at h
    · rename_i hx
      split at h
      · rename_i ha ht
        split at h
        · cases h
        · rename_i hst
          cases h
          exact tr_isi G hx ht (ih.e G _ _ _ _ _ ha) (by simpa using hst)
      · cases h
    · cases h
  · cases h
theorem snd_e (ih : Snd P Γ k n) (G : Good C P X Ew Γ k) (T e c r T') (h : cE C (n + 1) T e = some (c, r, T')) : TrE C P X Ew Γ T e c r T' := by
  unfold cE at h
  simp only at h
  split at h
  · rename_i q hq
    cases h
    exact ih.x G _ _ _ _ _ hq
  rename_i hX
  clear hX
  split at h
  -- a name
  · rename_i x p
    split at h
    · rename_i i hi
      split at h
      · cases h
      · rename_i hd
        obtain ⟨hd, hcd⟩ := or_ff hd
        split at h
        · rename_i hm
          cases h
          exact tr_var G hi hd hcd hm
        · rename_i hm
          cases h
          exact tr_var G hi hd hcd hm
        · cases h
    · split at h
      · rename_i d hg
        cases h
        exact tr_con G hg
      · cases h
  · cases h; exact tr_sc (d := .int _) rfl pe_int
  · cases h; exact tr_sc (d := .str _) rfl pe_str
  · cases h; exact tr_sc (d := .bl _) rfl pe_bl
  · cases h; exact tr_sc (d := .non) rfl pe_non
  -- a operator b
  · split at h
    · rename_i o' a' ra T1 ho ha
      split at h
      · rename_i b' rb T2 hb
        split at h
        · rename_i hn
          cases h
          rw [opOf_eq ho]
          exact tr_bin G (ih.e G _ _ _ _ _ ha) (ih.e G _ _ _ _ _ hb) hn
        · cases h
      · cases h
    · cases h
  · split at h
    · rename_i ha
      cases h
      exact tr_neg (ih.e G _ _ _ _ _ ha)
    · cases h
  · split at h
    · rename_i ha
      cases h
      exact tr_not (ih.e G _ _ _ _ _ ha)
    · cases h
  · obtain ⟨rfl, q⟩ := ih.b G _ _ _ _ _ _ _ h
    exact q
  · split at h
    · rename_i o' a' ra T1 ho ha
      split at h
      · rename_i b' rb T2 hb
        split at h
        · rename_i hn
          cases h
          rw [Bool.and_eq_true] at hn
          rw [cpOf_eq ho]
          exact tr_cmp G (ih.e G _ _ _ _ _ ha) (ih.e G _ _ _ _ _ hb) hn.1 (nn hn.2)
        · cases h
      · cases h
    · cases h
  · split at h
    · rename_i o' o2' a' ra T1 ho ho2 ha
      split at h
      · rename_i b' rb T2 hb
        split at h
        · rename_i c' rc T3 hc
          split at h
          · rename_i hn
            cases h
            simp only [Bool.and_eq_true] at hn
            rw [cpOf_eq ho, cpOf_eq ho2]
            exact tr_chain G (ih.e G _ _ _ _ _ ha) (ih.e G _ _ _ _ _ hb) (ih.e G _ _ _ _ _ hc) hn.1.1.1 hn.1.1.2 hn.2 (nn hn.1.2)
          · cases h
        · cases h
      · cases h
    · cases h
  · split at h
    · rename_i c' T1 hc
      split at h
      · rename_i a' ra Ta b' rb Tb ha hb
        split at h
        · rename_i hl
          cases h
          exact tr_ife (ih.t G _ _ _ _ hc) (ih.e G _ _ _ _ _ ha) (ih.e G _ _ _ _ _ hb) hl
        · cases h
      · cases h
    · cases h
  · split at h
    · rename_i ha
      cases h
      exact tr_tup (ih.es G _ _ _ _ _ ha)
    · cases h
  · split at h
    · rename_i ha
      cases h
      exact tr_lst (ih.es G _ _ _ _ _ ha)
    · cases h
  · split at h
    · rename_i a' ra T1 ha
      split at h
      · rename_i fl lo' T2 hl
        split at h
        · rename_i fh hi' T3 hh
          split at h
          · rename_i hn
            cases h
            rw [Bool.and_eq_true] at hn
            exact tr_slc G (ih.e G _ _ _ _ _ ha) (ih.p G _ _ _ _ _ hl) (ih.p G _ _ _ _ _ hh) hn.1 hn.2
          · cases h
        · cases h
      · cases h
    · cases h
  · split at h
    · rename_i a' ra T1 ha
      split at h
      · rename_i i' ri T2 hb
        split at h
        · rename_i hn
          cases h
          rw [Bool.and_eq_true] at hn
          exact tr_idx G (ih.e G _ _ _ _ _ ha) (ih.e G _ _ _ _ _ hb) hn.1 (nn hn.2)
        · cases h
      · cases h
    · cases h
  -- a call
  · rename_i x px e es pos
    split at h
    · rename_i f hg
      split at h
      · rename_i s hs
        split at h
        · rename_i es' rs T1 ha
          split at h
          · rename_i hl
            split at h
            · rename_i wb hw
              split at h
              · rename_i hap
                split at h
                · rename_i hlb
                  cases h
                  exact tr_call G hg hs (ih.es G _ _ _ _ _ ha) hl.2.2 hl.1 hl.2.1 hw hap hlb
                · cases h
              · cases h
            · cases h
          · cases h
        · cases h
      · cases h
    · cases h
    · split at h
      · rename_i hx
        split at h
        · rename_i y py
          split at h
          · rename_i a' ra T1 t ha ht
            split at h
            · cases h
            · rename_i hst
              cases h
              exact tr_isi G hx ht (ih.e G _ _ _ _ _ ha) (by simpa using hst)
          · cases h
        · cases h
      · split at h
        · rename_i b r hb
          split at h
          · rename_i es' rs T1 ha
            split at h
            · rename_i hst
              cases h
              exact tr_blt G hb (ih.es G _ _ _ _ _ ha) hst
            · cases h
          · cases h
        · cases h
  · rename_i x px m apos cpos
    split at h
    · rename_i i mu r hi hm
      split at h
      · cases h
      · rename_i hd
        obtain ⟨hd, hcd⟩ := or_ff hd
        split at h
        · rename_i hT
          cases h
          exact tr_mut0 G hm hi hd hcd hT.1 hT.2
        · cases h
    · cases h
  · rename_i x px m apos e es cpos
    split at h
    · rename_i i mu r hi hm
      split at h
      · cases h
      · rename_i hd
        obtain ⟨hd, hcd⟩ := or_ff hd
        split at h
        · rename_i es' rs T1 ha
          split at h
          · rename_i hT
            cases h
            exact tr_mut G hm hi hd hcd hT.1 (ih.es G _ _ _ _ _ ha) hT.2.1 hT.2.2.2.2 hT.2.2.2.1 hT.2.2.1
          · cases h
        · cases h
    · cases h
  -- a comprehension
  · rename_i elt tg iter ifs scope pos
    split at h
    · rename_i ik src rs T1 hi
      split at h
      · rename_i tg' cs T3 htg hifs
        split at h
        · rename_i e' r' T4 he
          split at h
          · rename_i hc
            cases h
            simp only [Bool.and_eq_true] at hc
            obtain ⟨⟨⟨⟨⟨⟨h1, h2⟩, h3⟩, h4⟩, h5⟩, h6⟩, h7⟩ := hc
            have h6' : ∀ i ∈ tgS tg', i ∈ (ownOf C scope).map (·.2) ∧ i < T1.length := fun i hi => by
              have := List.all_eq_true.mp h6 i hi
              simp only [Bool.and_eq_true, decide_eq_true_eq, List.contains_iff_mem] at this
              exact this
            refine tr_lc (C' := blkCtx C scope) G (blkOk_by (by rw [G.N, G.sc]; exact h1)) (nn h2) (mu := T1.length :: ((ownOf C scope).map (·.2) ++ (muTs cs ++ muE e'))) (n0 := T1.length) (by simp) (fun j hj => List.mem_cons_of_mem _ hj) (fun j hj => List.mem_cons.mp hj)
              (ih.i G _ _ _ _ _ _ _ _ hi h7) rfl rfl (fun i hi => (h6' i hi).1) (fun i hi => (h6' i hi).2) h3 h4 h5 (fun s H Cc cl fp => pg_T (G.blkT scope s H Cc cl fp) _ _ _ htg)
              (fun s H Cc cl fp => ih.ifs (G.blk scope s H Cc cl fp) _ _ _ _ hifs) (fun s H Cc cl fp => ih.e (G.blk scope s H Cc cl fp) _ _ _ _ _ he)
          · cases h
        · cases h
      · cases h
    · cases h
  · cases h
theorem snd_p (ih : Snd P Γ k n) (G : Good C P X Ew Γ k) (T o f c T') (h : cP C (n + 1) T o = some (f, c, T')) : TrP C P X Ew Γ T o f c T' := by
  unfold cP at h
  split at h
  · cases h; exact tp_none
  · split at h
    · rename_i ha
      cases h
      exact tp_some (ih.e G _ _ _ _ _ ha)
    · cases h
theorem snd_es (ih : Snd P Γ k n) (G : Good C P X Ew Γ k) (T es cs rs T') (h : cEs C (n + 1) T es = some (cs, rs, T')) : TrA C P X Ew Γ T es cs rs T' := by
  unfold cEs at h
  split at h
  · cases h; exact tr_nil
  · split at h
    · rename_i e' r T1 ha
      split at h
      · rename_i es' rs T2 hb
        split at h
        · rename_i hn
          cases h
          rw [Bool.and_eq_true] at hn
          exact tr_cons (ih.e G _ _ _ _ _ ha) (ih.es G _ _ _ _ _ hb) hn.1 (nn hn.2)
        · cases h
      · cases h
    · cases h
theorem snd_b (ih : Snd P Γ k n) (G : Good C P X Ew Γ k) (T o es pos c r T') (h : cB C (n + 1) T o es = some (c, r, T')) : r = .sh ∧ TrE C P X Ew Γ T (.BoolOp o es pos) c .sh T' := by
  unfold cB at h
  split at h
  · cases h
  · split at h
    · rename_i ha
      cases h
      exact ⟨rfl, tr_last (ih.e G _ _ _ _ _ ha)⟩
    · cases h
  · split at h
    · rename_i a' ra T1 ha
      split at h
      · rename_i b' rb T2 hb
        split at h
        · rename_i hl
          cases h
          obtain ⟨_, q⟩ := ih.b G _ _ _ pos _ _ _ hb
          refine ⟨rfl, ?_⟩
          cases o with
          | And => exact tr_and (pos' := pos) (ih.e G _ _ _ _ _ ha) q hl
          | Or => exact tr_or (pos' := pos) (ih.e G _ _ _ _ _ ha) q hl
        · cases h
      · cases h
    · cases h
theorem snd_bt (ih : Snd P Γ k n) (G : Good C P X Ew Γ k) (T o es pos c T') (h : cBT C (n + 1) T o es = some (c, T')) : TrW C P X Ew Γ T (.BoolOp o es pos) c T' := by
  unfold cBT at h
  split at h
  · cases h
  · exact tw_last (ih.t G _ _ _ _ h)
  · split at h
    · rename_i a' T1 ha
      split at h
      · rename_i b' T2 hb
        split at h
        · rename_i hl
          cases h
          have q := ih.bt G _ _ _ pos _ _ hb
          cases o with
          | And => exact tw_and (ih.t G _ _ _ _ ha) q hl
          | Or => exact tw_or (ih.t G _ _ _ _ ha) q hl
        · cases h
      · cases h
    · cases h
theorem snd_t (ih : Snd P Γ k n) (G : Good C P X Ew Γ k) (T e c T') (h : cT C (n + 1) T e = some (c, T')) : TrT C P X Ew Γ T e c T' := by
  unfold cT at h
  split at h
  · split at h
    · rename_i ha
      cases h
      exact tt_not (ih.t G _ _ _ _ ha)
    · cases h
  · exact (ih.bt G _ _ _ _ _ _ h).tt
  · split at h
    · rename_i o' a' ra T1 ho ha
      split at h
      · rename_i b' rb T2 hb
        split at h
        · rename_i hn
          cases h
          rw [Bool.and_eq_true] at hn
          rw [cpOf_eq ho]
          exact tt_cmp G (ih.e G _ _ _ _ _ ha) (ih.e G _ _ _ _ _ hb) hn.1 (nn hn.2)
        · cases h
      · cases h
    · cases h
  · split at h
    · rename_i o' o2' a' ra T1 ho ho2 ha
      split at h
      · rename_i b' rb T2 hb
        split at h
        · rename_i c' rc T3 hc
          split at h
          · rename_i hn
            cases h
            simp only [Bool.and_eq_true] at hn
            rw [cpOf_eq ho, cpOf_eq ho2]
            exact tt_chain G (ih.e G _ _ _ _ _ ha) (ih.e G _ _ _ _ _ hb) (ih.e G _ _ _ _ _ hc) hn.1.1.1 hn.1.1.2 hn.2 (nn hn.1.2)
          · cases h
        · cases h
      · cases h
    · cases h
  · split at h
    · rename_i hp
      split at h
      · rename_i ha
        cases h
        exact tt_val G (ih.e G _ _ _ _ _ ha) hp
      · cases h
    · cases h
theorem snd_of (ih : Snd P Γ k n) (G : Good C P X Ew Γ k) (T tg e ik src rs T' mu) (h : (match cE C n T e with | some (c, r, T1) => some (Ik.of, [c], [r], T1) | none => none) = some (ik, src, rs, T')) (hr : rs.all (fun r => r.noBor mu) = true) : TrI C P X Ew Γ T tg e ik src mu T' := by
  split at h
  · rename_i ha
    cases h
    exact ti_of G (ih.e G _ _ _ _ _ ha) (by simpa using hr)
  · cases h
theorem snd_i (ih : Snd P Γ k n) (G : Good C P X Ew Γ k) (T tg e ik src rs T' mu) (h : cI C (n + 1) T tg e = some (ik, src, rs, T')) (hr : rs.all (fun r => r.noBor mu) = true) : TrI C P X Ew Γ T tg e ik src mu T' := by
  unfold cI at h
  split at h
  · split at h
    · rename_i hx
      rw [Bool.and_eq_true] at hx
      split at h
      · rename_i ha
        cases h
        exact ti_range1 G hx.1 (ih.e G _ _ _ _ _ ha) (nn hx.2)
      · cases h
    · split at h
      · rename_i hx
        simp only [Bool.and_eq_true] at hx
        split at h
        · rename_i ha
          cases h
          have ht : ∃ es kk p, tg = .Tuple es kk p := by
            have z := hx.2
            cases tg <;> first | exact ⟨_, _, _, rfl⟩ | exact Bool.noConfusion z
          obtain ⟨_, _, _, rfl⟩ := ht
          exact ti_enum G hx.1.1 (ih.e G _ _ _ _ _ ha) (nn hx.1.2) (by simpa using hr)
        · cases h
      · exact snd_of ih G _ _ _ _ _ _ _ _ h hr
  · split at h
    · rename_i hx
      simp only [Bool.and_eq_true] at hx
      split at h
      · rename_i ha
        split at h
        · rename_i hb
          split at h
          · rename_i hn
            cases h
            exact ti_range2 G hx.1.1 (ih.e G _ _ _ _ _ ha) (ih.e G _ _ _ _ _ hb) hn (nn hx.1.2) (nn hx.2)
          · cases h
        · cases h
      · cases h
    · split at h
      · rename_i hx
        simp only [Bool.and_eq_true] at hx
        split at h
        · rename_i ha
          split at h
          · rename_i hb
            split at h
            · rename_i hn
              cases h
              have ht : ∃ es kk p, tg = .Tuple es kk p := by
                have z := hx.2
                cases tg <;> first | exact ⟨_, _, _, rfl⟩ | exact Bool.noConfusion z
              obtain ⟨_, _, _, rfl⟩ := ht
              simp only [List.all_cons, List.all_nil, Bool.and_eq_true] at hr
              exact ti_zip G hx.1.1.1 (ih.e G _ _ _ _ _ ha) (ih.e G _ _ _ _ _ hb) hn (nn hx.1.1.2) (nn hx.1.2) hr.1 hr.2.1
            · cases h
          · cases h
        · cases h
      · exact snd_of ih G _ _ _ _ _ _ _ _ h hr
  · exact snd_of ih G _ _ _ _ _ _ _ _ h hr
theorem snd_ifs (ih : Snd P Γ k n) (G : Good C P X Ew Γ k) (T es cs T') (h : cIfs C (n + 1) T es = some (cs, T')) : TrTs C P X Ew Γ T es cs T' := by
  unfold cIfs at h
  split at h
  · cases h; exact tts_nil
  · split at h
    · rename_i ha
      cases h
      exact tts_one (ih.t G _ _ _ _ ha)
    · cases h
  · cases h
theorem snd (P : GP) (Γ : Gam) (k : Nat) : ∀ n, Snd P Γ k n
  | 0 => by
    constructor
    all_goals intros
    all_goals (first | (rename_i h; cases h; done) | (rename_i h _; cases h; done))
  | n + 1 => ⟨fun G => snd_x (snd P Γ k n) G, fun G => snd_e (snd P Γ k n) G, fun G => snd_p (snd P Γ k n) G, fun G => snd_es (snd P Γ k n) G, fun G => snd_b (snd P Γ k n) G, fun G => snd_t (snd P Γ k n) G, fun G => snd_bt (snd P Γ k n) G, fun G => snd_i (snd P Γ k n) G, fun G => snd_ifs (snd P Γ k n) G⟩
end
end Fc
end

section
/-! Statements, 1: triples, sequences, branches, loops. -/
namespace Fc
open PySem L2 PySem.Spec
open PyProof.Rows hiding St
structure GoodS (C : Ctx) (P : GP) (X : Cx) (Ew : L2.St → XK) (Γ : Gam) (k : Nat) : Prop where
  g : Good C P X Ew Γ k
  st : ∀ x, C.st x = true → Loc X.env.scope x ∧ (X.fn x = true ∨ X.env.scope.names.lookup x = some .local)
  own : PassesOwn (model X.prog X.w) X.A X.env X.xe
  tk : Takes X (fun cls d σ H => Ew σ cls d H)
  kind : X.env.scope.kind = .function
theorem GoodS.t {C : Ctx} {P : GP} {X : Cx} {Ew : L2.St → XK} {Γ : Gam} {k : Nat} (G : GoodS C P X Ew Γ k) : GoodT C X := ⟨G.g.N, G.g.sc, G.g.nd, G.g.calm, G.st⟩
def WS (X : Cx) (st : Stmt) (D : Ends) (σ : L2.St) (H : Hp) : Prop := ∀ (pins : List (Addr × Obj)) (s : Shared), Inv X pins σ H s → wpAny (model X.prog X.w) X.A (exec st X.env) (SP X pins D) X.xe s
def WSs (X : Cx) (st : List Stmt) (D : Ends) (σ : L2.St) (H : Hp) : Prop := ∀ (pins : List (Addr × Obj)) (s : Shared), Inv X pins σ H s → wpAny (model X.prog X.w) X.A (execs st X.env) (SP X pins D) X.xe s
theorem psW {X : Cx} {st : Stmt} : PS X st (WS X st) := ⟨fun pins s _ _ _ I h => h pins s I⟩
theorem pssW {X : Cx} {st : List Stmt} : PSs X st (WSs X st) := ⟨fun pins s _ _ _ I h => h pins s I⟩
theorem WS.of {X : Cx} {st : Stmt} {t : TS} (h : PS X st t) {D : Ends} {σ : L2.St} {H : Hp} (q : t D σ H) : WS X st D σ H := fun pins s I => h.run pins s σ H D I q
theorem WSs.of {X : Cx} {st : List Stmt} {t : TS} (h : PSs X st t) {D : Ends} {σ : L2.St} {H : Hp} (q : t D σ H) : WSs X st D σ H := fun pins s I => h.run pins s σ H D I q
def rtT (io : List Nat) (n : Nat) : List M := (List.range n).map fun i => if io.contains i then .top else .sh
/-- the slots that are handed back alone -/
def ioE (io : List Nat) (env : Env) : Env := (List.range env.length).map fun i => if io.contains i then env[i]?.getD none else none
def ioF (io : List Nat) (A : Ft) : Ft := fun j => if io.contains j then A j else []
def rtR : RM → R
  | .top => .top
  | _ => .sh
section
variable {C : Ctx} {P : GP} {X : Cx} {Ew : L2.St → XK} {Γ : Gam} {k : Nat}
variable {T T' T1 T2 T3 : List M} {To Ta Tb : Option (List M)} {A A1 A2 A' : Ft} {env env1 env2 env' : Env} {σ σ1 σ2 σ' : L2.St} {H H1 H2 H3 H' : Hp} {Z Z1 Z2 Z' : AS} {mu mu1 mu2 as as1 as2 : List Nat} {pos : Pos}

/-- what holds behind a suite, as one wishes it -/
def OkNe (P : GP) (o : SO) (mu as : List Nat) (To : Option (List M)) (A : Ft) (env : Env) (σ : L2.St) (H : Hp) (Z : AS) (N : L2.St → Hp → Prop) : Prop :=
  ∀ env', o = .nx env' → ∀ T', To = some T' → ∀ σ' H' A', SR P T' A' env' σ' H' Z → Stp mu A H env A' H' env' → Sg as σ σ' → N σ' H'
def OkR (C : Ctx) (P : GP) (o : SO) (mu as : List Nat) (A : Ft) (env : Env) (σ : L2.St) (H : Hp) (Z : AS) (R : V → Hp → Prop) : Prop :=
  ∀ d env', o = .rt d env' → ∀ v σ' H' A' F, (∀ a ∈ F, H a = none ∨ ∃ j, j ∉ C.io ∧ a ∈ A j) → SR P (rtT C.io env'.length) A' (ioE C.io env') σ' H' (Zf Z F) → Stp mu A H env A' H' env' → Sg as σ σ' → RV P (rtR C.res) d v F A' env' σ' H' (Zf Z F) → R v H'
def ExS (C : Ctx) (P : GP) (Ew : L2.St → XK) (o : SO) (mu as : List Nat) (A : Ft) (env : Env) (σ : L2.St) (H : Hp) (Z : AS) : Prop :=
  ∀ x env', o = .exn x env' → ∀ cls dd σ' H' A', SR P C.lb A' env' σ' H' Z → Stp mu A H env A' H' env' → Sg as σ σ' → ExR P H' (W Z A') x cls dd → Ew σ' cls dd H'
def TrS (C : Ctx) (P : GP) (X : Cx) (Ew : L2.St → XK) (Γ : Gam) (T : List M) (st : Stmt) (c : S) (To : Option (List M)) : Prop :=
  ∀ A env σ H Z D, SR P T A env σ H Z → exS Γ c env ≠ .err → OkNe P (exS Γ c env) (muS c) (asS c) To A env σ H Z D.nx → OkR C P (exS Γ c env) (muS c) (asS c) A env σ H Z D.rt → ExS C P Ew (exS Γ c env) (muS c) (asS c) A env σ H Z → WS X st D σ H
def TrSs (C : Ctx) (P : GP) (X : Cx) (Ew : L2.St → XK) (Γ : Gam) (T : List M) (st : List Stmt) (c : List S) (To : Option (List M)) : Prop :=
  ∀ A env σ H Z D, SR P T A env σ H Z → exSs Γ c env ≠ .err → OkNe P (exSs Γ c env) (muSs c) (asSs c) To A env σ H Z D.nx → OkR C P (exSs Γ c env) (muSs c) (asSs c) A env σ H Z D.rt → ExS C P Ew (exSs Γ c env) (muSs c) (asSs c) A env σ H Z → WSs X st D σ H

theorem OkNe.go {o o2 : SO} {N : L2.St → Hp → Prop} (ok : OkNe P o mu as To A env σ H Z N) (e : o = o2) (t1 : Stp mu1 A H env A1 H1 env1) (g1 : Sg as1 σ σ1) (hm : ∀ j, j ∈ mu1 ++ mu2 → j ∈ mu) (hs : ∀ j, j ∈ as1 ++ as2 → j ∈ as) :
    OkNe P o2 mu2 as2 To A1 env1 σ1 H1 Z N := fun env' e' T' et σ' H' A' s' t' g' => ok env' (e.trans e') T' et σ' H' A' s' ((t1.trans t').mono hm) ((g1.trans g').mono hs)
theorem OkR.go {o o2 : SO} {R : V → Hp → Prop} (ok : OkR C P o mu as A env σ H Z R) (e : ∀ d e', o2 = .rt d e' → o = .rt d e') (t1 : Stp mu1 A H env A1 H1 env1) (g1 : Sg as1 σ σ1) (hm : ∀ j, j ∈ mu1 ++ mu2 → j ∈ mu) (hs : ∀ j, j ∈ as1 ++ as2 → j ∈ as) :
    OkR C P o2 mu2 as2 A1 env1 σ1 H1 Z R := fun d env' e' v σ' H' A' F hF s' t' g' r => ok d env' (e d env' e') v σ' H' A' F (fun a ha => by
      rcases hF a ha with h | ⟨j, hj, h⟩
      · cases q : H a with
        | none => exact .inl rfl
        | some u => exact absurd h (t1.thr a (by rw [q]; exact fun z => nomatch z))
      · rcases t1.foot j a h with h | h
        · exact .inr ⟨j, hj, h⟩
        · exact .inl h) s' ((t1.trans t').mono hm) ((g1.trans g').mono hs) r
theorem ExS.go {o o2 : SO} (ex : ExS C P Ew o mu as A env σ H Z) (e : ∀ x e', o2 = .exn x e' → o = .exn x e') (t1 : Stp mu1 A H env A1 H1 env1) (g1 : Sg as1 σ σ1) (hm : ∀ j, j ∈ mu1 ++ mu2 → j ∈ mu) (hs : ∀ j, j ∈ as1 ++ as2 → j ∈ as) :
    ExS C P Ew o2 mu2 as2 A1 env1 σ1 H1 Z := fun x env' e' cls dd σ' H' A' s' t' g' r => ex x env' (e x env' e') cls dd σ' H' A' s' ((t1.trans t').mono hm) ((g1.trans g').mono hs) r
theorem ExS.exE {α : Type} {o : SO} {o2 : Out α} (ex : ExS C P Ew o mu as A env σ H Z) (e : ∀ x e', o2 = .exn x e' → o = .exn x e') (t1 : Stp mu1 A H env A1 H1 env1) (g1 : Sg as1 σ σ1) (hm : ∀ j, j ∈ mu1 ++ mu2 → j ∈ mu) (hs : ∀ j, j ∈ as1 → j ∈ as) :
    ExE C P Ew o2 mu2 A1 env1 σ1 H1 Z := fun x env' e' cls dd H' A' s' t' r => ex x env' (e x env' e') cls dd σ1 H' A' s' ((t1.trans t').mono hm) (g1.mono hs) r
theorem after_ne {α : Type} {x : Out α} {f : α → Env → SO} (h : SO.after x f ≠ .err) : x ≠ .err := fun e => h (by rw [e]; rfl)
theorem after_ok {α : Type} {x : Out α} {f : α → Env → SO} {a : α} (e : x = .ok a env) : SO.after x f = f a env := by rw [e]; rfl
theorem after_exn {α : Type} {x : Out α} {f : α → Env → SO} {a : D} (e : x = .exn a env) : SO.after x f = .exn a env := by rw [e]; rfl
theorem seq_ne {o : SO} {f : Env → SO} (h : o.seq f ≠ .err) : o ≠ .err := fun e => h (by rw [e]; rfl)
theorem seq_nx {o : SO} {f : Env → SO} (e : o = .nx env) : o.seq f = f env := by rw [e]; rfl
theorem seq_rt {o : SO} {f : Env → SO} {d : D} (e : o = .rt d env) : o.seq f = .rt d env := by rw [e]; rfl
theorem seq_exn {o : SO} {f : Env → SO} {d : D} (e : o = .exn d env) : o.seq f = .exn d env := by rw [e]; rfl

theorem ts_nil : TrSs C P X Ew Γ T [] [] (some T) := fun A env σ H Z D s ne ok rt ex => .of pss_nil (ok env rfl T rfl σ H A s Stp.refl Sg.refl)
theorem ts_cons {st : Stmt} {ss : List Stmt} {c : S} {cs : List S} (h1 : TrS C P X Ew Γ T st c (some T1)) (h2 : TrSs C P X Ew Γ T1 ss cs To) : TrSs C P X Ew Γ T (st :: ss) (c :: cs) To := by
  intro A env σ H Z D s ne ok rt ex
  have ee : exSs Γ (c :: cs) env = (exS Γ c env).seq (exSs Γ cs) := rfl
  rw [ee] at ne ok rt ex
  have m0 : ∀ j, j ∈ [] ++ muS c → j ∈ muSs (c :: cs) := fun j hj => by simp [muSs] at hj ⊢; exact .inl hj
  have a0 : ∀ j, j ∈ [] ++ asS c → j ∈ asSs (c :: cs) := fun j hj => by simp [asSs] at hj ⊢; exact .inl hj
  refine .of (pss_cons psW pssW) (h1 A env σ H Z _ s (seq_ne ne) (fun env1 e1 T1' et σ1 H1 A1 s1 t1 g1 => ?_) (rt.go (fun d e' e => seq_rt e) Stp.refl Sg.refl m0 a0) (ex.go (fun d e' e => seq_exn e) Stp.refl Sg.refl m0 a0))
  cases et
  have e2 := seq_nx (f := exSs Γ cs) e1
  have m1 : ∀ j, j ∈ muS c ++ muSs cs → j ∈ muSs (c :: cs) := fun j hj => hj
  have a1 : ∀ j, j ∈ asS c ++ asSs cs → j ∈ asSs (c :: cs) := fun j hj => hj
  exact h2 A1 env1 σ1 H1 Z D s1 (by rw [← e2]; exact ne) (ok.go e2 t1 g1 m1 a1) (rt.go (fun d e' e => e2.trans e) t1 g1 m1 a1) (ex.go (fun d e' e => e2.trans e) t1 g1 m1 a1)
theorem ts_one {st : Stmt} {c : S} (h1 : TrS C P X Ew Γ T st c To) : TrSs C P X Ew Γ T [st] [c] To := by
  intro A env σ H Z D s ne ok rt ex
  have ee : exSs Γ [c] env = exS Γ c env := by
    show (exS Γ c env).seq (exSs Γ []) = _
    cases exS Γ c env <;> rfl
  rw [ee] at ne ok rt ex
  have m0 : ∀ j, j ∈ [] ++ muS c → j ∈ muSs [c] := fun j hj => by simpa [muSs] using hj
  have a0 : ∀ j, j ∈ [] ++ asS c → j ∈ asSs [c] := fun j hj => by simpa [asSs] using hj
  exact .of (pss_one psW) (h1 A env σ H Z D s ne (ok.go rfl Stp.refl Sg.refl m0 a0) (rt.go (fun d e' e => e) Stp.refl Sg.refl m0 a0) (ex.go (fun d e' e => e) Stp.refl Sg.refl m0 a0))
theorem ts_pass : TrS C P X Ew Γ T (.Pass pos) .pass (some T) := fun A env σ H Z D s ne ok rt ex => .of ps_pass (ok env rfl T rfl σ H A s Stp.refl Sg.refl)
theorem ts_doc {x : Str} {j : Nat} {pos' : Pos} : TrS C P X Ew Γ T (.Expr (.Constant (.str x) j pos) pos') .pass (some T) := fun A env σ H Z D s ne ok rt ex => .of ps_doc (ok env rfl T rfl σ H A s Stp.refl Sg.refl)

/-- an expression ahead of what a statement does with it -/
theorem oneS {a : Expr} {a' : E} {ra : R} (ha : TrE C P X Ew Γ T a a' ra T1) (s : SR P T A env σ H Z) {g : D → Env → SO} (ne : SO.after (evE Γ a' env) g ≠ .err)
    (ex : ExS C P Ew (SO.after (evE Γ a' env) g) mu as A env σ H Z) (hm : ∀ j, j ∈ muE a' → j ∈ mu) {Kk : V → Hp → Prop}
    (h : ∀ x env1 v1 H1 A1 F1, evE Γ a' env = .ok x env1 → SO.after (evE Γ a' env) g = g x env1 → (∀ a ∈ F1, H a = none) → SR P T1 A1 env1 σ H1 (Zf Z F1) → Stp (muE a') A H env A1 H1 env1 → RV P ra x v1 F1 A1 env1 σ H1 (Zf Z F1) → Kk v1 H1) :
    WE X a σ H Kk := by
  refine ha A env σ H Z _ s (after_ne ne) (fun x env1 e1 v1 H1 A1 F1 f1 s1 t1 r1 => ?_) (ex.exE (fun x e' e => after_exn e) Stp.refl Sg.refl (fun j hj => hm j (by simpa using hj)) (fun j hj => absurd hj (by simp)))
  exact h x env1 v1 H1 A1 F1 e1 (after_ok e1) f1 s1 t1 r1
theorem swaps_ff {e : Expr} (h : isLC e = false) (t : Option Expr) (l : Nat) (E : PySem.Env) : swapsWith e t l E = pure false := by
  cases e <;> first | exact Bool.noConfusion h | rfl
theorem ts_ex {e : Expr} {c : E} {r : R} (hl : isLC e = false) (h : TrE C P X Ew Γ T e c r T1) : TrS C P X Ew Γ T (.Expr e pos) (.ex c) (some T1) := by
  intro A env σ H Z D s ne ok rt ex
  have ee : exS Γ (.ex c) env = .after (evE Γ c env) fun _ env1 => .nx env1 := rfl
  rw [ee] at ne ok ex
  refine .of (ps_expr peW (swaps_ff hl _ _ _)) (oneS h s ne ex (fun j hj => hj) fun x env1 v1 H1 A1 F1 e1 eg f1 s1 t1 r1 => ?_)
  exact ok env1 eg T1 rfl σ H1 A1 s1.drop t1 (Sg.refl.mono fun j hj => absurd hj (by simp))
/-- what an expression gave, ready for a slot -/
theorem stored {d : D} {v : V} {r : R} {F : List Addr} (s : SR P T A env σ H (Zf Z F)) (hF : ∀ a ∈ F, ¬ Z a) (r1 : RV P r d v F A env σ H (Zf Z F)) :
    ∃ F2, (∀ a ∈ F2, a ∈ F) ∧ SR P (frz T [r]) (thawL A [r]) env σ H (Zf Z F2) ∧ Own P H (W (Zf Z F2) (thawL A [r])) (stR r) d v F2 := by
  have hz : ∀ a, Zf Z [] a → Zf Z F a := fun a z => z.elim .inl fun q => absurd q (by simp)
  cases r with
  | top => exact ⟨F, fun _ h => h, s, r1⟩
  | imm => exact ⟨[], none1, s.less hz, Own.sh (Rep.less (fun a z => z.imp (hz a) id) r1.2.2)⟩
  | sh => exact ⟨[], none1, s.less hz, Own.sh (Rep.less (fun a z => z.imp (hz a) id) r1.2)⟩
  | bor j =>
    obtain rfl := r1.1
    refine ⟨[], none1, SR.thawL s, Own.sh ?_⟩
    exact RV.free (rs := [.bor j]) (Z' := Zf Z []) r1 s (by simp) (fun _ z => z) (by simp) (by simp)
theorem Stp.putT {i : Nat} {d : D} {F : List Addr} (t : Stp mu A H env A1 H1 env1) (hF : ∀ a ∈ F, H a = none) : Stp (mu ++ [i]) A H env (Fc.putF A1 i F) H1 (env1.set i (some d)) where
  keep := fun a o e n => t.keep a o e fun j hj => n j (List.mem_append_left _ hj)
  thr := t.thr
  same := fun j hj => by
    rw [List.getElem?_set_ne (fun e => hj (by simp [e]))]
    exact t.same j fun q => hj (List.mem_append_left _ q)
  foot := fun j a h => by
    by_cases e : j = i
    · subst e
      rw [putF_self] at h
      exact .inr (hF a h)
    · rw [putF_ne e] at h
      exact t.foot j a h
  len := by rw [List.length_set]; exact t.len
theorem slot_lt {x : Str} {i : Nat} (hi : slotOf C x = some i) (hl : C.N.length ≤ T.length) : i < T.length := by
  have := (slot_vis hi).1
  have := (List.getElem?_eq_some_iff.mp this).1
  omega
end
end Fc
end

section
/-! Statements, 2: stores. -/
namespace Fc
open PySem L2 PySem.Spec
open PyProof.Rows hiding St
section
variable {C : Ctx} {P : GP} {X : Cx} {Ew : L2.St → XK} {Γ : Gam} {k : Nat}
variable {T T' T1 T2 T3 : List M} {To Ta Tb : Option (List M)} {A A1 A2 A' : Ft} {env env1 env2 env' : Env} {σ σ1 σ2 σ' : L2.St} {H H1 H2 H3 H' : Hp} {Z Z1 Z2 Z' : AS} {mu mu1 mu2 as as1 as2 : List Nat} {pos : Pos}
theorem st_slot {x : Str} {i : Nat} (h : stOf C x = some i) : slotOf C x = some i ∧ C.st x = true := by
  unfold stOf at h
  split at h
  · exact ⟨h, by assumption⟩
  · cases h
theorem inT1_one {i : Nat} (h : inT1 T [i] = true) : i < T.length := by simpa [inT1] using h
/-- one slot stored -/
theorem set_end {c : E} {r : R} {i : Nat} {N : L2.St → Hp → Prop} {d : D} {v : V} {F : List Addr} {o : SO} (ok : OkNe P o mu as (some ((frz T1 [r]).set i (stR r))) A env σ H Z N) (eo : o = .nx (env1.set i (some d))) (s : SR P T A env σ H Z) (hl : i < T1.length)
    (f1 : ∀ a ∈ F, H a = none) (s1 : SR P T1 A1 env1 σ H1 (Zf Z F)) (t1 : Stp mu1 A H env A1 H1 env1) (r1 : RV P r d v F A1 env1 σ H1 (Zf Z F)) (hm : ∀ j, j ∈ mu1 ++ [i] → j ∈ mu) (hs : i ∈ as) : N (σ.set i (some v)) H1 := by
  have hF := fresh_notZ s f1
  obtain ⟨F2, sub, s2, o2⟩ := stored s1 hF r1
  have hi : i < env1.length := by rw [← s1.lt]; exact hl
  have s3 := SR.put s2 hi o2 fun a ha => hF a (sub a ha)
  have t3 := (t1.trans (Stp.thawL (rs := [r]))).putT (i := i) (d := d) (F := F2) fun a ha => f1 a (sub a ha)
  exact ok _ eo _ rfl _ _ _ s3 (t3.mono fun j hj => hm j (by simpa using hj)) ⟨fun j hj => List.getElem?_set_ne fun e => hj (by rw [← e]; exact hs), List.length_set⟩
theorem ts_set (G : GoodS C P X Ew Γ k) {x : Str} {i : Nat} {e : Expr} {c : E} {r : R} {px : Pos} (hi : stOf C x = some i) (hc : isLC e = false) (h : TrE C P X Ew Γ T e c r T1) (hl : i < T1.length) :
    TrS C P X Ew Γ T (.Assign [.Name x px] e pos) (.asg (.nm i) c) (some ((frz T1 [r]).set i (stR r))) := by
  intro A env σ H Z D s ne ok rt ex
  obtain ⟨h1, h2⟩ := st_slot hi
  obtain ⟨l1, l2⟩ := G.st x h2
  have ee : exS Γ (.asg (.nm i) c) env = .after (evE Γ c env) fun d env1 => .of (asgT (.nm i) d env1) := rfl
  rw [ee] at ne ok ex
  refine .of (ps_set G.g.nd (by rw [G.g.N]; exact (slot_vis h1).1) l1 peW (swaps_ff hc _ _ _) l2) (oneS h s ne ex (fun j hj => by simp [muS]; exact .inl hj) fun d env1 v1 H1 A1 F1 e1 eg f1 s1 t1 r1 => ?_)
  exact set_end (c := c) ok eg s hl f1 s1 t1 r1 (fun j hj => by simpa [muS, tgS] using hj) (by simp [asS, tgS])
/-- a comprehension, taken apart -/
structure LcRun (C : Ctx) (P : GP) (X : Cx) (Ew : L2.St → XK) (Γ : Gam) (T : List M) (elt tg iter : Expr) (ifs : List Expr) (scope : Scope) (c : E) (T' : List M) (own : List (Str × Nat)) (tg' : Tg) : Prop where
  blk : BlkOk X.N X.env.scope scope own
  set : isSetE iter = false
  gt : ∀ (s : Shared) (H : Hp) (Cc : Addr) (cl : List (Str × Addr)) (fp : List Addr), PG (X.blk s H scope (compEnvC scope cl Cc X.env) fp) tg (gT X.K tg')
  run : ∀ A env σ H Z Q, SR P T A env σ H Z → evE Γ c env ≠ .err → OkE P (evE Γ c env) (muE c) T' .top A env σ H Z Q → ExE C P Ew (evE Γ c env) (muE c) A env σ H Z →
      tLc (WI X tg iter) (gT X.K tg') (fun σ H Q => ∀ (s : Shared) (H0 : Hp) (Cc : Addr) (cl : List (Str × Addr)) (fp : List Addr), WTs (X.blk s H0 scope (compEnvC scope cl Cc X.env) fp) ifs σ H Q)
        (fun σ H Q => ∀ (s : Shared) (H0 : Hp) (Cc : Addr) (cl : List (Str × Addr)) (fp : List Addr), WE (X.blk s H0 scope (compEnvC scope cl Cc X.env) fp) elt σ H Q) (own.map (·.2)) σ H Q
theorem lc_inv (G : Good C P X Ew Γ k) {n : Nat} {elt : Expr} {gs : List Comprehension} {scope : Scope} {c : E} {r : R} (h : cE C n T (.ListComp elt gs scope pos) = some (c, r, T')) :
    ∃ tg iter ifs own tg', gs = [⟨tg, iter, ifs, 0⟩] ∧ r = .top ∧ LcRun C P X Ew Γ T elt tg iter ifs scope c T' own tg' := by
  cases n with
  | zero => cases h
  | succ n =>
  have ih := snd P Γ k n
  have hX : cX C n T (.ListComp elt gs scope pos) = none := by
    cases n with
    | zero => rfl
    | succ n => rfl
  unfold cE at h
  rw [hX] at h
  simp only at h
  clear hX
  split at h
  any_goals (first | (rename_i heq; cases heq; done) | (cases h; done) | skip)
  · rename_i elt' tg iter ifs scope' pos' he
    cases he
    split at h
    · rename_i ik src rs T1 hi
      split at h
      · rename_i tg' cs T3 htg hifs
        split at h
        · rename_i e' r' T4 he
          split at h
          · rename_i hc
            cases h
            simp only [Bool.and_eq_true] at hc
            obtain ⟨⟨⟨⟨⟨⟨h1, h2⟩, h3⟩, h4⟩, h5⟩, h6⟩, h7⟩ := hc
            have h6' : ∀ i ∈ tgS tg', i ∈ (ownOf C scope).map (·.2) ∧ i < T1.length := fun i hi => by
              have := List.all_eq_true.mp h6 i hi
              simp only [Bool.and_eq_true, decide_eq_true_eq, List.contains_iff_mem] at this
              exact this
            have blk := blkOk_by (N := X.N) (sc := X.env.scope) (scope := scope) (own := ownOf C scope) (by rw [G.N, G.sc]; exact h1)
            refine ⟨tg, iter, ifs, ownOf C scope, tg', rfl, rfl, blk, nn h2, fun s H Cc cl fp => pg_T (G.blkT scope s H Cc cl fp) _ _ _ htg, ?_⟩
            exact lc_run (pos := pos) (C' := blkCtx C scope) G blk (nn h2) (mu := T1.length :: ((ownOf C scope).map (·.2) ++ (muTs cs ++ muE e'))) (n0 := T1.length) (by simp) (fun j hj => List.mem_cons_of_mem _ hj) (fun j hj => List.mem_cons.mp hj)
              (ih.i G _ _ _ _ _ _ _ _ hi h7) rfl rfl (fun i hi => (h6' i hi).1) (fun i hi => (h6' i hi).2) h3 h4 h5 (fun s H Cc cl fp => pg_T (G.blkT scope s H Cc cl fp) _ _ _ htg)
              (fun s H Cc cl fp => ih.ifs (G.blk scope s H Cc cl fp) _ _ _ _ hifs) (fun s H Cc cl fp => ih.e (G.blk scope s H Cc cl fp) _ _ _ _ _ he)
          · cases h
        · cases h
      · cases h
    · cases h
theorem ts_setLc (G : GoodS C P X Ew Γ k) {n : Nat} {x : Str} {i : Nat} {elt : Expr} {gs : List Comprehension} {scope : Scope} {p2 : Pos} {c : E} {r : R} {px : Pos} (hi : stOf C x = some i) (hln : lcLine px x (.ListComp elt gs scope p2) = true) (hlo : isLoc C x = true)
    (h : cE C n T (.ListComp elt gs scope p2) = some (c, r, T1)) (hl : i < T1.length) :
    TrS C P X Ew Γ T (.Assign [.Name x px] (.ListComp elt gs scope p2) pos) (.asg (.nm i) c) (some ((frz T1 [r]).set i (stR r))) := by
  intro A env σ H Z D s ne ok rt ex
  obtain ⟨h1, h2⟩ := st_slot hi
  obtain ⟨tg, iter, ifs, own, tg', rfl, rfl, L⟩ := lc_inv G.g h
  have hlo' : X.env.scope.names.lookup x = some .local := by rw [G.g.sc]; exact of_decide_eq_true hlo
  have hln' : (px.line == p2.line) = true ∧ (scope.names.any fun (n, k) => n == x && (k == .local || k == .cell)) = false := by
    simp only [lcLine, Bool.and_eq_true] at hln
    exact ⟨hln.1, nn hln.2⟩
  have ee : exS Γ (.asg (.nm i) c) env = .after (evE Γ c env) fun d env1 => .of (asgT (.nm i) d env1) := rfl
  rw [ee] at ne ok ex
  refine .of (ps_setLc G.g.calm G.g.nd (by rw [G.g.N]; exact (slot_vis h1).1) hlo' (sw_true G.kind hlo' hln'.1 hln'.2) piW L.blk L.gt pts_blk pe_blk (fold_ok L.set)) (L.run A env σ H Z _ s (after_ne ne) (fun d env1 e1 v1 H1 A1 F1 f1 s1 t1 r1 => ?_) (ex.exE (fun x e' e => after_exn e) Stp.refl Sg.refl (fun j hj => by simp [muS] at hj ⊢; exact .inl hj) (fun j hj => absurd hj (by simp))))
  exact set_end (c := c) (r := .top) ok (after_ok e1) s hl f1 s1 t1 r1 (fun j hj => by simpa [muS, tgS] using hj) (by simp [asS, tgS])
end
end Fc
end

section
/-! Statements, 3: tuples of targets, returns, branches, loops. -/
namespace Fc
open PySem L2 PySem.Spec
open PyProof.Rows hiding St
section
variable {C : Ctx} {P : GP} {X : Cx} {Ew : L2.St → XK} {Γ : Gam} {k : Nat}
variable {T T' T1 T2 T3 : List M} {To Ta Tb : Option (List M)} {A A1 A2 A' : Ft} {env env1 env2 env' : Env} {σ σ1 σ2 σ' : L2.St} {H H1 H2 H3 H' : Hp} {Z Z1 Z2 Z' : AS} {mu mu1 mu2 as as1 as2 : List Nat} {pos : Pos}
theorem swst_e {tg e : Expr} (h : isTupE e = false) (E : PySem.Env) : swappedStores [tg] e E = pure none := by
  cases e <;> first | exact Bool.noConfusion h | (cases tg <;> rfl)
theorem inT1_all {is : List Nat} (h : inT1 T is = true) : ∀ i ∈ is, i < T.length := fun i hi => of_decide_eq_true (List.all_eq_true.mp h i hi)
theorem frz_len : ∀ {rs : List R} {T : List M}, (frz T rs).length = T.length
  | [], T => rfl
  | .bor i :: rs, T => by unfold frz; rw [List.length_set, frz_len]
  | .imm :: rs, T => frz_len (rs := rs)
  | .sh :: rs, T => frz_len (rs := rs)
  | .top :: rs, T => frz_len (rs := rs)
theorem swapsS {e : Expr} (h : isLC e = false) (t : Expr) (l : Nat) (E : PySem.Env) : swapsWithSole [t] e l E = pure false := by
  show swapsWith e (some t) l E = pure false
  exact swaps_ff h _ _ _
theorem ts_tup (G : GoodS C P X Ew Γ k) {n n2 : Nat} {ts : List Expr} {pt : Pos} {t : Tg} {e : Expr} {c : E} {r : R} (ht : cTg C n2 (.Tuple ts n pt) = some t) (hc : isLC e = false) (hw : swappedStores [.Tuple ts n pt] e X.env = pure none) (h : TrE C P X Ew Γ T e c r T1) (hl : inT1 T1 (tgS t) = true) :
    TrS C P X Ew Γ T (.Assign [.Tuple ts n pt] e pos) (.asg t c) (some (shS (frz T1 [r]) (tgS t))) := by
  intro A env σ H Z D s ne ok rt ex
  have ee : exS Γ (.asg t c) env = .after (evE Γ c env) fun d env1 => .of (asgT t d env1) := rfl
  rw [ee] at ne ok ex
  refine .of (ps_asg peW (pg_T G.t _ _ _ ht) (swapsS hc _ _ _) hw) (oneS h s ne ex (fun j hj => by simp [muS]; exact .inl hj) fun d env1 v1 H1 A1 F1 e1 eg f1 s1 t1 r1 => ?_)
  rw [eg] at ne ok
  cases ha : asgT t d env1 with
  | none => rw [ha] at ne; exact absurd rfl ne
  | some env2 =>
    rw [ha] at ok
    have s9 := (SR.thawL (rs := [r]) s1).drop
    have ry := r1.free s1 (by simp) (fun a z => .inl z) (fresh_notZ s f1) (fun a ha => .inr ha) (rs := [r]) (Z' := Z)
    refine tg_run G.g.K t d v1 _ _ env1 σ env2 _ s9 (fun i hi => by rw [← s1.lt]; exact inT1_all hl i hi) ry ha fun σ2 T4 A3 s4 l4 t4 g4 sub4 => ?_
    exact ok env2 rfl _ rfl _ _ _ (s4.weak l4) ((((t1.trans Stp.thawL).trans t4).trans Stp.weak).mono fun j hj => by simpa [muS] using hj) (g4.mono fun j hj => hj)
/-! ### returns -/
theorem ioE_len {io : List Nat} : (ioE io env).length = env.length := by simp [ioE]
theorem ioE_get {io : List Nat} {i : Nat} {d : D} (h : (ioE io env)[i]? = some (some d)) : i ∈ io ∧ env[i]? = some (some d) := by
  unfold ioE at h
  rw [List.getElem?_map] at h
  cases hr : (List.range env.length)[i]? with
  | none => rw [hr] at h; cases h
  | some j =>
    rw [hr] at h
    have hj : i < env.length ∧ j = i := by
      obtain ⟨q, e⟩ := List.getElem?_eq_some_iff.mp hr
      simp at q e
      exact ⟨q, e.symm⟩
    obtain ⟨hl, rfl⟩ := hj
    have h : (if io.contains j = true then env[j]?.getD none else none) = some d := Option.some.inj h
    split at h
    · rename_i hc
      rw [List.getElem?_eq_getElem hl] at h ⊢
      exact ⟨by simpa using hc, by simpa using h⟩
    · cases h
theorem SR.io {io : List Nat} (s : SR P T A env σ H Z) (hT : ∀ j ∈ io, T[j]? = some .top) (hz : ∀ a, W Z' (ioF io A) a → W Z A a) (hz2 : ∀ j ∈ io, ∀ a ∈ A j, ¬ Z' a) (hc : Cells H Z') :
    SR P (rtT io env.length) (ioF io A) (ioE io env) σ H Z' where
  ls := by rw [ioE_len]; exact s.ls
  lt := by rw [ioE_len]; simp [rtT]
  val := fun i m d h1 h2 => by
    obtain ⟨hi, he⟩ := ioE_get h2
    have hm : m = .top := by
      unfold rtT at h1
      rw [List.getElem?_map] at h1
      cases hr : (List.range env.length)[i]? with
      | none => rw [hr] at h1; cases h1
      | some j =>
        rw [hr] at h1
        obtain ⟨q, e⟩ := List.getElem?_eq_some_iff.mp hr
        simp at q e
        subst e
        have h1 : (if io.contains i = true then M.top else M.sh) = m := Option.some.inj h1
        rw [if_pos (by simpa using hi)] at h1
        exact h1.symm
    subst hm
    obtain ⟨v, e1, o⟩ := s.val i .top d (hT i hi) he
    refine ⟨v, e1, ?_⟩
    unfold ioF
    rw [if_pos (by simpa using hi)]
    exact o.frame (fun _ _ e _ => e) fun a _ n z => n (hz a z)
  emp := fun i h => by
    unfold ioF
    split
    · rename_i hi
      refine s.emp i fun d he => h d ?_
      unfold ioE
      rw [List.getElem?_map, List.getElem?_range (List.getElem?_eq_some_iff.mp he).1]
      show some (if io.contains i = true then env[i]?.getD none else none) = _
      rw [if_pos hi, he]
      rfl
    · rfl
  dj := fun i j a ne h1 h2 => by
    unfold ioF at h1 h2
    split at h1
    · split at h2
      · exact s.dj i j a ne h1 h2
      · exact absurd h2 (by simp)
    · exact absurd h1 (by simp)
  zA := fun i a h => by
    unfold ioF at h
    split at h
    · rename_i hi
      exact hz2 i (by simpa using hi) a h
    · exact absurd h (by simp)
  zc := hc
theorem ioF_sub {io : List Nat} {j : Nat} {a : Addr} (h : a ∈ ioF io A j) : a ∈ A j ∧ j ∈ io := by
  unfold ioF at h
  split at h
  · rename_i hi; exact ⟨h, by simpa using hi⟩
  · exact absurd h (by simp)
theorem Stp.io {io : List Nat} : Stp [] A H env (ioF io A) H env := ⟨fun _ _ e _ => e, fun _ e => e, fun _ _ => rfl, fun _ _ h => .inl (ioF_sub h).1, rfl⟩
theorem ioTop_all (h : ioTop C T = true) : ∀ j ∈ C.io, T[j]? = some .top := fun j hj => of_decide_eq_true (List.all_eq_true.mp h j hj)
theorem ret_end {d : D} {v : V} {r : R} {F : List Addr} {o : SO} {Rk : V → Hp → Prop} (rt : OkR C P o mu as A env σ H Z Rk) (eo : o = .rt d env1) (s : SR P T A env σ H Z) (hr : retOk C T1 r = true) (hio : ioTop C (frz T1 [r]) = true)
    (f1 : ∀ a ∈ F, H a = none) (s1 : SR P T1 A1 env1 σ H1 (Zf Z F)) (t1 : Stp mu1 A H env A1 H1 env1) (r1 : RV P r d v F A1 env1 σ H1 (Zf Z F)) (hm : ∀ j, j ∈ mu1 → j ∈ mu) : Rk v H1 := by
  have hF := fresh_notZ s f1
  have hT := ioTop_all hio
  -- all may know what is given
  have free : rtR C.res = .sh → Rk v H1 := fun e => by
    have s9 := (SR.thawL (rs := [r]) s1).drop
    have ry := r1.free s1 (by simp) (fun a z => .inl z) hF (fun a ha => .inr ha) (rs := [r]) (Z' := Z)
    have le : ∀ a, W (Zf Z []) (ioF C.io (thawL A1 [r])) a → W Z (thawL A1 [r]) a := fun a z => z.elim (fun z => .inl (z.elim id fun q => absurd q (by simp))) fun ⟨j, q⟩ => .inr ⟨j, (ioF_sub q).1⟩
    refine rt d env1 eo v σ H1 (ioF C.io (thawL A1 [r])) [] (by simp) (s9.io hT le (fun j hj a ha z => s9.zA j a ha (z.elim id fun q => absurd q (by simp))) (fun a z => s9.zc a (z.elim id fun q => absurd q (by simp)))) (((t1.trans Stp.thawL).trans Stp.io).mono fun j hj => hm j (by simpa using hj)) (Sg.refl.mono fun j hj => absurd hj (by simp)) ?_
    rw [e]
    exact ⟨rfl, Rep.less le ry⟩
  cases hres : C.res with
  | imm => exact free (by rw [hres]; rfl)
  | sh => exact free (by rw [hres]; rfl)
  | top =>
    unfold retOk at hr
    rw [hres] at hr
    have own : ∀ {F' : List Addr}, (∀ a ∈ F', ∃ j, j ∉ C.io ∧ a ∈ A1 j ∨ a ∈ F) → (∀ a ∈ F', a ∈ F ∨ ∃ j, j ∉ C.io ∧ a ∈ A1 j) → (∀ j ∈ C.io, T1[j]? = some .top) → Own P H1 (W (Zf Z F) A1) .top d v F' → Rk v H1 := fun {F'} _ hF' hT1 o => by
      have le : ∀ a, W (Zf Z F') (ioF C.io A1) a → W (Zf Z F) A1 a := fun a z => by
        rcases z with (z | z) | ⟨j, z⟩
        · exact .inl (.inl z)
        · rcases hF' a z with z | ⟨j, _, z⟩
          · exact .inl (.inr z)
          · exact .inr ⟨j, z⟩
        · exact .inr ⟨j, (ioF_sub z).1⟩
      refine rt d env1 eo v σ H1 (ioF C.io A1) F' (fun a ha => ?_) (s1.io hT1 le (fun j hj a ha z => ?_) (fun a z => ?_)) ((t1.trans Stp.io).mono fun j hj => hm j (by simpa using hj)) (Sg.refl.mono fun j hj => absurd hj (by simp)) ?_
      · rcases hF' a ha with z | ⟨j, hj, z⟩
        · exact .inl (f1 a z)
        · rcases t1.foot j a z with z | z
          · exact .inr ⟨j, hj, z⟩
          · exact .inl z
      · rcases z with z | z
        · exact s1.zA j a ha (.inl z)
        · rcases hF' a z with z | ⟨j', hj', z⟩
          · exact s1.zA j a ha (.inr z)
          · exact s1.dj j j' a (fun e => hj' (e ▸ hj)) ha z
      · rcases z with z | z
        · exact s1.zc a (.inl z)
        · rcases hF' a z with z | ⟨j, _, z⟩
          · exact s1.zc a (.inr z)
          · exact s1.cell z
      · rw [hres]
        exact Own.frame (H := H1) (Z := W (Zf Z F) A1) (fun _ _ e _ => e) (fun a _ n q => n (le a q)) o
    cases r with
    | sh => exact Bool.noConfusion hr
    | top => exact own (F' := F) (fun a ha => ⟨0, .inr ha⟩) (fun a ha => .inl ha) hT r1
    | imm =>
      obtain ⟨rfl, hi, rp⟩ := r1
      refine own (F' := []) (by simp) (by simp) hT ?_
      cases d <;> first | exact Bool.noConfusion hi | exact ⟨rfl, rp⟩
    | bor i =>
      have hr : (decide (T1[i]? = some .top) && !C.io.contains i) = true := hr
      rw [Bool.and_eq_true, decide_eq_true_eq] at hr
      obtain ⟨hb, he, hσ⟩ := r1
      obtain ⟨v', e1, o⟩ := s1.val i .top d hr.1 he
      rw [hσ] at e1
      cases e1
      have hni : i ∉ C.io := by simpa using hr.2
      refine own (F' := A1 i) (fun a ha => ⟨i, .inl ⟨hni, ha⟩⟩) (fun a ha => .inr ⟨i, hni, ha⟩) (fun j hj => ?_) o
      have q := hT j hj
      have hne : i ≠ j := fun e => hni (e ▸ hj)
      have q : (T1.set i .sh)[j]? = some .top := q
      rw [List.getElem?_set_ne hne] at q
      exact q
theorem ts_ret (G : GoodS C P X Ew Γ k) {e : Expr} {c : E} {r : R} (h : TrE C P X Ew Γ T e c r T1) (hr : retOk C T1 r = true) (hio : ioTop C (frz T1 [r]) = true) : TrS C P X Ew Γ T (.Return (some e) pos) (.ret c) To := by
  intro A env σ H Z D s ne ok rt ex
  have ee : exS Γ (.ret c) env = .after (evE Γ c env) fun d env1 => .rt d env1 := rfl
  rw [ee] at ne rt ex
  refine .of (ps_ret peW) (oneS h s ne ex (fun j hj => hj) fun d env1 v1 H1 A1 F1 e1 eg f1 s1 t1 r1 => ?_)
  exact ret_end rt eg s hr hio f1 s1 t1 r1 fun j hj => hj
theorem ts_retN (hio : ioTop C T = true) : TrS C P X Ew Γ T (.Return none pos) (.ret (.con .non)) To := by
  intro A env σ H Z D s ne ok rt ex
  have ee : exS Γ (.ret (.con .non)) env = .rt .non env := rfl
  rw [ee] at ne rt ex
  refine .of ps_retN ?_
  exact ret_end (r := .imm) (F := []) rt rfl s (by unfold retOk; split <;> rfl) hio none1 (s.less fun a z => z.elim id fun q => absurd q (by simp)) Stp.refl ⟨rfl, rfl, rfl⟩ (fun j hj => absurd hj (by simp))
end
end Fc
end

section
/-! Statements, 4: pairs, items, branches, loops. -/
namespace Fc
open PySem L2 PySem.Spec
open PyProof.Rows hiding St
section
variable {C : Ctx} {P : GP} {X : Cx} {Ew : L2.St → XK} {Γ : Gam} {k : Nat}
variable {T T' T1 T2 T3 : List M} {To Ta Tb : Option (List M)} {A A1 A2 A' : Ft} {env env1 env2 env' : Env} {σ σ1 σ2 σ' : L2.St} {H H1 H2 H3 H' : Hp} {Z Z1 Z2 Z' : AS} {mu mu1 mu2 as as1 as2 : List Nat} {pos : Pos}
theorem swst2 {x y : Str} {px py pt p2 : Pos} {kt k2 : Nat} {a b : Expr} {E : PySem.Env} (hk : E.scope.kind = .function) (hx : E.scope.names.lookup x = some .local) (hy : E.scope.names.lookup y = some .local) (hxy : (x != y) = true) (hl : (px.line == py.line) = true)
    (ha : starred a = false) (hb : starred b = false) (hf : allFold [a, b] = false) (hc : allCon [a, b] = false) : swappedStores [.Tuple [.Name x px, .Name y py] kt pt] (.Tuple [a, b] k2 p2) E = pure (some [x, y]) := by
  have kx : E.kindOf x = some .local := hx
  have ky : E.kindOf y = some .local := hy
  have hb' : E.blockKind = .function := by unfold Env.blockKind; rw [hk]; rfl
  have s1 : ([a, b].any fun | .Starred .. => true | _ => false) = false := by
    cases a <;> first | exact Bool.noConfusion ha | (cases b <;> first | exact Bool.noConfusion hb | rfl)
  have f1 : [a, b].all (foldedForSure 8) = false := hf
  have c1 : [a, b].all (constantsAlone 8) = false := hc
  have hne : x ≠ y := by simpa using hxy
  have hl' : px.line = py.line := by simpa using hl
  have ed : ([x, y] : List Str).eraseDups = [x, y] := by
    simp [List.eraseDups_cons, Ne.symm hne]
  unfold swappedStores
  simp only [hb', s1, f1, c1]
  simp [kx, ky, hl', ed, Expr.pos]
  intro h
  exfalso
  rcases h with h | h
  · cases a <;> first | exact Bool.noConfusion ha | exact Bool.noConfusion h
  · cases b <;> first | exact Bool.noConfusion hb | exact Bool.noConfusion h
theorem swstF {ts es : List Expr} {kt k2 : Nat} {pt p2 : Pos} {E : PySem.Env} (hf : allFold es = true) : swappedStores [.Tuple ts kt pt] (.Tuple es k2 p2) E = pure none := by
  have f1 : es.all (foldedForSure 8) = true := hf
  unfold swappedStores
  simp only [f1]
  repeat' split
  all_goals (first | rfl | exact absurd trivial (by assumption))
/-- the args of a statement -/
theorem argsS {es : List Expr} {cs : List E} {rs : List R} (ha : TrA C P X Ew Γ T es cs rs T1) (s : SR P T A env σ H Z) {g : List D → Env → SO} (ne : SO.after (evEs Γ cs env) g ≠ .err)
    (ex : ExS C P Ew (SO.after (evEs Γ cs env) g) mu as A env σ H Z) (hm : ∀ j, j ∈ muEs cs → j ∈ mu) {Kk : List V → Hp → Prop}
    (h : ∀ xs env1 vs H1 A1 F1, evEs Γ cs env = .ok xs env1 → SO.after (evEs Γ cs env) g = g xs env1 → (∀ a ∈ F1, H a = none) → SR P T1 A1 env1 σ H1 (Zf Z F1) → Stp (muEs cs) A H env A1 H1 env1 → RVs P F1 A1 env1 σ H1 (Zf Z F1) rs xs vs → Kk vs H1) :
    WA X es σ H Kk := by
  refine ha A env σ H Z _ s (after_ne ne) (fun xs env1 e1 vs H1 A1 F1 f1 s1 t1 r1 => ?_) (ex.exE (fun x e' e => after_exn e) Stp.refl Sg.refl (fun j hj => hm j (by simpa using hj)) (fun j hj => absurd hj (by simp)))
  exact h xs env1 vs H1 A1 F1 e1 (after_ok e1) f1 s1 t1 r1
/-- a known value into a slot -/
theorem SR.putS {i : Nat} {d : D} {v : V} (s : SR P T A env σ H Z) (hi : i < env.length) (r : Rep P H (W Z A) d v) : SR P (T.set i .sh) (Fc.putF A i []) (env.set i (some d)) (σ.set i (some v)) H Z :=
  SR.put (F := []) (s.less fun a z => z.elim id fun q => absurd q (by simp)) hi (Own.sh (Rep.less (fun a z => z.imp (fun q => q.elim id fun q => absurd q (by simp)) id) r)) none1
theorem W_putF {i : Nat} {a : Addr} (h : W Z (Fc.putF A i []) a) : W Z A a := h.imp id fun ⟨j, q⟩ => ⟨j, by
  by_cases e : j = i
  · subst e; rw [putF_self] at q; exact absurd q (by simp)
  · rw [putF_ne e] at q; exact q⟩
theorem ts_par (G : GoodS C P X Ew Γ k) {x y : Str} {px py pt p2 : Pos} {kt k2 i j : Nat} {a b : Expr} {cs : List E} {rs : List R} (hi : stOf C x = some i) (hj : stOf C y = some j) (hx : isLoc C x = true) (hy : isLoc C y = true) (hij : i ≠ j) (hxy : (x != y) = true) (hl : (px.line == py.line) = true)
    (ha : starred a = false) (hb : starred b = false) (hf : allFold [a, b] = false) (hc : allCon [a, b] = false) (h : TrA C P X Ew Γ T [a, b] cs rs T1) (hT : inT1 T1 [i, j] = true) :
    TrS C P X Ew Γ T (.Assign [.Tuple [.Name x px, .Name y py] kt pt] (.Tuple [a, b] k2 p2) pos) (.par [i, j] cs) (some (((frz T1 rs).set i .sh).set j .sh)) := by
  intro A env σ H Z D s ne ok rt ex
  have lx : X.env.scope.names.lookup x = some .local := by rw [G.g.sc]; exact of_decide_eq_true hx
  have ly : X.env.scope.names.lookup y = some .local := by rw [G.g.sc]; exact of_decide_eq_true hy
  have ee : exS Γ (.par [i, j] cs) env = .after (evEs Γ cs env) fun ds env1 => if [i, j].length = ds.length then .nx (wbk env1 [i, j] ds) else .err := rfl
  rw [ee] at ne ok ex
  refine .of (ps_par G.g.calm G.g.nd (by rw [G.g.N]; exact (slot_vis (st_slot hi).1).1) (by rw [G.g.N]; exact (slot_vis (st_slot hj).1).1) hij lx ly paW (swst2 G.kind lx ly hxy hl ha hb hf hc) (swapsS rfl _ _ _))
    (argsS h s ne ex (fun j hj => by simp [muS]; exact .inl hj) fun ds env1 vs H1 A1 F1 e1 eg f1 s1 t1 r1 => ?_)
  rw [eg] at ne ok
  split at ne
  · rename_i hln
    rw [if_pos hln] at ok
    obtain ⟨l1, l2⟩ := r1.len
    obtain ⟨s2, r2⟩ := freed s1 (fresh_notZ s f1) r1
    rcases ds with _ | ⟨d, _ | ⟨d', _ | ⟨d3, ds⟩⟩⟩
    · cases hln
    · cases hln
    · obtain ⟨v, _, rfl, q1, r', _, rfl, q3, q4⟩ := r2
      obtain rfl := q4
      have hT' := inT1_all hT
      have b1 : i < env1.length := by rw [← s1.lt]; exact hT' i (by simp)
      have b2 : j < env1.length := by rw [← s1.lt]; exact hT' j (by simp)
      have s3 := s2.putS b1 q1
      have s4 := s3.putS (i := j) (by rw [List.length_set]; exact b2) (Rep.less (fun a z => W_putF z) q3)
      refine ⟨v, r', rfl, ok _ rfl _ rfl _ _ _ s4 ((((t1.trans Stp.thawL).trans (Stp.put none1)).trans (Stp.put none1)).mono fun l hl => by simpa [muS] using hl) ⟨fun l hl => ?_, by rw [List.length_set, List.length_set]⟩⟩
      have n1 : l ≠ i ∧ l ≠ j := by simpa [asS] using hl
      rw [List.getElem?_set_ne (Ne.symm n1.2), List.getElem?_set_ne (Ne.symm n1.1)]
    · simp at hln
  · exact absurd rfl ne
theorem swst3 {x y z : Str} {px py pz pt p2 : Pos} {kt k2 : Nat} {a b c : Expr} {E : PySem.Env} (hk : E.scope.kind = .function) (hx : E.scope.names.lookup x = some .local) (hy : E.scope.names.lookup y = some .local) (hz : E.scope.names.lookup z = some .local) (hxy : (x != y) = true) (hxz : (x != z) = true) (hyz : (y != z) = true) (hl : (px.line == py.line) = true) (hl2 : (px.line == pz.line) = true)
    (ha : starred a = false) (hb : starred b = false) (hcc : starred c = false) (hf : allFold [a, b, c] = false) (hc : allCon [a, b, c] = false) : swappedStores [.Tuple [.Name x px, .Name y py, .Name z pz] kt pt] (.Tuple [a, b, c] k2 p2) E = pure (some [x, y, z]) := by
  have kx : E.kindOf x = some .local := hx
  have ky : E.kindOf y = some .local := hy
  have kz : E.kindOf z = some .local := hz
  have hb' : E.blockKind = .function := by unfold Env.blockKind; rw [hk]; rfl
  have f1 : [a, b, c].all (foldedForSure 8) = false := hf
  have c1 : [a, b, c].all (constantsAlone 8) = false := hc
  have hne : x ≠ y := by simpa using hxy
  have hne2 : x ≠ z := by simpa using hxz
  have hne3 : y ≠ z := by simpa using hyz
  have hl' : px.line = py.line := by simpa using hl
  have hl2' : px.line = pz.line := by simpa using hl2
  have ed : ([x, y, z] : List Str).eraseDups = [x, y, z] := by
    simp [List.eraseDups_cons, Ne.symm hne, Ne.symm hne2, Ne.symm hne3]
  unfold swappedStores
  simp only [hb', f1, c1]
  simp [kx, ky, kz, ← hl', ← hl2', ed, Expr.pos]
  intro h
  exfalso
  rcases h with h | h | h
  · cases a <;> first | exact Bool.noConfusion ha | exact Bool.noConfusion h
  · cases b <;> first | exact Bool.noConfusion hb | exact Bool.noConfusion h
  · cases c <;> first | exact Bool.noConfusion hcc | exact Bool.noConfusion h
theorem ts_par3 (G : GoodS C P X Ew Γ k) {x y z : Str} {px py pz pt p2 : Pos} {kt k2 i j l : Nat} {a b c : Expr} {cs : List E} {rs : List R} (hi : stOf C x = some i) (hj : stOf C y = some j) (hk : stOf C z = some l) (hx : isLoc C x = true) (hy : isLoc C y = true) (hz : isLoc C z = true) (hij : i ≠ j) (hil : i ≠ l) (hjl : j ≠ l)
    (hxy : (x != y) = true) (hxz : (x != z) = true) (hyz : (y != z) = true) (hl : (px.line == py.line) = true) (hl2 : (px.line == pz.line) = true)
    (ha : starred a = false) (hb : starred b = false) (hcc : starred c = false) (hf : allFold [a, b, c] = false) (hc : allCon [a, b, c] = false) (h : TrA C P X Ew Γ T [a, b, c] cs rs T1) (hT : inT1 T1 [i, j, l] = true) :
    TrS C P X Ew Γ T (.Assign [.Tuple [.Name x px, .Name y py, .Name z pz] kt pt] (.Tuple [a, b, c] k2 p2) pos) (.par [i, j, l] cs) (some ((((frz T1 rs).set i .sh).set j .sh).set l .sh)) := by
  intro A env σ H Z D s ne ok rt ex
  have lx : X.env.scope.names.lookup x = some .local := by rw [G.g.sc]; exact of_decide_eq_true hx
  have ly : X.env.scope.names.lookup y = some .local := by rw [G.g.sc]; exact of_decide_eq_true hy
  have lz : X.env.scope.names.lookup z = some .local := by rw [G.g.sc]; exact of_decide_eq_true hz
  have ee : exS Γ (.par [i, j, l] cs) env = .after (evEs Γ cs env) fun ds env1 => if [i, j, l].length = ds.length then .nx (wbk env1 [i, j, l] ds) else .err := rfl
  rw [ee] at ne ok ex
  refine .of (ps_par3 G.g.calm G.g.nd (by rw [G.g.N]; exact (slot_vis (st_slot hi).1).1) (by rw [G.g.N]; exact (slot_vis (st_slot hj).1).1) (by rw [G.g.N]; exact (slot_vis (st_slot hk).1).1) hij hil hjl lx ly lz paW (swst3 G.kind lx ly lz hxy hxz hyz hl hl2 ha hb hcc hf hc) (swapsS rfl _ _ _))
    (argsS h s ne ex (fun j hj => by simp [muS]; exact .inl hj) fun ds env1 vs H1 A1 F1 e1 eg f1 s1 t1 r1 => ?_)
  rw [eg] at ne ok
  split at ne
  · rename_i hln
    rw [if_pos hln] at ok
    obtain ⟨l1, l2⟩ := r1.len
    obtain ⟨s2, r2⟩ := freed s1 (fresh_notZ s f1) r1
    rcases ds with _ | ⟨d, _ | ⟨d', _ | ⟨d3, _ | ⟨d4, ds⟩⟩⟩⟩
    · cases hln
    · cases hln
    · simp at hln
    · obtain ⟨v, _, rfl, q1, v', _, rfl, q3, v3, _, rfl, q5, q4⟩ := r2
      obtain rfl := q4
      have hT' := inT1_all hT
      have b1 : i < env1.length := by rw [← s1.lt]; exact hT' i (by simp)
      have b2 : j < env1.length := by rw [← s1.lt]; exact hT' j (by simp)
      have b3 : l < env1.length := by rw [← s1.lt]; exact hT' l (by simp)
      have s3 := s2.putS b1 q1
      have s4 := s3.putS (i := j) (by rw [List.length_set]; exact b2) (Rep.less (fun a z => W_putF z) q3)
      have s5 := s4.putS (i := l) (by rw [List.length_set, List.length_set]; exact b3) (Rep.less (fun a z => W_putF (W_putF z)) q5)
      refine ⟨v, v', v3, rfl, ok _ rfl _ rfl _ _ _ s5 (((((t1.trans Stp.thawL).trans (Stp.put none1)).trans (Stp.put none1)).trans (Stp.put none1)).mono fun l hl => by simpa [muS] using hl) ⟨fun q hl => ?_, by rw [List.length_set, List.length_set, List.length_set]⟩⟩
      have n1 : q ≠ i ∧ q ≠ j ∧ q ≠ l := by simpa [asS] using hl
      rw [List.getElem?_set_ne (Ne.symm n1.2.2), List.getElem?_set_ne (Ne.symm n1.2.1), List.getElem?_set_ne (Ne.symm n1.1)]
    · simp at hln
  · exact absurd rfl ne
def auI : Op → Int → Int → Int
  | .add, a, b => a + b
  | _, a, b => a - b
theorem ts_aug (G : GoodS C P X Ew Γ k) {x : Str} {i : Nat} {o : Operator} {o' : Op} {e : Expr} {c : E} {r : R} {px : Pos} (hi : stOf C x = some i) (ho : auOf o = some o') (h : TrE C P X Ew Γ T e c r T1) (hn : (muE c).contains i = false) (hl : i < T1.length) :
    TrS C P X Ew Γ T (.AugAssign (.Name x px) o e pos) (.aug i o' c) (some (T1.set i .sh)) := by
  intro A env σ H Z D s ne ok rt ex
  obtain ⟨h1, h2⟩ := st_slot hi
  obtain ⟨l1, l2⟩ := G.st x h2
  have ee : exS Γ (.aug i o' c) env = oK (slotD env i) fun x => .after (evE Γ c env) fun y env1 => oK (augB o' x y) fun z => .nx (env1.set i (some z)) := rfl
  rw [ee] at ne ok ex
  cases hs : slotD env i with
  | none => rw [hs] at ne; exact absurd rfl ne
  | some d =>
    rw [hs] at ne ok ex
    have ne : SO.after (evE Γ c env) (fun y env1 => oK (augB o' d y) fun z => .nx (env1.set i (some z))) ≠ .err := ne
    have ok : OkNe P (SO.after (evE Γ c env) (fun y env1 => oK (augB o' d y) fun z => .nx (env1.set i (some z)))) (muS (.aug i o' c)) (asS (.aug i o' c)) (some (T1.set i .sh)) A env σ H Z D.nx := ok
    have ex : ExS C P Ew (SO.after (evE Γ c env) (fun y env1 => oK (augB o' d y) fun z => .nx (env1.set i (some z)))) (muS (.aug i o' c)) (asS (.aug i o' c)) A env σ H Z := ex
    have hs' := slotD_get hs
    have hTi : i < T.length := by rw [s.lt]; exact (List.getElem?_eq_some_iff.mp hs').1
    obtain ⟨v, hv, ow⟩ := s.val i _ d (List.getElem?_eq_getElem hTi) hs'
    have run : ∀ {w : V → V → Hp → VK → Prop}, (∀ a b H1 Q, d = .int a → Q (.int (auI o' a b)) H1 → w (.int a) (.int b) H1 Q) → tAug i (WE X e) w D σ H := fun {w} hw => by
      refine ⟨v, hv, oneS h s ne ex (fun j hj => by simp [muS]; exact .inl hj) fun y env1 v1 H1 A1 F1 e1 eg f1 s1 t1 r1 => ?_⟩
      rw [eg] at ne ok
      cases hz : augB o' d y with
      | none => rw [hz] at ne; exact absurd rfl ne
      | some z =>
        rw [hz] at ok
        have vy := r1.view s1
        obtain ⟨a, b, rfl, rfl, hz'⟩ : ∃ a b, d = .int a ∧ y = .int b ∧ z = .int (auI o' a b) := by
          unfold augB at hz
          split at hz
          · cases hz; exact ⟨_, _, rfl, rfl, rfl⟩
          · cases hz; exact ⟨_, _, rfl, rfl, rfl⟩
          · cases hz
        obtain rfl := vw_int ow.view
        obtain rfl := vw_int vy
        subst hz'
        have hi1 : i < env1.length := by rw [← s1.lt]; exact hl
        have s3 := s1.drop.putS (i := i) (d := .int (auI o' a b)) (v := .int (auI o' a b)) hi1 rfl
        exact hw a b H1 _ rfl (ok _ rfl _ rfl _ _ _ s3 ((t1.trans (Stp.put none1)).mono fun l hl => by simpa [muS] using hl) ⟨fun l hl => List.getElem?_set_ne fun e => hl (by simp [asS, e]), List.length_set⟩)
    unfold auOf at ho
    split at ho
    · cases ho
      exact .of (ps_aug G.g.nd (by rw [G.g.N]; exact (slot_vis h1).1) l1 peW ip_add l2) (run fun a b H1 Q _ q => ⟨a, b, rfl, rfl, q⟩)
    · cases ho
      exact .of (ps_aug G.g.nd (by rw [G.g.N]; exact (slot_vis h1).1) l1 peW ip_sub l2) (run fun a b H1 Q _ q => ⟨a, b, rfl, rfl, q⟩)
    · cases ho
end
end Fc
end

section
/-! Statements, 5: items stored, branches, loops. -/
namespace Fc
open PySem L2 PySem.Spec
open PyProof.Rows hiding St
section
variable {C : Ctx} {P : GP} {X : Cx} {Ew : L2.St → XK} {Γ : Gam} {k : Nat}
variable {T T' T1 T2 T3 : List M} {To Ta Tb : Option (List M)} {A A1 A2 A' : Ft} {env env1 env2 env' : Env} {σ σ1 σ2 σ' : L2.St} {H H1 H2 H3 H' : Hp} {Z Z1 Z2 Z' : AS} {mu mu1 mu2 as as1 as2 : List Nat} {pos : Pos}
theorem asg_sub {o i : Expr} {E : PySem.Env} (h : isSliceE i = false) : ∀ v, assign (.Subscript o i pos) E v = (do
      let ov ← holding [v] (eval o E)
      let iv ← holding [v, ov] (eval i E)
      standAt pos
      holding [v, ov, iv] (setItem ov iv v)
      release [v, ov, iv] []) := by
  intro v
  cases i <;> first | exact Bool.noConfusion h | rfl
theorem swst_sub {o i e : Expr} {p : Pos} (E : PySem.Env) : swappedStores [.Subscript o i p] e E = pure none := by
  cases e <;> rfl
theorem ts_seti (G : GoodS C P X Ew Γ k) {x : Str} {i : Nat} {ix e : Expr} {c ix' : E} {r ri : R} {px ps : Pos} (hi : slotOf C x = some i) (hd : (x == ("__debug__" : Str)) = false) (hcd : (x == ("__classdict__" : Str)) = false) (h : TrE C P X Ew Γ T e c r T1) (h' : TrE C P X Ew Γ T1 ix ix' ri T2)
    (hT : (frz T2 [r])[i]? = some .top) (hn : okNext r ix' = true) (hs : isSliceE ix = false) (hc : isLC e = false) : TrS C P X Ew Γ T (.Assign [.Subscript (.Name x px) ix ps] e pos) (.seti i [] ix' c) (some (frz T2 [r])) := by
  intro A env σ H Z D s ne ok rt ex
  obtain ⟨w1, w2⟩ := slot_vis hi
  have pv : PE X (.Name x px) (tVar i) := pe_var (by rw [G.g.N]; exact w1) (by rw [G.g.sc]; exact w2) hd hcd
  have ee : exS Γ (.seti i [] ix' c) env = .after (evE Γ c env) fun v env1 => oK (slotD env1 i) fun _ => .after (evE Γ ix' env1) fun k env3 => setK env3 i [] (setD k v) := rfl
  rw [ee] at ne ok ex
  refine .of (ps_asg peW (pg_sub pv peW set_list (asg_sub hs)) (swapsS hc _ _ _) (swst_sub _)) ?_
  refine oneS h s ne ex (fun j hj => by simp [muS]; exact .inl hj) fun d env1 v1 H1 A1 F1 e1 eg f1 s1 t1 r1 => ?_
  rw [eg] at ne ok ex
  cases hs0 : slotD env1 i with
  | none => rw [hs0] at ne; exact absurd rfl ne
  | some dl0 =>
  rw [hs0] at ne ok ex
  have ne : SO.after (evE Γ ix' env1) (fun k env3 => setK env3 i [] (setD k d)) ≠ .err := ne
  have ok : OkNe P (SO.after (evE Γ ix' env1) (fun k env3 => setK env3 i [] (setD k d))) (muS (.seti i [] ix' c)) (asS (.seti i [] ix' c)) (some (frz T2 [r])) A env σ H Z D.nx := ok
  have ex : ExS C P Ew (SO.after (evE Γ ix' env1) (fun k env3 => setK env3 i [] (setD k d))) (muS (.seti i [] ix' c)) (asS (.seti i [] ix' c)) A env σ H Z := ex
  have hT1i : i < T1.length := by rw [s1.lt]; exact (List.getElem?_eq_some_iff.mp (slotD_get hs0)).1
  obtain ⟨v0, e0, o0⟩ := s1.val i _ dl0 (List.getElem?_eq_getElem hT1i) (slotD_get hs0)
  refine ⟨v0, e0, oneS (mu := muS (.seti i [] ix' c)) (as := asS (.seti i [] ix' c)) h' s1 ne (fun x e' e cls dd σ' H' A' s' t' g' rr => ex x e' e cls dd σ' H' A' (s'.less fun a z => .inl z) ((t1.trans t').mono fun j hj => ?_) g' (rr.less fun a z => z.imp .inl id)) (fun j hj => by simp [muS]; exact .inr (.inr (.inl hj))) fun kd env2 w2 H2 A2 F2 e2 eg2 f2 s2 t2 r2 => ?_⟩
  · rcases List.mem_append.mp hj with q | q
    · simp [muS]; exact .inl q
    · exact q
  rw [eg2] at ne ok
  have hsl : ∃ dl rd dn, slotD env2 i = some dl ∧ setD kd d dl = some (rd, dn) := by
    unfold setK mutK at ne
    cases q : slotD env2 i with
    | none => rw [q] at ne; exact absurd rfl ne
    | some dl =>
      rw [q] at ne
      cases q2 : setD kd d dl with
      | none =>
        have ne : (match (match setD kd d dl with | some (r, d') => Out.ok r (env2.set i (some d')) | none => Out.err) with | .ok _ env' => SO.nx env' | _ => .err) ≠ .err := ne
        rw [q2] at ne; exact absurd rfl ne
      | some rd => exact ⟨dl, rd.1, rd.2, rfl, q2⟩
  obtain ⟨dl, rd, dn, hsl, hset⟩ := hsl
  have r1' := r1.step (G := F2) t2 hn (fun a ha j q => s1.zA j a q (.inr ha)) f2
  have hFz := fresh_notZ s f1
  have s3 : SR P (frz T2 [r]) (thawL A2 [r]) env2 σ H2 Z := ((SR.thawL (rs := [r]) s2).less (fun a z => .inl (.inl z)))
  have ry := r1'.free s2 (by simp) (fun a z => .inl (.inl z)) hFz (fun a ha => .inl (.inr ha)) (rs := [r]) (Z' := Z)
  obtain ⟨v0', e0', o⟩ := s3.val i .top dl hT (slotD_get hsl)
  rw [e0] at e0'
  cases e0'
  have vk := r2.view s2
  unfold setD at hset
  cases dl with
  | lst xs =>
    cases kd with
    | int kk =>
      obtain ⟨j, hj, hq⟩ := Option.map_eq_some_iff.mp hset
      cases hq
      obtain rfl := vw_int vk
      obtain ⟨l, ws, rfl, eF, eH, eR⟩ := own_lst o
      have hj0 := hj
      rw [eR.length] at hj
      have hi2 : i < env2.length := (List.getElem?_eq_some_iff.mp (slotD_get hsl)).1
      have nw : Reps P (upd H2 l (.lst (ws.set j v1))) (W Z (thawL A2 [r])) (xs.set j d) (ws.set j v1) := reps_upd eF (eR.set ry j)
      have s4 := s3.write hT hi2 e0 eF (o := .lst (ws.set j v1)) rfl (d' := .lst (xs.set j d)) ⟨l, _, rfl, rfl, upd_same, nw⟩
      refine ⟨l, ws, kk, j, rfl, rfl, eH, hj, ?_⟩
      have en : setK env2 i [] (setD (.int kk) d) = .nx (env2.set i (some (.lst (xs.set j d)))) := by
        unfold setK mutK
        rw [hsl]
        show (match (match setD (.int kk) d (.lst xs) with | some (r, d') => Out.ok r (env2.set i (some d')) | none => Out.err) with | .ok _ env' => SO.nx env' | _ => .err) = _
        unfold setD
        simp only
        rw [hj0]
        rfl
      refine ok _ en _ rfl _ _ _ s4 ((((t1.trans t2).trans Stp.thawL).trans (Stp.write eF)).mono fun q hq => by simpa [muS, muEs, or_assoc] using hq) (Sg.refl.mono fun q hq => absurd hq (by simp))
    | _ => cases hset
  | _ => cases hset
theorem joinO_le {Ta Tb : List M} (h : Ta.length = Tb.length) : leT (meetT Ta Tb) Ta = true ∧ leT (meetT Ta Tb) Tb = true := meet_l h
theorem ts_if {c : Expr} {c' : Fc.T} {a b : List Stmt} {a' b' : List S} (hc : TrT C P X Ew Γ T c c' T1) (ha : TrSs C P X Ew Γ T1 a a' Ta) (hb : TrSs C P X Ew Γ T1 b b' Tb) (hla : lenO T Ta = true) (hlb : lenO T Tb = true) :
    TrS C P X Ew Γ T (.If c a b pos) (.ife c' a' b') (joinO Ta Tb) := by
  intro A env σ H Z D s ne ok rt ex
  have ee : exS Γ (.ife c' a' b') env = .after (evT Γ c' env) fun t env1 => iteS t env1 (exSs Γ a') (exSs Γ b') := rfl
  rw [ee] at ne ok rt ex
  refine .of (ps_if ptW pssW pssW) (hc A env σ H Z _ s (after_ne ne) (fun t env1 e1 H1 A1 s1 t1 => ?_) (ex.exE (fun x e' e => after_exn e) Stp.refl Sg.refl (fun j hj => by simp [muS] at hj ⊢; exact .inl hj) (fun j hj => absurd hj (by simp))))
  have e2 := after_ok (f := fun t env1 => iteS t env1 (exSs Γ a') (exSs Γ b')) e1
  rw [e2] at ne ok rt ex
  have weakN : ∀ {To : Option (List M)} {mu2 as2 : List Nat} {o2 : SO}, (∀ T', To = some T' → ∃ T'', joinO Ta Tb = some T'' ∧ leT T'' T' = true) → OkNe P o2 (muS (.ife c' a' b')) (asS (.ife c' a' b')) (joinO Ta Tb) A env σ H Z D.nx → (∀ j, j ∈ muT c' ++ mu2 → j ∈ muS (.ife c' a' b')) → (∀ j, j ∈ as2 → j ∈ asS (.ife c' a' b')) →
      OkNe P o2 mu2 as2 To A1 env1 σ H1 Z D.nx := fun {To mu2 as2 o2} hj ok hm hs env' e' T' et σ' H' A' s' t' g' => by
    obtain ⟨T'', e3, l⟩ := hj T' et
    exact ok env' e' T'' e3 σ' H' _ (s'.weak l) (((t1.trans t').trans Stp.weak).mono fun j hj => hm j (by simpa using hj)) (g'.mono hs)
  cases t with
  | true =>
    refine ha A1 env1 σ H1 Z D s1 ne (weakN (fun T' e => ?_) ok (fun j hj => by simp [muS] at hj ⊢; rcases hj with h | h; exact .inl h; exact .inr (.inl h)) (fun j hj => by simp [asS]; exact .inl hj)) (rt.go (fun _ _ e => e) t1 (as1 := []) Sg.refl (fun j hj => by simp [muS] at hj ⊢; rcases hj with h | h; exact .inl h; exact .inr (.inl h)) (fun j hj => by simp [asS] at hj ⊢; exact .inl hj)) (ex.go (fun _ _ e => e) t1 (as1 := []) Sg.refl (fun j hj => by simp [muS] at hj ⊢; rcases hj with h | h; exact .inl h; exact .inr (.inl h)) (fun j hj => by simp [asS] at hj ⊢; exact .inl hj))
    subst e
    cases Tb with
    | none => exact ⟨T', rfl, leT_refl⟩
    | some Tb =>
      have l1 : T'.length = T.length := by simpa [lenO] using hla
      have l2 : Tb.length = T.length := by simpa [lenO] using hlb
      exact ⟨_, rfl, (joinO_le (l1.trans l2.symm)).1⟩
  | false =>
    refine hb A1 env1 σ H1 Z D s1 ne (weakN (fun T' e => ?_) ok (fun j hj => by simp [muS] at hj ⊢; rcases hj with h | h; exact .inl h; exact .inr (.inr h)) (fun j hj => by simp [asS]; exact .inr hj)) (rt.go (fun _ _ e => e) t1 (as1 := []) Sg.refl (fun j hj => by simp [muS] at hj ⊢; rcases hj with h | h; exact .inl h; exact .inr (.inr h)) (fun j hj => by simp [asS] at hj ⊢; exact .inr hj)) (ex.go (fun _ _ e => e) t1 (as1 := []) Sg.refl (fun j hj => by simp [muS] at hj ⊢; rcases hj with h | h; exact .inl h; exact .inr (.inr h)) (fun j hj => by simp [asS] at hj ⊢; exact .inr hj))
    subst e
    cases Ta with
    | none => exact ⟨T', rfl, leT_refl⟩
    | some Ta =>
      have l1 : Ta.length = T.length := by simpa [lenO] using hla
      have l2 : T'.length = T.length := by simpa [lenO] using hlb
      exact ⟨_, rfl, (joinO_le (l1.trans l2.symm)).2⟩
/-! ### loops -/
theorem leO_le (h : leO T To = true) {T' : List M} (e : To = some T') : leT T T' = true := by
  subst e; exact h
theorem ts_while (G : GoodS C P X Ew Γ k) {c : Expr} {c' : Fc.T} {b : List Stmt} {b' : List S} {Ti : List M} (hc : TrT C P X Ew Γ Ti c c' T1) (hb : TrSs C P X Ew Γ T1 b b' Tb) (hl : leT Ti T = true) (hl2 : leO Ti Tb = true) :
    TrS C P X Ew Γ T (.While c b [] pos) (.whl c' b') (some T1) := by
  intro A env σ H Z D s ne ok rt ex
  have ee : exS Γ (.whl c' b') env = whlL (evT Γ c') (exSs Γ b') Γ.fuel env := rfl
  rw [ee] at ne ok rt ex
  generalize ho : whlL (evT Γ c') (exSs Γ b') Γ.fuel env = o at *
  refine .of (ps_while G.own ptW pssW) ?_
  refine ⟨fun m σ1 H1 => ∃ A1 env1, SR P Ti A1 env1 σ1 H1 Z ∧ Stp (muS (.whl c' b')) A H env A1 H1 env1 ∧ Sg (asS (.whl c' b')) σ σ1 ∧ whlL (evT Γ c') (exSs Γ b') m env1 = o, ⟨Γ.fuel, _, env, s.weak hl, Stp.weak.mono fun j hj => absurd hj (by simp), Sg.refl.mono fun j hj => absurd hj (by simp), ho⟩, ?_⟩
  rintro m σ1 H1 ⟨A1, env1, s1, t1, g1, e1⟩
  cases m with
  | zero => exact absurd e1.symm ne
  | succ m =>
    have e1 : SO.after (evT Γ c' env1) (fun b env2 => iteS b env2 (fun env2 => (exSs Γ b' env2).seq (whlL (evT Γ c') (exSs Γ b') m)) .nx) = o := e1
    have ne1 := ne
    rw [← e1] at ne1
    refine hc A1 env1 σ1 H1 Z _ s1 (after_ne ne1) (fun t env2 e2 H2 A2 s2 t2 => ?_) (ex.exE (fun x e' e => by rw [← e1]; exact after_exn e) t1 g1 (fun j hj => ?_) (fun j hj => hj))
    · rw [after_ok e2] at e1
      have t12 := (t1.trans t2).mono (mu' := muS (.whl c' b')) fun j hj => by
        rcases List.mem_append.mp hj with h | h
        · exact h
        · simp [muS]; exact .inl h
      cases t with
      | false =>
        show D.nx σ1 H2
        exact ok env2 e1.symm _ rfl σ1 H2 A2 s2 t12 g1
      | true =>
        have e1 : (exSs Γ b' env2).seq (whlL (evT Γ c') (exSs Γ b') m) = o := e1
        show ∃ N : L2.St → Hp → Prop, _
        refine ⟨fun σ3 H3 => ∃ A3 env3, SR P Ti A3 env3 σ3 H3 Z ∧ Stp (muS (.whl c' b')) A H env A3 H3 env3 ∧ Sg (asS (.whl c' b')) σ σ3 ∧ whlL (evT Γ c') (exSs Γ b') m env3 = o, fun σ3 H3 h3 => ⟨m, Nat.lt_succ_self _, h3⟩, ?_⟩
        have ne2 := ne
        rw [← e1] at ne2
        have mb : ∀ j, j ∈ muS (.whl c' b') ++ muSs b' → j ∈ muS (.whl c' b') := fun j hj => by
          rcases List.mem_append.mp hj with h | h
          · exact h
          · simp [muS]; exact .inr h
        have ab : ∀ j, j ∈ asS (.whl c' b') ++ asSs b' → j ∈ asS (.whl c' b') := fun j hj => by
          rcases List.mem_append.mp hj with h | h
          · exact h
          · simp [asS]; exact h
        refine hb A2 env2 σ1 H2 Z _ s2 (seq_ne ne2) (fun env3 e3 T' et σ3 H3 A3 s3 t3 g3 => ?_) (rt.go (fun d e' e => by rw [← e1]; exact seq_rt e) t12 g1 mb ab) (ex.go (fun d e' e => by rw [← e1]; exact seq_exn e) t12 g1 mb ab)
        rw [seq_nx e3] at e1
        exact ⟨_, env3, s3.weak (leO_le hl2 et), ((t12.trans t3).trans Stp.weak).mono fun j hj => mb j (by simpa using hj), (g1.trans g3).mono ab, e1⟩
    · rcases List.mem_append.mp hj with h | h
      · exact h
      · simp [muS]; exact .inl h
theorem shS_len : ∀ {is : List Nat} {T : List M}, (shS T is).length = T.length
  | [], T => rfl
  | i :: is, T => by show ((shS T is).set i .sh).length = _; rw [List.length_set, shS_len]
theorem leT_len : ∀ {T T' : List M}, leT T T' = true → T.length = T'.length
  | [], [], _ => rfl
  | a :: as, b :: bs, h => by
    have h' : (a.le b && leT as bs) = true := h
    rw [Bool.and_eq_true] at h'
    simp [leT_len h'.2]
  | [], _ :: _, h => Bool.noConfusion h
  | _ :: _, [], h => Bool.noConfusion h
theorem of_nx {o : Option Env} {f : Env → SO} {e : Env} (h : o = some e) : (SO.of o).seq f = f e := by rw [h]; rfl
theorem ts_for (G : GoodS C P X Ew Γ k) {n : Nat} {tg iter : Expr} {ik : Ik} {src : List E} {tg' : Tg} {b : List Stmt} {b' : List S} {Ti : List M} (hset : isSetE iter = false)
    (hi : TrI C P X Ew Γ T tg iter ik src (tgS tg' ++ muSs b') T1) (ht : cTg C n tg = some tg') (hb : TrSs C P X Ew Γ (shS Ti (tgS tg')) b b' Tb) (hl : leT Ti T1 = true) (hl2 : leO Ti Tb = true) (hl3 : inT1 T1 (tgS tg') = true) :
    TrS C P X Ew Γ T (.For tg iter b [] pos) (.loop tg' ik src b') (some Ti) := by
  intro A env σ H Z D s ne ok rt ex
  have ee : exS Γ (.loop tg' ik src b') env = .after (evEs Γ src env) fun ds env1 => oK (itemsD ik ds) fun xs => forL (fun d env' => (SO.of (asgT tg' d env')).seq (exSs Γ b')) xs env1 := rfl
  rw [ee] at ne ok rt ex
  refine .of (ps_for G.own G.g.calm piW (pg_T G.t _ _ _ ht) pssW (fold_ok hset)) ?_
  refine hi A env σ H Z _ s (after_ne ne) (fun ds env1 e1 => ?_) (ex.exE (fun x e' e => after_exn e) Stp.refl Sg.refl (fun j hj => by simp [muS] at hj ⊢; exact .inl hj) (fun j hj => absurd hj (by simp)))
  have e2 := after_ok (f := fun ds env1 => oK (itemsD ik ds) fun xs => forL (fun d env' => (SO.of (asgT tg' d env')).seq (exSs Γ b')) xs env1) e1
  rw [e2] at ne ok rt ex
  cases hxs : itemsD ik ds with
  | none => rw [hxs] at ne; exact absurd rfl ne
  | some xs =>
    rw [hxs] at ne ok rt ex
    refine ⟨xs, rfl, fun J S H1 A1 s1 t1 src0 hS => ?_⟩
    generalize ho : (oK (some xs) fun xs => forL (fun d env' => (SO.of (asgT tg' d env')).seq (exSs Γ b')) xs env1) = o at *
    have ho : forL (fun d env' => (SO.of (asgT tg' d env')).seq (exSs Γ b')) xs env1 = o := ho
    have mb : ∀ j, j ∈ muEs src ++ (tgS tg' ++ muSs b') → j ∈ muS (.loop tg' ik src b') := fun j hj => hj
    refine ⟨fun i m σ2 H2 => m = xs.length - i ∧ i ≤ xs.length ∧ ∃ A2 env2, SR P Ti A2 env2 σ2 H2 Z ∧ S A2 H2 ∧ Stp (tgS tg' ++ muSs b') A1 H1 env1 A2 H2 env2 ∧ Sg (tgS tg' ++ asSs b') σ σ2 ∧ forL (fun d env' => (SO.of (asgT tg' d env')).seq (exSs Γ b')) (xs.drop i) env2 = o,
      ⟨xs.length, by simp, Nat.zero_le _, _, env1, s1.weak hl, src0.step (env := env1) (env' := env1) hS (Stp.weak.mono fun j hj => absurd hj (by simp)), Stp.weak.mono fun j hj => absurd hj (by simp), Sg.refl.mono fun j hj => absurd hj (by simp), by simpa using ho⟩, ?_⟩
    rintro i m σ2 H2 ⟨rfl, hle, A2, env2, s2, hS2, t2, g2, e3⟩
    by_cases hlt : i < xs.length
    · refine .inr ⟨(src0.item hS2 s2.cells (List.getElem?_eq_getElem hlt)).1, fun σ5 H5 => ∃ A2 env2, SR P Ti A2 env2 σ5 H5 Z ∧ S A2 H5 ∧ Stp (tgS tg' ++ muSs b') A1 H1 env1 A2 H5 env2 ∧ Sg (tgS tg' ++ asSs b') σ σ5 ∧ forL (fun d env' => (SO.of (asgT tg' d env')).seq (exSs Γ b')) (xs.drop (i + 1)) env2 = o,
        fun σ5 H5 h5 => ⟨xs.length - (i + 1), by omega, rfl, hlt, h5⟩, fun x H3 y => ?_⟩
      obtain ⟨gr, rx⟩ := (src0.item hS2 s2.cells (List.getElem?_eq_getElem hlt)).2 x H3 y
      rw [List.drop_eq_getElem_cons hlt] at e3
      have e3 : ((SO.of (asgT tg' xs[i] env2)).seq (exSs Γ b')).seq (forL (fun d env' => (SO.of (asgT tg' d env')).seq (exSs Γ b')) (xs.drop (i + 1))) = o := e3
      have ne3 := ne
      rw [← e3] at ne3
      have ne4 := seq_ne ne3
      cases ha : asgT tg' xs[i] env2 with
      | none => rw [ha] at ne4; exact absurd rfl ne4
      | some env3 =>
        rw [ha] at ne4 e3
        have ne4 : exSs Γ b' env3 ≠ .err := ne4
        have e3 : (exSs Γ b' env3).seq (forL (fun d env' => (SO.of (asgT tg' d env')).seq (exSs Γ b')) (xs.drop (i + 1))) = o := e3
        have s2' := s2.grow gr
        have el : env2.length = T1.length := by
          rw [← s2.lt, leT_len hl]
        refine tg_run G.g.K tg' xs[i] x Ti A2 env2 σ2 env3 _ s2' (fun i hi => by rw [el]; exact inT1_all hl3 i hi) rx ha fun σ3 T4 A3 s4 l4 t4 g4 sub4 => ?_
        have s5 := s4.weak l4
        have tA : Stp (tgS tg' ++ muSs b') A2 H2 env2 (keepF (shS Ti (tgS tg')) A3) H3 env3 := by
          have a1 : Stp [] A2 H2 env2 A2 H3 env2 := Stp.grow gr
          exact ((a1.trans t4).trans Stp.weak).mono fun j hj => by simp at hj ⊢; exact .inl hj
        have tB : Stp (tgS tg' ++ muSs b') A1 H1 env1 (keepF (shS Ti (tgS tg')) A3) H3 env3 := (t2.trans tA).mono fun j hj => by
          rcases List.mem_append.mp hj with h | h
          · exact h
          · exact h
        have tC : Stp (muS (.loop tg' ik src b')) A H env (keepF (shS Ti (tgS tg')) A3) H3 env3 := (t1.trans tB).mono mb
        have gB : Sg (tgS tg' ++ asSs b') σ σ3 := (g2.trans g4).mono fun j hj => by
          rcases List.mem_append.mp hj with h | h
          · exact h
          · exact List.mem_append_left _ h
        have mb2 : ∀ j, j ∈ muS (.loop tg' ik src b') ++ muSs b' → j ∈ muS (.loop tg' ik src b') := fun j hj => by
          rcases List.mem_append.mp hj with h | h
          · exact h
          · simp [muS]; exact .inr (.inr h)
        have ab2 : ∀ j, j ∈ (tgS tg' ++ asSs b') ++ asSs b' → j ∈ asS (.loop tg' ik src b') := fun j hj => by
          rcases List.mem_append.mp hj with h | h
          · exact h
          · exact List.mem_append_right _ h
        refine hb _ env3 σ3 H3 Z _ s5 ne4 (fun env5 e5 T' et σ5 H5 A5 s6 t6 g6 => ?_) (rt.go (fun d e' e => by rw [← e3]; exact seq_rt e) tC gB mb2 ab2) (ex.go (fun d e' e => by rw [← e3]; exact seq_exn e) tC gB mb2 ab2)
        rw [seq_nx e5] at e3
        have tD : Stp (tgS tg' ++ muSs b') A2 H2 env2 (keepF Ti A5) H5 env5 := ((tA.trans t6).trans Stp.weak).mono fun j hj => by
          rcases List.mem_append.mp hj with hj | hj
          · rcases List.mem_append.mp hj with h | h
            · exact h
            · exact List.mem_append_right _ h
          · exact absurd hj (by simp)
        exact ⟨_, env5, s6.weak (leO_le hl2 et), src0.step hS2 tD, (t2.trans tD).mono fun j hj => by
          rcases List.mem_append.mp hj with h | h
          · exact h
          · exact h, (gB.trans g6).mono fun j hj => by
          rcases List.mem_append.mp hj with h | h
          · exact h
          · exact List.mem_append_right _ h, e3⟩
    · have e : i = xs.length := by omega
      subst e
      refine .inl ⟨src0.stop hS2 (Nat.le_refl _), ?_⟩
      rw [List.drop_length] at e3
      exact ok env2 e3.symm _ rfl _ _ _ s2 ((t1.trans t2).mono mb) (g2.mono fun j hj => hj)
end
end Fc
end

section
/-! The induction over statements. -/
namespace Fc
open PySem L2 PySem.Spec
open PyProof.Rows hiding St
structure SndS (P : GP) (Γ : Gam) (k n : Nat) : Prop where
  s : ∀ {C : Ctx} {X : Cx} {Ew : L2.St → XK}, GoodS C P X Ew Γ k → ∀ T st c To, cS C n T st = some (c, To) → TrS C P X Ew Γ T st c To
  ss : ∀ {C : Ctx} {X : Cx} {Ew : L2.St → XK}, GoodS C P X Ew Γ k → ∀ T st c To, cSs C n T st = some (c, To) → TrSs C P X Ew Γ T st c To
section
variable {P : GP} {Γ : Gam} {k n : Nat} {C : Ctx} {X : Cx} {Ew : L2.St → XK}
set_option maxHeartbeats 8000000
theorem snd_ss (ih : SndS P Γ k n) (G : GoodS C P X Ew Γ k) (T st c To) (h : cSs C (n + 1) T st = some (c, To)) : TrSs C P X Ew Γ T st c To := by
  unfold cSs at h
  split at h
  · cases h; exact ts_nil
  · split at h
    · rename_i s' T1 h1
      split at h
      · rename_i h2
        cases h
        exact ts_cons (ih.s G _ _ _ _ h1) (ih.ss G _ _ _ _ h2)
      · cases h
    · rename_i s' h1
      split at h
      · cases h
        exact ts_one (ih.s G _ _ _ _ h1)
      · cases h
    · cases h
theorem names2_eq {ts : List Expr} {x y : Str} {px py : Pos} (h : names2 ts = some (x, y, px, py)) : ts = [.Name x px, .Name y py] := by
  unfold names2 at h
  split at h
  · cases h; rfl
  · cases h
theorem names3_eq {ts : List Expr} {x y z : Str} {px py pz : Pos} (h : names3 ts = some (x, y, z, px, py, pz)) : ts = [.Name x px, .Name y py, .Name z pz] := by
  unfold names3 at h
  split at h
  · cases h; rfl
  · cases h
theorem snd_s (ih : SndS P Γ k n) (G : GoodS C P X Ew Γ k) (T st c To) (h : cS C (n + 1) T st = some (c, To)) : TrS C P X Ew Γ T st c To := by
  have ie := snd P Γ k n
  unfold cS at h
  simp only at h
  split at h
  · cases h; exact ts_pass
  · cases h; exact ts_doc
  · split at h
    · cases h
    · rename_i hl
      split at h
      · rename_i he
        cases h
        exact ts_ex (by simpa using hl) (ie.e G.g _ _ _ _ _ he)
      · cases h
  · rename_i x px e pos
    split at h
    · rename_i i e' r T1 hi he
      split at h
      · rename_i hc
        cases h
        rw [Bool.and_eq_true] at hc
        by_cases hl : isLC e = true
        · obtain ⟨elt, gs, scope, p2, rfl⟩ : ∃ elt gs scope p2, e = .ListComp elt gs scope p2 := by
            have := hc.1
            rw [hl] at this
            simp only [Bool.not_true, Bool.false_or, Bool.and_eq_true] at this
            cases e <;> first | exact ⟨_, _, _, _, rfl⟩ | exact Bool.noConfusion this.1
          have := hc.1
          rw [hl] at this
          simp only [Bool.not_true, Bool.false_or, Bool.and_eq_true] at this
          exact ts_setLc G hi this.1 this.2 he (inT1_one hc.2)
        · exact ts_set G hi (by simpa using hl) (ie.e G.g _ _ _ _ _ he) (inT1_one hc.2)
      · cases h
    · cases h
  · rename_i ts kt pt e pos
    split at h
    · rename_i es k2 p2
      split at h
      · rename_i hf
        split at h
        · rename_i t e' r T1 ht he
          split at h
          · rename_i hl
            cases h
            exact ts_tup G ht rfl (swstF hf) (ie.e G.g _ _ _ _ _ he) hl
          · cases h
        · cases h
      · rename_i hf
        have hf : allFold es = false := by simpa using hf
        split at h
        · rename_i x y px py a b hn hff
          split at h
          · rename_i i j es' rs T1 hi hj he
            split at h
            · rename_i hc
              cases h
              rw [names2_eq hn]
              simp only [Bool.and_eq_true, decide_eq_true_eq] at hc
              obtain ⟨⟨⟨⟨⟨⟨⟨⟨c1, c2⟩, c3⟩, c4⟩, c5⟩, c6⟩, c7⟩, c8⟩, c9⟩ := hc
              exact ts_par G hi hj c1 c2 c3 c4 c5 (nn c7) (nn c8) (by simpa using hff) (nn c6) (ie.es G.g _ _ _ _ _ he) c9
            · cases h
          · cases h
        · split at h
          · rename_i x y z px py pz a b c' hn _ hff
            split at h
            · rename_i i j l es' rs T1 hi hj hk he
              split at h
              · rename_i hc
                cases h
                rw [names3_eq hn]
                simp only [Bool.and_eq_true, decide_eq_true_eq] at hc
                obtain ⟨⟨⟨⟨⟨⟨⟨⟨⟨⟨⟨⟨⟨⟨⟨c1, c2⟩, c3⟩, c4⟩, c5⟩, c6⟩, c7⟩, c8⟩, c9⟩, d1⟩, d2⟩, d3⟩, d4⟩, d5⟩, d6⟩, d7⟩ := hc
                exact ts_par3 G hi hj hk c1 c2 c3 c4 c5 c6 c7 c8 c9 d1 d2 (nn d4) (nn d5) (nn d6) (by simpa using hff) (nn d3) (ie.es G.g _ _ _ _ _ he) d7
              · cases h
            · cases h
          · cases h
    · rename_i hnt
      split at h
      · rename_i t e' r T1 ht he
        split at h
        · rename_i hc
          cases h
          rw [Bool.and_eq_true] at hc
          refine ts_tup G ht (nn hc.1) (swst_e ?_ _) (ie.e G.g _ _ _ _ _ he) hc.2
          cases e <;> first | rfl | exact absurd rfl (hnt _ _ _)
        · cases h
      · cases h
  · rename_i x px ix ps e pos
    split at h
    · rename_i i e' r T1 hi he
      split at h
      · rename_i ix' ri T2 hx
        split at h
        · rename_i hc
          cases h
          obtain ⟨c1, c2, c3, c4, c5, c6⟩ := hc
          obtain ⟨hd, hcd⟩ := or_ff (by simpa using c6 : ¬ (x == ("__debug__" : Str) || x == ("__classdict__" : Str)) = true)
          exact ts_seti G hi hd hcd (ie.e G.g _ _ _ _ _ he) (ie.e G.g _ _ _ _ _ hx) c2 c3 (nn c4) (nn c5)
        · cases h
      · cases h
    · cases h
  · split at h
    · rename_i i o' e' r T1 hi ho he
      split at h
      · rename_i hc
        cases h
        rw [Bool.and_eq_true] at hc
        exact ts_aug G hi ho (ie.e G.g _ _ _ _ _ he) (nn hc.1) (inT1_one hc.2)
      · cases h
    · cases h
  · split at h
    · rename_i he
      split at h
      · rename_i hc
        cases h
        rw [Bool.and_eq_true] at hc
        exact ts_ret G (ie.e G.g _ _ _ _ _ he) hc.1 hc.2
      · cases h
    · cases h
  · split at h
    · rename_i hc
      cases h
      exact ts_retN hc
    · cases h
  · split at h
    · rename_i c' T1 hc
      split at h
      · rename_i a' Ta b' Tb ha hb
        split at h
        · rename_i hl
          cases h
          rw [Bool.and_eq_true] at hl
          exact ts_if (ie.t G.g _ _ _ _ hc) (ih.ss G _ _ _ _ ha) (ih.ss G _ _ _ _ hb) hl.1 hl.2
        · cases h
      · cases h
    · cases h
  · split at h
    · rename_i c' T1 hc
      split at h
      · rename_i b' T2 hb
        split at h
        · rename_i hl
          cases h
          rw [Bool.and_eq_true] at hl
          exact ts_while G (ie.t G.g _ _ _ _ hc) (ih.ss G _ _ _ _ hb) hl.1 hl.2
        · cases h
      · cases h
    · cases h
  · split at h
    · rename_i ik src rs T1 tg' hi ht
      split at h
      · rename_i b' T2 hb
        split at h
        · rename_i hl
          cases h
          simp only [Bool.and_eq_true] at hl
          obtain ⟨⟨⟨⟨⟨l1, l2⟩, l3⟩, l4⟩, l5⟩, l6⟩ := hl
          exact ts_for G (nn l5) (ie.i G.g _ _ _ _ _ _ _ _ hi l6) ht (ih.ss G _ _ _ _ hb) l1 l2 l4
        · cases h
      · cases h
    · cases h
  · cases h
theorem sndS (P : GP) (Γ : Gam) (k : Nat) : ∀ n, SndS P Γ k n
  | 0 => by
    constructor
    all_goals intros
    all_goals (rename_i h; cases h; done)
  | n + 1 => ⟨fun G => snd_s (sndS P Γ k n) G, fun G => snd_ss (sndS P Γ k n) G⟩
end
end Fc
end

section
/-! Defs: each keeps its promise. -/
namespace Fc
open PySem L2 PySem.Spec
open PyProof.Rows hiding St
section
variable {C : Ctx} {P : GP} {X : Cx} {Ew : L2.St → XK} {Γ : Gam} {k : Nat}
variable {T T' T1 T2 T3 : List M} {To : Option (List M)} {A A1 A2 A' : Ft} {env env1 env2 env' : Env} {σ σ1 σ2 σ' : L2.St} {H H1 H2 H3 H' : Hp} {Z Z1 Z2 Z' : AS} {mu mu1 mu2 as as1 as2 : List Nat} {pos : Pos}
/-- slots that hold nothing yet -/
theorem SR.ext {n : Nat} (s : SR P T A env σ H Z) : SR P (T ++ List.replicate n .top) A (env ++ List.replicate n none) (σ ++ List.replicate n none) H Z where
  ls := by simp [s.ls]
  lt := by simp [s.lt]
  val := fun i m d h1 h2 => by
    by_cases hi : i < env.length
    · rw [List.getElem?_append_left (by rw [s.lt]; exact hi)] at h1
      rw [List.getElem?_append_left hi] at h2
      obtain ⟨v, e, q⟩ := s.val i m d h1 h2
      exact ⟨v, by rw [List.getElem?_append_left (by rw [s.ls]; exact hi)]; exact e, q⟩
    · rw [List.getElem?_append_right (by omega), List.getElem?_replicate] at h2
      split at h2 <;> cases h2
  emp := fun i h => by
    refine s.emp i fun d e => h d ?_
    rw [List.getElem?_append_left (List.getElem?_eq_some_iff.mp e).1]
    exact e
  dj := s.dj
  zA := s.zA
  zc := s.zc
theorem iosD_at : ∀ {io : List Nat} {ios : List D} {k i : Nat}, iosD env io = some ios → io[k]? = some i → ∃ d, ios[k]? = some d ∧ env[i]? = some (some d)
  | [], _, _, _, _, h => by simp at h
  | j :: io, ios, k, i, e, h => by
    unfold iosD at e
    split at e
    · rename_i d ds h1 h2
      cases e
      cases k with
      | zero =>
        cases h
        exact ⟨d, rfl, slotD_get h1⟩
      | succ k =>
        obtain ⟨d', q1, q2⟩ := iosD_at (k := k) h2 (by simpa using h)
        exact ⟨d', by simpa using q1, q2⟩
    · cases e
theorem iosD_len : ∀ {io : List Nat} {ios : List D}, iosD env io = some ios → ios.length = io.length
  | [], _, e => by cases e; rfl
  | j :: io, ios, e => by
    unfold iosD at e
    split at e
    · rename_i d ds h1 h2
      cases e
      simp [iosD_len h2]
    · cases e
theorem ioEnv_get {s : Sig} {ios : List D} {i : Nat} (h : i < s.np) : (ioEnv s ios)[i]? = some ((s.io.zip ios).lookup i) := by
  unfold ioEnv
  rw [List.getElem?_map, List.getElem?_range h]
  rfl
theorem rtT_get {io : List Nat} {n i : Nat} (h : i < n) : (rtT io n)[i]? = some (if io.contains i then .top else .sh) := by
  unfold rtT
  rw [List.getElem?_map, List.getElem?_range h]
  rfl
/-- the slots that a def hands back -/
theorem SR.back2 {s : Sig} {ios : List D} {vs : List V} (r : SR P (rtT s.io env.length) A (ioE s.io env) σ H Z) (he : iosD env s.io = some ios) (hnd : s.io.Nodup) (hio : ∀ i ∈ s.io, i < s.np) (hl : vs.length = s.np)
    (hσ : ∀ i ∈ s.io, σ[i]? = (vs.map some)[i]?) : SR P (inT s) A (ioEnv s ios) (vs.map some) H Z where
  ls := by simp [ioEnv, hl]
  lt := by simp [ioEnv, inT]
  val := fun i m d h1 h2 => by
    have hi : i < s.np := by
      have := (List.getElem?_eq_some_iff.mp h1).1
      simpa [inT] using this
    rw [ioEnv_get hi] at h2
    obtain ⟨k, e1, e2⟩ := at_zip (Option.some.inj h2)
    have hm : i ∈ s.io := List.mem_of_getElem? e1
    obtain ⟨d', e3, e4⟩ := iosD_at he e1
    rw [e2] at e3
    cases e3
    have hie : i < env.length := (List.getElem?_eq_some_iff.mp e4).1
    have e5 : (ioE s.io env)[i]? = some (some d) := by
      unfold ioE
      rw [List.getElem?_map, List.getElem?_range hie]
      show some (if s.io.contains i = true then env[i]?.getD none else none) = _
      rw [if_pos (by simpa using hm), e4]
      rfl
    obtain ⟨v, q1, q2⟩ := r.val i .top d (by rw [rtT_get hie, if_pos (by simpa using hm)]) e5
    rw [(inT_get h1).2, if_pos (by simpa using hm)]
    exact ⟨v, by rw [← hσ i hm]; exact q1, q2⟩
  emp := fun i h => by
    refine r.emp i fun d e => ?_
    obtain ⟨hm, e1⟩ := ioE_get e
    obtain ⟨k, hk⟩ := List.mem_iff_getElem?.mp hm
    obtain ⟨d', e3, e4⟩ := iosD_at he hk
    rw [e1] at e4
    cases e4
    refine h d ?_
    rw [ioEnv_get (hio i hm)]
    exact congrArg some (zip_at hnd hk e3)
  dj := r.dj
  zA := r.zA
  zc := r.zc
end
/-- a def's entry modes -/
def T0 (s : Sig) (N : List Str) : List M := inT s ++ List.replicate (N.length - s.np) .top
structure FDef where
  st : Stmt
  x : Str
  ps : List Str
  N : List Str
  sig : Sig
  code : List S
def stF (N : List Str) (sc : Scope) (io : List Nat) (x : Str) : Bool := (match sc.names.lookup x with | some .local => true | some .cell => true | _ => false) && !(io.contains (N.findIdx (· == x)))
/-- what all defs of a text share -/
structure Txt where
  G : List (Str × GK)
  bn : List Str
  sig : Nat → Option Sig
  ck : Nat → Option CK
def FDef.ctx (t : Txt) (d : FDef) : Ctx := { N := d.N, sc := defScope d.st, G := t.G, bn := t.bn, sig := t.sig, ck := t.ck, io := d.sig.io, res := d.sig.res, lb := rtT d.sig.io d.N.length, st := stF d.N (defScope d.st) d.sig.io }
def scOk (N ps : List Str) (sc : Scope) : Bool := (match sc.kind with | .function => true | _ => false) && !sc.isCoroutine && !sc.isGenerator && decide N.Nodup && decide (N.take ps.length = ps) &&
  (ps.all fun x => match sc.names.lookup x with | some .local => true | some .cell => true | _ => false) && (sc.names.all fun y => match y.2 with | .free => false | _ => true)
theorem scOk_ok {N ps : List Str} {sc : Scope} (h : scOk N ps sc = true) : FnScope N ps sc := by
  unfold scOk at h
  simp only [Bool.and_eq_true, decide_eq_true_eq, List.all_eq_true] at h
  obtain ⟨⟨⟨⟨⟨⟨h1, h2⟩, h3⟩, h4⟩, h5⟩, h6⟩, h7⟩ := h
  refine ⟨?_, nn h2, nn h3, h4, h5, fun x hx => ?_, fun y hy e => ?_⟩
  · split at h1
    · assumption
    · cases h1
  · have q := h6 x hx
    split at q
    · exact .inl (by assumption)
    · exact .inr (by assumption)
    · cases q
  · have q := h7 y hy
    rw [e] at q
    cases q
def endOk (io : List Nat) : Option (List M) → Bool
  | none => true
  | some T => io.all fun i => decide (T[i]? = some .top)
/-- the code is what the text comes to -/
def codeOk (t : Txt) (n : Nat) (d : FDef) (To : Option (List M)) : Prop := cSs (d.ctx t) n (T0 d.sig d.N) (defBody d.st) = some (d.code, To)
def immR : RM → Bool
  | .imm => true
  | _ => false
def FDef.fn (d : FDef) : Fn := ⟨d.sig.np, d.N.length, d.sig.io, (immR d.sig.res), d.code⟩
def sideOk (d : FDef) (To : Option (List M)) : Bool := scOk d.N d.ps (defScope d.st) && decide (d.ps.length = d.sig.np) && decide (d.sig.np ≤ d.N.length) && decide d.sig.io.Nodup && (d.sig.io.all fun i => decide (i < d.sig.np)) && (d.sig.io.all fun i => !(asSs d.code).contains i) && endOk d.sig.io To
theorem retD_ok {b : Bool} {d : D} {ios : List D} (h : retD b d (some ios) ≠ .err) : retD b d (some ios) = .ok d ios ∧ (b = true → d.imm = true) := by
  have e : retD b d (some ios) = if (b && !d.imm) = true then .err else .ok d ios := rfl
  rw [e] at h ⊢
  by_cases q : (b && !d.imm) = true
  · rw [if_pos q] at h; exact absurd rfl h
  · rw [if_neg q]
    refine ⟨rfl, fun hb => ?_⟩
    rw [hb] at q
    simpa using q
theorem rv_conv {P : GP} {rm : RM} {d : D} {v : V} {F : List Addr} {A : Ft} {env env2 : Env} {σ σ2 : L2.St} {H : Hp} {Z : AS} (h : RV P (rtR rm) d v F A env σ H Z) (hr : immR rm = true → d.imm = true) : RV P (rmR rm) d v F A env2 σ2 H Z := by
  cases rm with
  | sh => exact h
  | top => exact h
  | imm => exact ⟨h.1, hr rfl, h.2⟩
theorem fn_step {prog : Program} {w : World} {K : PySem.W.Frag} {mg : Str → Option Value} {base : Heap} {P : GP} {Γ : Gam} {k n : Nat} {d : FDef} {t : Txt} {To : Option (List M)} {f : Addr} {fd : FuncData} (hK : P.K = K)
    (F : FunD K d.x d.x (defArgs d.st) (defBody d.st) (defScope d.st) [] [] f fd) (hc : codeOk t n d To) (hs : sideOk d To = true)
    (con : ∀ x d, t.G.lookup x = some (.con d) → ∃ u v, mg x = some u ∧ RelV v u ∧ Rep P (fun _ => none) (fun _ => True) d v) (bn : ∀ x, x ∈ t.bn → mg x = none)
    (fn : ∀ x f s, t.G.lookup x = some (.fn f) → t.sig f = some s → ∃ a fd ps, mg x = some (.ref a) ∧ PySem.W.keepIn K (.ref a) = true ∧ FnOk prog w K mg base (L2.CX prog w) k a fd ps (spOf P s (Γ.call f)) ∧ Binds K fd ps []) :
    FnOk prog w K mg base (L2.CX prog w) (k + 1) f fd d.ps (spOf P d.sig (runF Γ d.fn)) := by
  unfold sideOk at hs
  simp only [Bool.and_eq_true, decide_eq_true_eq] at hs
  obtain ⟨⟨⟨⟨⟨⟨s1, s2⟩, s3⟩, s4⟩, s5⟩, s6⟩, s7⟩ := hs
  have S := scOk_ok s1
  have hio : ∀ i ∈ d.sig.io, i < d.sig.np := fun i hi => of_decide_eq_true (List.all_eq_true.mp s5 i hi)
  have has : ∀ i ∈ d.sig.io, i ∉ asSs d.code := fun i hi q => by
    have := List.all_eq_true.mp s6 i hi
    simp [q] at this
  refine F.ok S (fun vs H Q E h => ?_) (fun cdv A outer s H vs Q E hr h => ?_)
  · obtain ⟨_, _, _, h1, _⟩ := h
    rw [h1, s2]
  generalize hX : cxOf (L2.CX prog w) prog w K mg base d.N d.x (defScope d.st) f cdv A outer s H E = X
  have tk : Takes X (fun cls dd _ H => E cls dd H) := by
    subst hX
    exact takes_of rfl rfl rfl rfl
  have G : GoodS (d.ctx t) P X (fun _ => E) Γ k := by
    refine ⟨?_, ?_, ?_, tk, ?_⟩
    · refine ⟨by subst hX; rfl, by subst hX; rfl, by subst hX; exact S.nd, by subst hX; rfl, by subst hX; exact hK.symm, by subst hX; exact hr, fun x d h => ?_, fun x hx => ?_, fun x f s h1 h2 => ?_, fun σ => ?_⟩
      · subst hX; exact con x d h
      · subst hX; exact bn x hx
      · subst hX; exact fn x f s h1 h2
      · exact passAt tk σ
    · intro x hx
      have hx : stF d.N (defScope d.st) d.sig.io x = true := hx
      unfold stF at hx
      rw [Bool.and_eq_true] at hx
      have h1 := hx.1
      split at h1
      · subst hX; exact ⟨.inl (by assumption), .inl rfl⟩
      · subst hX; exact ⟨.inr (by assumption), .inl rfl⟩
      · cases h1
    · subst hX
      exact passes_of rfl
    · subst hX; exact S.kind
  obtain ⟨ds, Z, A0, h1, h2, sr, hA, hne, hok, hex⟩ := h
  have hrun : runF Γ d.fn ds = endF d.fn (exSs Γ d.code (ds.map some ++ List.replicate (d.N.length - d.sig.np) none)) := by
    show (if ds.length = d.sig.np then _ else _) = _
    rw [if_pos h2]
    rfl
  rw [hrun] at hne hok hex
  have sr0 : SR P (T0 d.sig d.N) A0 (ds.map some ++ List.replicate (d.N.length - d.sig.np) none) (L2.start d.N vs) H Z := by
    have := SR.ext (n := d.N.length - d.sig.np) sr
    unfold L2.start
    rw [h1]
    exact this
  have he0 : (ds.map some ++ List.replicate (d.N.length - d.sig.np) none : Env).length = d.N.length := by
    rw [List.length_append, List.length_map, List.length_replicate, h2]
    omega
  have vsσ : ∀ {σ' : L2.St}, Sg (asSs d.code) (L2.start d.N vs) σ' → ∀ i ∈ d.sig.io, σ'[i]? = (vs.map some)[i]? := fun {σ'} g i hi => by
    rw [g.same i (has i hi)]
    unfold L2.start
    rw [List.getElem?_append_left (by rw [List.length_map, h1]; exact hio i hi)]
  generalize hev : exSs Γ d.code (ds.map some ++ List.replicate (d.N.length - d.sig.np) none) = o at *
  have hoe : o ≠ .err := fun e => by rw [e] at hne; exact hne rfl
  refine ⟨_, pssW, ?_⟩
  have hb := (sndS P Γ k n).ss G _ _ _ _ hc A0 _ _ H Z { nx := fun _ H' => Q .non H', rt := Q } sr0 (by rw [hev]; exact hoe)
  rw [hev] at hb
  have hA2 : ∀ {A' : Ft}, (∀ j a, a ∈ A' j → a ∈ A0 j ∨ H a = none) → True := fun _ => trivial
  refine hb (fun env' e T' et σ' H' A' s' t' g' => ?_) (fun r env' e v σ' H' A' F hF s' t' g' rv => ?_) (fun x env' e cls dd σ' H' A' s' t' g' xr => ?_)
  · subst e
    have e2 : endF d.fn (.nx env') = retD (immR d.sig.res) .non (iosD env' d.sig.io) := rfl
    rw [e2] at hne hok
    cases hi : iosD env' d.sig.io with
    | none => rw [hi] at hne; exact absurd rfl hne
    | some ios =>
      have e3 : retD (immR d.sig.res) .non (iosD env' d.sig.io) = .ok .non ios := by
        rw [hi]
        unfold retD
        simp [D.imm]
      have hT : ∀ j ∈ d.sig.io, T'[j]? = some .top := fun j hj => by
        rw [et] at s7
        exact of_decide_eq_true (List.all_eq_true.mp s7 j hj)
      have hz : ∀ a, Zf Z [] a → Z a := fun a z => z.elim id fun q => absurd q (by simp)
      have s2' := s'.io (Z' := Zf Z []) hT (fun a z => z.elim (fun z => .inl (hz a z)) fun ⟨j, q⟩ => .inr ⟨j, (ioF_sub q).1⟩) (fun j _ a ha z => s'.zA j a ha (hz a z)) (fun a z => s'.zc a (hz a z))
      have s3' := s2'.back2 hi s4 hio h1 (vsσ g')
      refine hok .non ios (by rw [e3]) .non H' _ [] ⟨fun a u e n => t'.keep a u e fun j _ => n j, t'.thr, fun j a h => t'.foot j a (ioF_sub h).1, s3', none1, iosD_len hi⟩ ?_
      cases d.sig.res with
      | imm => exact ⟨rfl, rfl, rfl⟩
      | sh => exact ⟨rfl, rfl⟩
      | top => exact ⟨rfl, rfl⟩
  · subst e
    have e2 : endF d.fn (.rt r env') = retD (immR d.sig.res) r (iosD env' d.sig.io) := rfl
    rw [e2] at hne hok
    cases hi : iosD env' d.sig.io with
    | none => rw [hi] at hne; exact absurd rfl hne
    | some ios =>
      rw [hi] at hne
      obtain ⟨e3, e4⟩ := retD_ok hne
      have s3' := s'.back2 hi s4 hio h1 (vsσ g')
      refine hok r ios (by rw [hi]; exact e3) v H' A' F ⟨fun a u e n => t'.keep a u e fun j _ => n j, t'.thr, t'.foot, s3', fun a ha => ?_, iosD_len hi⟩ (rv_conv rv e4)
      rcases hF a ha with q | ⟨j, hj, q⟩
      · exact q
      · rw [hA j hj] at q
        exact absurd q (by simp)
  · subst e
    have e2 : endF d.fn (.exn x env') = exnD x (iosD env' d.sig.io) := rfl
    rw [e2] at hne hex
    cases hi : iosD env' d.sig.io with
    | none => rw [hi] at hne; exact absurd rfl hne
    | some ios =>
      have hz : ∀ a, Zf Z [] a → Z a := fun a z => z.elim id fun q => absurd q (by simp)
      have hlen : env'.length = d.N.length := t'.len.trans he0
      have s2' := s'.io (io := d.sig.io) (Z' := Zf Z []) (fun j hj => by
        show (rtT d.sig.io d.N.length)[j]? = _
        rw [rtT_get (by have := hio j hj; omega), if_pos (by simpa using hj)]) (fun a z => z.elim (fun z => .inl (hz a z)) fun ⟨j, q⟩ => .inr ⟨j, (ioF_sub q).1⟩) (fun j _ a ha z => s'.zA j a ha (hz a z)) (fun a z => s'.zc a (hz a z))
      have s3' := s2'.back2 hi s4 hio h1 (vsσ g')
      refine hex x ios (by rw [hi]; rfl) cls dd H' _ ⟨fun a u e n => t'.keep a u e fun j _ => n j, t'.thr, fun j a h => t'.foot j a (ioF_sub h).1, s3', none1, iosD_len hi⟩ (xr.less fun a z => z.imp id fun ⟨j, q⟩ => ⟨j, (ioF_sub q).1⟩)
end Fc
end

section
/-! From the head to the law. -/
namespace Fc
open PySem L2 PySem.Spec
open PyProof.Rows hiding St
/-! ### constants of the module -/
mutual
def conV (K : PySem.W.Frag) : D → Value → Bool
  | .int i, .int j _ => decide (i = j)
  | .str i, .str j _ => decide (i = j)
  | .bl b, .bool c => b == c
  | .non, .none => true
  | .tup ds, .ref a => match K.lookup a with
    | some ⟨.type c, _, .seq its _, _⟩ => decide (c = "tuple") && (decide (its.size ≤ sizeLine) && conVs K ds its.toList)
    | _ => false
  | .lst ds, .ref a => match K.lookup a with
    | some ⟨.type c, none, .seq its _, _⟩ => decide (c = "list") && (decide (its.size ≤ sizeLine) && conVs K ds its.toList)
    | _ => false
  | _, _ => false
def conVs (K : PySem.W.Frag) : List D → List Value → Bool
  | [], [] => true
  | d :: ds, u :: us => conV K d u && conVs K ds us
  | _, _ => false
end
abbrev CRep (P : GP) (d : D) (u : Value) : Prop := ∃ v, L2.RelV v u ∧ Rep P (fun _ => none) (fun _ => True) d v
abbrev CReps (P : GP) (ds : List D) (us : List Value) : Prop := ∃ vs, L2.Vals vs us ∧ Reps P (fun _ => none) (fun _ => True) ds vs
section
variable {P : GP}
mutual
theorem conV_ok : ∀ (d : D) (u : Value), conV P.K d u = true → CRep P d u
  | .int i, u, h => by
    cases u with
    | int j t =>
      obtain rfl : i = j := of_decide_eq_true h
      exact ⟨.int i, ⟨t, rfl⟩, rfl⟩
    | _ => exact Bool.noConfusion h
  | .str i, u, h => by
    cases u with
    | str j t =>
      obtain rfl : i = j := of_decide_eq_true h
      exact ⟨.str i, ⟨t, rfl⟩, rfl⟩
    | _ => exact Bool.noConfusion h
  | .bl b, u, h => by
    cases u with
    | bool c =>
      obtain rfl : b = c := eq_of_beq h
      exact ⟨.bl b, rfl, rfl⟩
    | _ => exact Bool.noConfusion h
  | .non, u, h => by
    cases u with
    | none => exact ⟨.non, rfl, rfl⟩
    | _ => exact Bool.noConfusion h
  | .tup ds, u, h => by
    cases u with
    | ref a =>
      have h : (match P.K.lookup a with
        | some ⟨.type c, _, .seq its _, _⟩ => decide (c = "tuple") && (decide (its.size ≤ sizeLine) && conVs P.K ds its.toList)
        | _ => false) = true := h
      split at h
      · rename_i c od its n osl q
        simp only [Bool.and_eq_true, decide_eq_true_eq] at h
        obtain ⟨h1, h2, h3⟩ := h
        obtain ⟨vs, r1, r2⟩ := conVs_ok ds its.toList h3
        exact ⟨.ref a, rfl, a, vs, rfl, .inr ⟨_, its, n, q, by rw [h1], rfl, h2, r1⟩, r2⟩
      · cases h
    | _ => exact Bool.noConfusion h
  | .lst ds, u, h => by
    cases u with
    | ref a =>
      have h : (match P.K.lookup a with
        | some ⟨.type c, none, .seq its _, _⟩ => decide (c = "list") && (decide (its.size ≤ sizeLine) && conVs P.K ds its.toList)
        | _ => false) = true := h
      split at h
      · rename_i c its n osl q
        simp only [Bool.and_eq_true, decide_eq_true_eq] at h
        obtain ⟨h1, h2, h3⟩ := h
        obtain ⟨vs, r1, r2⟩ := conVs_ok ds its.toList h3
        exact ⟨.ref a, rfl, a, vs, rfl, .inr ⟨_, its, n, q, by rw [h1], rfl, rfl, h2, r1⟩, r2⟩
      · cases h
    | _ => exact Bool.noConfusion h
  | .dic _ _, u, h => by cases u <;> exact Bool.noConfusion h
  | .exc _ _ _, u, h => by cases u <;> exact Bool.noConfusion h
  | .obj _ _ _, u, h => by cases u <;> exact Bool.noConfusion h
theorem conVs_ok : ∀ (ds : List D) (us : List Value), conVs P.K ds us = true → CReps P ds us
  | [], [], _ => ⟨[], .nil, rfl⟩
  | [], _ :: _, h => Bool.noConfusion h
  | _ :: _, [], h => Bool.noConfusion h
  | d :: ds, u :: us, h => by
    have h : (conV P.K d u && conVs P.K ds us) = true := h
    rw [Bool.and_eq_true] at h
    obtain ⟨v, a1, a2⟩ := conV_ok d u h.1
    obtain ⟨vs, b1, b2⟩ := conVs_ok ds us h.2
    exact ⟨v :: vs, .cons a1 b1, v, vs, rfl, a2, b2⟩
end
end
def conB (K : PySem.W.Frag) (c : Str × D) : Bool := match PySem.W.nsIn K mainGlobals c.1 with
  | some (some u) => conV K c.2 u
  | _ => false
/-! ### a text of defs -/
abbrev Tab := List (Nat × FDef)
theorem lookup_of_mem : ∀ {fs : Tab} {i : Nat} {d : FDef}, (fs.map (·.1)).Nodup → (i, d) ∈ fs → fs.lookup i = some d
  | (j, e) :: fs, i, d, hn, h => by
    rw [List.map_cons, List.nodup_cons] at hn
    rcases List.mem_cons.mp h with h' | h'
    · cases h'
      simp [List.lookup]
    · have hne : i ≠ j := fun z => hn.1 (List.mem_map.mpr ⟨(i, d), h', z⟩)
      have : (i == j) = false := by simpa using hne
      show (match i == j with | true => some e | false => fs.lookup i) = _
      rw [this]
      exact lookup_of_mem hn.2 h'
theorem mem_of_lookupF : ∀ {fs : Tab} {i : Nat} {d : FDef}, fs.lookup i = some d → (i, d) ∈ fs
  | [], i, d, h => by cases h
  | (j, e) :: fs, i, d, h => by
    have h : (match i == j with | true => some e | false => fs.lookup i) = some d := h
    split at h
    · rename_i q
      cases h
      have : i = j := by simpa using q
      subst this
      exact List.mem_cons_self
    · exact List.mem_cons_of_mem _ (mem_of_lookupF h)
def txt (fs : Tab) (cs : List (Str × D)) (bn : List Str) : Txt := { G := (fs.map fun p => (p.2.x, GK.fn p.1)) ++ cs.map fun c => (c.1, GK.con c.2), bn := bn, sig := fun i => (fs.lookup i).map (·.sig), ck := fun _ => none }
theorem txt_fn {fs : Tab} {cs : List (Str × D)} {bn : List Str} {x : Str} {f : Nat} (hn : (fs.map (·.1)).Nodup) (h : (txt fs cs bn).G.lookup x = some (.fn f)) : ∃ d, fs.lookup f = some d ∧ d.x = x := by
  have := PySem.mem_of_lookup h
  rcases List.mem_append.mp this with q | q
  · obtain ⟨⟨i, d⟩, h1, h2⟩ := List.mem_map.mp q
    cases h2
    exact ⟨d, lookup_of_mem hn h1, rfl⟩
  · obtain ⟨c, _, h2⟩ := List.mem_map.mp q
    cases h2
theorem txt_con {fs : Tab} {cs : List (Str × D)} {bn : List Str} {x : Str} {d : D} (h : (txt fs cs bn).G.lookup x = some (.con d)) : (x, d) ∈ cs := by
  have := PySem.mem_of_lookup h
  rcases List.mem_append.mp this with q | q
  · obtain ⟨p, _, h2⟩ := List.mem_map.mp q
    cases h2
  · obtain ⟨c, h1, h2⟩ := List.mem_map.mp q
    cases h2
    exact h1
def callF (fs : Tab) (sup : Nat → Nat → Bool) (fuel : Nat) : Nat → Nat → List D → FRes := callN (fun i => (fs.lookup i).map FDef.fn) sup fuel
/-- a def without defaults, called with all it wants -/
def BindP (d : FDef) : Prop := ∀ (kV doc pm : Value) (an : Option Addr) (cdv ct : Value) (us : List Value), us.length = d.ps.length → bindArgs (PySem.W.fnOf d.x d.x (defArgs d.st) (defBody d.st) (defScope d.st) .none kV doc pm an cdv ct) ⟨us, []⟩ = pure (d.ps.zip us)
/-- a def's code is what its text comes to -/
def CodeP (fs : Tab) (cs : List (Str × D)) (bn : List Str) (nf : Nat) (d : FDef) : Prop := ∃ To, codeOk (txt fs cs bn) nf d To ∧ sideOk d To = true
theorem codeP {fs : Tab} {cs : List (Str × D)} {bn : List Str} {nf : Nat} {d : FDef} (To : Option (List M)) (h : cSs (d.ctx (txt fs cs bn)) nf (T0 d.sig d.N) (defBody d.st) = some (d.code, To)) (h2 : sideOk d To = true) : CodeP fs cs bn nf d := ⟨To, h, h2⟩
def AllP (p : FDef → Prop) : List FDef → Prop
  | [] => True
  | d :: ds => p d ∧ AllP p ds
theorem allP1 {p : FDef → Prop} : ∀ {ds : List FDef}, AllP p ds → ∀ d ∈ ds, p d
  | [], _, d, h => by simp at h
  | e :: es, a, d, h => by
    rcases List.mem_cons.mp h with rfl | h
    · exact a.1
    · exact allP1 a.2 d h
theorem allP {p : FDef → Prop} {fs : Tab} (a : AllP p (fs.map (·.2))) (i : Nat) (d : FDef) (h : fs.lookup i = some d) : p d := allP1 a d (List.mem_map.mpr ⟨(i, d), mem_of_lookupF h, rfl⟩)
/-- what is known of the written part -/
structure Facts (fs : Tab) (cs : List (Str × D)) (bn : List Str) (K : PySem.W.Frag) (mg : Str → Option Value) : Prop where
  glo : ∀ (i : Nat) (d : FDef), fs.lookup i = some d → mg d.x = some (.ref (He.ga K d.x))
  fn : ∀ (i : Nat) (d : FDef), fs.lookup i = some d → ∃ fd, FunD K d.x d.x (defArgs d.st) (defBody d.st) (defScope d.st) [] [] (He.ga K d.x) fd
  con : ∀ x d, (x, d) ∈ cs → ∃ u, mg x = some u ∧ conV K d u = true
  bn : ∀ x, x ∈ bn → mg x = none
theorem fn_all {prog : Program} {w : World} {K : PySem.W.Frag} {mg : Str → Option Value} {base : Heap} {fs : Tab} {cs : List (Str × D)} {bn : List Str} {sup : Nat → Nat → Bool} {fuel nf : Nat} (ca : Nat → Addr) (hn : (fs.map (·.1)).Nodup) (F : Facts fs cs bn K mg)
    (hc : ∀ (i : Nat) (d : FDef), fs.lookup i = some d → CodeP fs cs bn nf d) (hb : ∀ (i : Nat) (d : FDef), fs.lookup i = some d → BindP d) :
    ∀ (n i : Nat) (d : FDef) (fd : FuncData), fs.lookup i = some d → FunD K d.x d.x (defArgs d.st) (defBody d.st) (defScope d.st) [] [] (He.ga K d.x) fd →
      FnOk prog w K mg base (L2.CX prog w) n (He.ga K d.x) fd d.ps (spOf ⟨K, ca⟩ d.sig (callF fs sup fuel n i))
  | 0, i, d, fd, hd, _ => by
    have bad : ∀ {vs : List V} {H : Hp} {Q : VK} {E : XK}, spOf ⟨K, ca⟩ d.sig (callF fs sup fuel 0 i) vs H Q E → False := fun h => by
      obtain ⟨_, _, _, _, _, _, _, h, _⟩ := h
      exact h rfl
    exact ⟨fun _ _ _ _ h => (bad h).elim, fun _ _ _ _ _ _ _ _ _ _ _ _ _ h => (bad h).elim⟩
  | n + 1, i, d, fd, hd, hf => by
    obtain ⟨To, h1, h2⟩ := hc i d hd
    have e : callF fs sup fuel (n + 1) i = runF ⟨callF fs sup fuel n, sup, fuel⟩ d.fn := by
      funext ds
      show (match (fs.lookup i).map FDef.fn with | some fn => _ | none => _) = _
      rw [hd]
      rfl
    rw [e]
    refine fn_step (t := txt fs cs bn) (n := nf) rfl hf h1 h2 (fun x d' h => ?_) F.bn (fun x f s h1 h2 => ?_)
    · obtain ⟨u, g1, g2⟩ := F.con x d' (txt_con h)
      obtain ⟨v, r1, r2⟩ := conV_ok (P := ⟨K, ca⟩) d' u g2
      exact ⟨u, v, g1, r1, r2⟩
    · obtain ⟨d', q1, q2⟩ := txt_fn hn h1
      have q3 : (fs.lookup f).map (·.sig) = some s := h2
      rw [q1] at q3
      cases q3
      subst q2
      obtain ⟨fd', hf'⟩ := F.fn f d' q1
      refine ⟨_, fd', d'.ps, F.glo f d' q1, hf'.kp, fn_all ca hn F hc hb n f d' fd' q1 hf', ?_⟩
      exact FunD.bindsN hf' (hb f d' q1)
/-! ### what the head is asked -/
def chkF (fs : Tab) (cs : List (Str × D)) (bn : List Str) (K : PySem.W.Frag) : Bool := (bn.all fun x => (He.Fa.free x).ok K) && ((fs.all fun p => (He.Fa.glo p.2.x).ok K) && cs.all (conB K))
def ddF (d : FDef) : He.DefD := ⟨(d.x, none), d.x, d.x, defArgs d.st, defBody d.st, defScope d.st, [], []⟩
def obsF (chk : PySem.W.Frag → Bool) (fn : List He.DefD) (K : PySem.W.Frag) : He.AlD := (chk K && fn.all fun d => d.ok K, fn.map fun d => He.fnW K d.at_)
def obsFG (n : Nat) (chk : PySem.W.Frag → Bool) (fn : List He.DefD) (g : Addr → Option Obj) : He.AlD := obsF chk fn (He.frG g (He.asD g n))
def hookF (n : Nat) (chk : PySem.W.Frag → Bool) (fn : List He.DefD) : PySem.W.Hook where
  α := He.AlD
  obs := fun s => obsFG n chk fn s.heap.get?
  val := fun _ => He.valD fn
  says := fun _ h => ∃ K : PySem.W.Frag, K.In h ∧ obsF chk fn K = He.valD fn
  of := fun _ _ e => ⟨_, He.frG_in, e⟩
  keeps := fun _ _ _ ⟨K, hK, c⟩ k => ⟨K, PySem.W.Frag.In.keeps hK k, c⟩
theorem obsFG_eq {n : Nat} {chk : PySem.W.Frag → Bool} {fn : List He.DefD} {g : Addr → Option Obj} {s : Shared} (h : ∀ a, g a = s.heap.get? a) : obsFG n chk fn g = (hookF n chk fn).obs s := by
  have e : g = s.heap.get? := funext h
  rw [e] <;> rfl
theorem facts_of {fs : Tab} {cs : List (Str × D)} {bn : List Str} {K : PySem.W.Frag} {h : Heap} {mg : Str → Option Value} (X : K.In h) (G : h.Ns mainGlobals mg) (c : obsF (chkF fs cs bn) ((fs.map (·.2)).map ddF) K = He.valD ((fs.map (·.2)).map ddF)) : Facts fs cs bn K mg := by
  have c1 : (chkF fs cs bn K && ((fs.map (·.2)).map ddF).all fun d => d.ok K) = true := congrArg (fun z : He.AlD => z.1) c
  have c2 : ((fs.map (·.2)).map ddF).map (fun d => He.fnW K d.at_) = ((fs.map (·.2)).map ddF).map He.DefD.val := congrArg (fun z : He.AlD => z.2) c
  unfold chkF at c1
  simp only [Bool.and_eq_true, List.all_eq_true] at c1
  obtain ⟨⟨b1, b2, b3⟩, b4⟩ := c1
  refine ⟨fun i d hd => He.glo_ok X G (b2 (i, d) (mem_of_lookupF hd)), fun i d hd => ?_, fun x d hm => ?_, fun x hx => He.free_ok X G (b1 x hx)⟩
  · have hm : ddF d ∈ (fs.map (·.2)).map ddF := List.mem_map.mpr ⟨d, List.mem_map.mpr ⟨(i, d), mem_of_lookupF hd, rfl⟩, rfl⟩
    obtain ⟨fd, q⟩ := He.DefD.funD (d := ddF d) (List.map_inj_left.mp c2 (ddF d) hm) (b4 _ hm)
    exact ⟨fd, q⟩
  · have q := b3 _ hm
    unfold conB at q
    split at q
    · rename_i u e
      exact ⟨u, PySem.W.mg_of X G e, q⟩
    · cases q
/-- the script as data -/
theorem script_rep {P : GP} {H : Hp} {a : Addr} {ns : List Int} (h : SqL P.K H a (ns.map V.int)) : SR P [.sh] (fun _ => []) [some (.lst (ns.map .int))] [some (.ref a)] H (fun _ => False) where
  ls := rfl
  lt := rfl
  val := fun i m d h1 h2 => by
    cases i with
    | zero =>
      cases h1
      cases h2
      refine ⟨.ref a, rfl, Own.sh ⟨a, ns.map V.int, rfl, h.imp (fun q => ⟨q, fun z => z.elim (fun z => z) fun ⟨_, q⟩ => absurd q (by simp)⟩) id, ?_⟩⟩
      have : ∀ ns : List Int, Reps P H (W (fun _ => False) fun _ => []) (ns.map .int) (ns.map V.int) := fun ns => by
        induction ns with
        | nil => exact rfl
        | cons n ns ih => exact ⟨_, _, rfl, rfl, ih⟩
      exact this ns
    | succ i => cases h1
  emp := fun _ _ => rfl
  dj := fun _ _ _ _ h => absurd h (by simp)
  zA := fun _ _ h => absurd h (by simp)
  zc := fun _ z => z.elim
/-- the law's end -/
theorem law_end {l : PySem.W.OpenLaw} {q : Program} {loose : List Str} {XP : (Str → Option Value) → Heap → Prop} {d : DefRec} {fs : Tab} {cs : List (Str × D)} {bn : List Str} {sup : Nat → Nat → Bool} {fuel nf nh N iL n : Nat} {dL : FDef} {x : Str} (hnd : (fs.map (·.1)).Nodup)
    (hn : l.most = some n) (hn2 : n ≤ sizeLine) (hdf : d.params.defaults = []) (hr : Room N callerA) (hL : fs.lookup iL = some dL) (hx : dL.x = d.name) (hps : dL.ps = [x]) (hsg : dL.sig.np = 1) (hio : dL.sig.io = [])
    (hc : ∀ (i : Nat) (d : FDef), fs.lookup i = some d → CodeP fs cs bn nf d) (hb : ∀ (i : Nat) (d : FDef), fs.lookup i = some d → BindP d)
    (law : ∀ ns : List Int, ns.length ≤ n → callF fs sup fuel N iL [.lst (ns.map .int)] = .ok (.bl true) []) :
    PySem.W.WalkO q loose XP (hookF nh (chkF fs cs bn) ((fs.map (·.2)).map ddF)).says l.row.toRowW d [] (fun f vs => PySem.call f vs) := by
  refine Att.attach_call hn hdf fun w s₀ s₁ mg mb fa o pm cd doc a vs ns G Y ho hd hcd hmg hobj hints hlen hg => ?_
  obtain ⟨K, KX, c⟩ := Y
  have F := facts_of KX G.T.g c
  obtain ⟨fd, hf⟩ := F.fn iL dL hL
  have e := hmg.symm.trans ((congrArg mg hx).symm.trans (F.glo iL dL hL))
  cases e
  have b : ∀ (s : Shared) (u : Value), BindsTo s fd ⟨[u], []⟩ [(x, u)] := fun s u => by
    have q := FunD.bindsA (ps := dL.ps) hf (hb iL dL hL) s [u] (by rw [hps]; rfl)
    rw [hps] at q
    exact q
  have inT1 : inT dL.sig = [.sh] := by
    unfold inT
    rw [hsg, hio]
    rfl
  refine law_call KX G.T.g G.T.b G.T.builtins G.T.nolimit hg hobj hints (Nat.le_trans hlen hn2) hr (CX := L2.CX l.prog w) (sp := spOf ⟨K, fun _ => 0⟩ dL.sig (callF fs sup fuel N iL)) (fun base _ _ => ?_) b (fun H hO hS => ?_) (fun H e s' z => ?_)
  · rw [← hps]
    exact fn_all (fun _ => 0) hnd F hc hb N iL dL fd hL hf
  · have hlaw := law ns hlen
    refine ⟨[.lst (ns.map .int)], fun _ => False, fun _ => [], by rw [hsg]; rfl, by rw [hsg]; rfl, by rw [inT1]; exact script_rep hS, fun _ _ => rfl, (by rw [hlaw]; exact fun z => by cases z), fun r ios e v H' A' G bk rv => ?_, fun x ios e => ?_⟩
    · rw [hlaw] at e
      cases e
      cases hres : dL.sig.res with
      | imm => rw [hres] at rv; exact rv.2.2
      | sh => rw [hres] at rv; exact rv.2
      | top => rw [hres] at rv; exact (show Own _ _ _ .top (.bl true) v G from rv).2
    · rw [hlaw] at e
      cases e
  · obtain ⟨_, _, _, _, _, _, _, _, _, _, _, _, h⟩ := z
    exact h
end Fc
end

section
/-! Stepping through plain terms. -/
namespace Fc
open PySem L2
section
variable {Γ : Gam} {env env1 env2 env3 : Env}
theorem whl_true {test : Env → Out Bool} {turn : Env → SO} {n : Nat} (h : test env = .ok true env1) (h2 : turn env1 = .nx env2) : whlL test turn (n + 1) env = whlL test turn n env2 := by
  show SO.after (test env) _ = _
  rw [h]
  show (turn env1).seq _ = _
  rw [h2]
  rfl
theorem whl_false {test : Env → Out Bool} {turn : Env → SO} {n : Nat} (h : test env = .ok false env1) : whlL test turn (n + 1) env = .nx env1 := by
  show SO.after (test env) _ = _
  rw [h]
  rfl
theorem for_nil {turn : D → Env → SO} : forL turn [] env = .nx env := rfl
theorem for_cons {turn : D → Env → SO} {d : D} {ds : List D} (h : turn d env = .nx env1) : forL turn (d :: ds) env = forL turn ds env1 := by
  show (turn d env).seq _ = _
  rw [h]
  rfl
theorem for_rt {turn : D → Env → SO} {d r : D} {ds : List D} (h : turn d env = .rt r env1) : forL turn (d :: ds) env = .rt r env1 := by
  show (turn d env).seq _ = _
  rw [h]
  rfl
theorem st_nx {s : S} {ss : List S} (h : exS Γ s env = .nx env1) : exSs Γ (s :: ss) env = exSs Γ ss env1 := by
  show (exS Γ s env).seq _ = _
  rw [h]
  rfl
theorem st_rt {s : S} {ss : List S} {d : D} (h : exS Γ s env = .rt d env1) : exSs Γ (s :: ss) env = .rt d env1 := by
  show (exS Γ s env).seq _ = _
  rw [h]
  rfl
theorem st_exn {s : S} {ss : List S} {d : D} (h : exS Γ s env = .exn d env1) : exSs Γ (s :: ss) env = .exn d env1 := by
  show (exS Γ s env).seq _ = _
  rw [h]
  rfl
/-- a for's turn -/
def turnF (Γ : Gam) (tg : Tg) (b : List S) : D → Env → SO := fun d env' => (SO.of (asgT tg d env')).seq (exSs Γ b)
theorem loop_eq {tg : Tg} {k : Ik} {src : List E} {b : List S} {ds xs : List D} (hs : evEs Γ src env = .ok ds env1) (hx : itemsD k ds = some xs) : exS Γ (.loop tg k src b) env = forL (turnF Γ tg b) xs env1 := by
  show SO.after (evEs Γ src env) _ = _
  rw [hs]
  show oK (itemsD k ds) _ = _
  rw [hx]
  rfl
theorem turn_eq {tg : Tg} {b : List S} {d : D} (h : asgT tg d env = some env1) : turnF Γ tg b d env = exSs Γ b env1 := by
  show (SO.of (asgT tg d env)).seq _ = _
  rw [h]
  rfl
theorem whl_eq {c : Fc.T} {b : List S} : exS Γ (.whl c b) env = whlL (evT Γ c) (exSs Γ b) Γ.fuel env := rfl
theorem asg_eq {t : Tg} {e : E} {d : D} (h : evE Γ e env = .ok d env1) : exS Γ (.asg t e) env = SO.of (asgT t d env1) := by
  show SO.after (evE Γ e env) _ = _
  rw [h]
  rfl
theorem asgn {i : Nat} {e : E} {d : D} (h : evE Γ e env = .ok d env1) (h2 : env1.set i (some d) = env2) : exS Γ (.asg (.nm i) e) env = .nx env2 := by
  rw [asg_eq h, ← h2]
  rfl
theorem ex_eq {e : E} {d : D} (h : evE Γ e env = .ok d env1) : exS Γ (.ex e) env = .nx env1 := by
  show SO.after (evE Γ e env) _ = _
  rw [h]
  rfl
theorem ret_eq {e : E} {d : D} (h : evE Γ e env = .ok d env1) : exS Γ (.ret e) env = .rt d env1 := by
  show SO.after (evE Γ e env) _ = _
  rw [h]
  rfl
theorem ife_t {c : Fc.T} {a b : List S} (h : evT Γ c env = .ok true env1) : exS Γ (.ife c a b) env = exSs Γ a env1 := by
  show SO.after (evT Γ c env) _ = _
  rw [h]
  rfl
theorem ife_f {c : Fc.T} {a b : List S} (h : evT Γ c env = .ok false env1) : exS Γ (.ife c a b) env = exSs Γ b env1 := by
  show SO.after (evT Γ c env) _ = _
  rw [h]
  rfl
theorem par2_eq {i j : Nat} {es : List E} {d d' : D} (h : evEs Γ es env = .ok [d, d'] env1) : exS Γ (.par [i, j] es) env = .nx ((env1.set i (some d)).set j (some d')) := by
  show SO.after (evEs Γ es env) _ = _
  rw [h]
  rfl
/-- a call of a def -/
theorem call_eq {fs : Tab} {sup : Nat → Nat → Bool} {fuel n i : Nat} {d : FDef} {ds : List D} (h : fs.lookup i = some d) (hl : ds.length = d.sig.np) :
    callF fs sup fuel (n + 1) i ds = endF d.fn (exSs ⟨callF fs sup fuel n, sup, fuel⟩ d.code (ds.map some ++ List.replicate (d.N.length - d.sig.np) none)) := by
  show (match (fs.lookup i).map FDef.fn with | some fn => runF ⟨callF fs sup fuel n, sup, fuel⟩ fn ds | none => .err) = _
  rw [h]
  show (if ds.length = d.sig.np then _ else _) = _
  rw [if_pos hl]
  rfl
theorem ev_call {f : Nat} {es : List E} {ds : List D} {r : D} (h : evEs Γ es env = .ok ds env1) (h2 : Γ.call f ds = .ok r []) : evE Γ (.call f es []) env = .ok r env1 := by
  show (evEs Γ es env).bind _ = _
  rw [h]
  show callK (Γ.call f ds) [] env1 = _
  rw [h2]
  rfl
theorem ev_var {i : Nat} {d : D} (h : slotD env i = some d) : evE Γ (.var i) env = .ok d env := by
  show Out.of (slotD env i) env = _
  rw [h]
  rfl
theorem ev_bin {o : Op} {a b : E} {x y z : D} (ha : evE Γ a env = .ok x env1) (hb : evE Γ b env1 = .ok y env2) (h : binD o x y = some z) : evE Γ (.bin o a b) env = .ok z env2 := by
  show (evE Γ a env).bind _ = _
  rw [ha]
  show (evE Γ b env1).bind _ = _
  rw [hb]
  show Out.of (binD o x y) env2 = _
  rw [h]
  rfl
theorem ev_cmp {o : Cp} {a b : E} {x y : D} {z : Bool} (ha : evE Γ a env = .ok x env1) (hb : evE Γ b env1 = .ok y env2) (h : cmpD o x y = some z) : evE Γ (.cmp o a b) env = .ok (.bl z) env2 := by
  show (evE Γ a env).bind _ = _
  rw [ha]
  show (evE Γ b env1).bind _ = _
  rw [hb]
  show Out.of (blD (cmpD o x y)) env2 = _
  rw [h]
  rfl
theorem ev_idx {a b : E} {x y z : D} (ha : evE Γ a env = .ok x env1) (hb : evE Γ b env1 = .ok y env2) (h : idxD x y = some z) : evE Γ (.idx a b) env = .ok z env2 := by
  show (evE Γ a env).bind _ = _
  rw [ha]
  show (evE Γ b env1).bind _ = _
  rw [hb]
  show Out.of (idxD x y) env2 = _
  rw [h]
  rfl
theorem ev_slc {fl fh : Bool} {a lo hi : E} {x l h z : D} {l' h' : Option Int} (ha : evE Γ a env = .ok x env1) (hl : evE Γ lo env1 = .ok l env2) (hl' : partD fl l = some l') (hh : evE Γ hi env2 = .ok h env3) (hh' : partD fh h = some h') (hz : slcD x l' h' = some z) : evE Γ (.slc fl fh a lo hi) env = .ok z env3 := by
  show (evE Γ a env).bind _ = _
  rw [ha]
  show ((evE Γ lo env1).bind fun l env2 => .of (partD fl l) env2).bind _ = _
  rw [hl]
  show (Out.of (partD fl l) env2).bind _ = _
  rw [hl']
  show ((evE Γ hi env2).bind fun h env3 => .of (partD fh h) env3).bind _ = _
  rw [hh]
  show (Out.of (partD fh h) env3).bind _ = _
  rw [hh']
  show Out.of (slcD x l' h') env3 = _
  rw [hz]
  rfl
theorem es_nil : evEs Γ [] env = .ok [] env := rfl
theorem es_cons {e : E} {es : List E} {x : D} {xs : List D} (h : evE Γ e env = .ok x env1) (h2 : evEs Γ es env1 = .ok xs env2) : evEs Γ (e :: es) env = .ok (x :: xs) env2 := by
  show (evE Γ e env).bind _ = _
  rw [h]
  show (evEs Γ es env1).bind _ = _
  rw [h2]
  rfl
theorem ev_tup {es : List E} {ds : List D} (h : evEs Γ es env = .ok ds env1) (hl : lenOk ds.length = true) : evE Γ (.tup es) env = .ok (.tup ds) env1 := by
  show (evEs Γ es env).bind _ = _
  rw [h]
  show (if lenOk ds.length then _ else _) = _
  rw [if_pos hl]
theorem ev_lst {es : List E} {ds : List D} (h : evEs Γ es env = .ok ds env1) (hl : lenOk ds.length = true) : evE Γ (.lst es) env = .ok (.lst ds) env1 := by
  show (evEs Γ es env).bind _ = _
  rw [h]
  show (if lenOk ds.length then _ else _) = _
  rw [if_pos hl]
theorem ev_blt {b : Bf} {es : List E} {ds : List D} {z : D} (h : evEs Γ es env = .ok ds env1) (hz : bltD b ds = some z) : evE Γ (.blt b es) env = .ok z env1 := by
  show (evEs Γ es env).bind _ = _
  rw [h]
  show Out.of (bltD b ds) env1 = _
  rw [hz]
  rfl
theorem ev_isi {a : E} {ts : List Ty} {x z : D} (h : evE Γ a env = .ok x env1) (hz : isiD Γ.sup x ts = some z) : evE Γ (.isi a ts) env = .ok z env1 := by
  show (evE Γ a env).bind _ = _
  rw [h]
  show Out.of (isiD Γ.sup x ts) env1 = _
  rw [hz]
  rfl
theorem ev_not {a : E} {b : Bool} (h : evE Γ a env = .ok (.bl b) env1) : evE Γ (.not a) env = .ok (.bl (!b)) env1 := by
  show (evE Γ a env).bind _ = _
  rw [h]
  rfl
theorem ev_and_t {a b : E} {o : Out D} (h : evE Γ a env = .ok (.bl true) env1) (h2 : evE Γ b env1 = o) : evE Γ (.and a b) env = o := by
  show (evE Γ a env).bind _ = _
  rw [h]
  exact h2
theorem ev_and_f {a b : E} (h : evE Γ a env = .ok (.bl false) env1) : evE Γ (.and a b) env = .ok (.bl false) env1 := by
  show (evE Γ a env).bind _ = _
  rw [h]
  rfl
/-- and, where the second is known whatever the first gives -/
theorem ev_and {a b : E} {x y : Bool} (h : evE Γ a env = .ok (.bl x) env1) (h2 : evE Γ b env1 = .ok (.bl y) env1) : evE Γ (.and a b) env = .ok (.bl (x && y)) env1 := by
  cases x with
  | true => exact ev_and_t h h2
  | false => exact ev_and_f h
theorem tv_bl {e : E} {b : Bool} (h : evE Γ e env = .ok (.bl b) env1) : evT Γ (.val e) env = .ok b env1 := by
  show (evE Γ e env).bind _ = _
  rw [h]
  rfl
theorem t_not {c : Fc.T} {b : Bool} (h : evT Γ c env = .ok b env1) : evT Γ (.not c) env = .ok (!b) env1 := by
  show (evT Γ c env).bind _ = _
  rw [h]
  rfl
theorem t_and_t {a b : Fc.T} {o : Out Bool} (h : evT Γ a env = .ok true env1) (h2 : evT Γ b env1 = o) : evT Γ (.and a b) env = o := by
  show (evT Γ a env).bind _ = _
  rw [h]
  exact h2
theorem t_and_f {a b : Fc.T} (h : evT Γ a env = .ok false env1) : evT Γ (.and a b) env = .ok false env1 := by
  show (evT Γ a env).bind _ = _
  rw [h]
  rfl
theorem t_or_f {a b : Fc.T} {o : Out Bool} (h : evT Γ a env = .ok false env1) (h2 : evT Γ b env1 = o) : evT Γ (.or a b) env = o := by
  show (evT Γ a env).bind _ = _
  rw [h]
  exact h2
theorem t_or_t {a b : Fc.T} (h : evT Γ a env = .ok true env1) : evT Γ (.or a b) env = .ok true env1 := by
  show (evT Γ a env).bind _ = _
  rw [h]
  rfl
theorem t_and {a b : Fc.T} {x y : Bool} (h : evT Γ a env = .ok x env1) (h2 : evT Γ b env1 = .ok y env1) : evT Γ (.and a b) env = .ok (x && y) env1 := by
  cases x with
  | true => exact t_and_t h h2
  | false => exact t_and_f h
theorem t_or {a b : Fc.T} {x y : Bool} (h : evT Γ a env = .ok x env1) (h2 : evT Γ b env1 = .ok y env1) : evT Γ (.or a b) env = .ok (x || y) env1 := by
  cases x with
  | true => exact t_or_t h
  | false => exact t_or_f h h2
theorem ev_app {i : Nat} {xs : List D} {e : E} {d : D} (h0 : slotD env i = some (.lst xs)) (h : evE Γ e env = .ok d env1) (h1 : slotD env1 i = some (.lst xs)) (hl : lenLt xs.length = true) : evE Γ (.mut i [] .append [e]) env = .ok .non (env1.set i (some (.lst (xs ++ [d])))) := by
  have k0 : kindAt env i = some 1 := by unfold kindAt; rw [h0]; rfl
  have k1 : kindAt env1 i = some 1 := by unfold kindAt; rw [h1]; rfl
  show (Out.of (kindAt env i) env).bind _ = _
  rw [k0]
  show (evEs Γ [e] env).bind _ = _
  rw [es_cons h es_nil]
  show (if kindAt env1 i = some 1 then _ else _) = _
  rw [if_pos k1]
  show mutK env1 i [] _ = _
  unfold mutK
  rw [h1]
  have e : pathD [] (.lst xs) (fun x => mutD .append x [d]) = some (.non, .lst (xs ++ [d])) := by
    show (if lenLt xs.length then _ else _) = _
    rw [if_pos hl]
  show (match pathD [] (.lst xs) (fun x => mutD .append x [d]) with | some (r, d') => Out.ok r (env1.set i (some d')) | none => Out.err) = _
  rw [e]
end
theorem log2_lt {a : Int} {k : Nat} (hk : k ≠ 0) (h : a.natAbs < 2 ^ k) : a.natAbs.log2 < k := by
  by_cases h0 : a.natAbs = 0
  · rw [h0]; simp; omega
  · exact (Nat.log2_lt h0).mpr h
theorem mulOk_of {a b : Int} {k l : Nat} (ha : a.natAbs < 2 ^ k) (hb : b.natAbs < 2 ^ l) (hk : k ≠ 0) (hl : l ≠ 0) (h : k + l ≤ 1000000) : mulOk a b = true := by
  have := log2_lt hk ha
  have := log2_lt hl hb
  exact decide_eq_true (by omega)
theorem divOk_of {b : Int} {k : Nat} (h0 : b ≠ 0) (hb : b.natAbs < 2 ^ k) (h : k ≤ 9000) : divOk b = true := by
  have hk : k ≠ 0 := fun e => by subst e; omega
  have := log2_lt hk hb
  unfold divOk
  simp [h0]
  omega
end Fc
end

section
set_option maxRecDepth 100000
/-! Fractions: the text's own gcd, lowest terms. -/
namespace Fc
open PySem L2
abbrev Fr := Int × Int
def frD (p : Fr) : D := .tup [.int p.1, .int p.2]
def gB : List S := [.par [0, 1] [(.var 1), (.bin .mod (.var 0) (.var 1))]]
def gC : Fc.T := .val (.cmp .ne (.var 1) (.con (.int 0)))
theorem binD_mod (a b : Int) (h : b ≠ 0) : binD .mod (.int a) (.int b) = some (.int (a.fmod b)) := by
  show (if decide (b ≠ 0) then _ else _) = _
  rw [if_pos (by simpa using h)]
theorem binD_mul (a b : Int) (h : mulOk a b = true) : binD .mul (.int a) (.int b) = some (.int (a * b)) := by
  show (if mulOk a b then _ else _) = _
  rw [if_pos h]
theorem binD_fdiv (a b : Int) (h : divOk b = true) : binD .fdiv (.int a) (.int b) = some (.int (a.fdiv b)) := by
  show (if divOk b then _ else _) = _
  rw [if_pos h]
theorem g_turn (Γ : Gam) (a b : Int) (h : b ≠ 0) : exSs Γ gB [some (.int a), some (.int b)] = .nx [some (.int b), some (.int (a.fmod b))] := by
  have h1 : evEs Γ [(.var 1), (.bin .mod (.var 0) (.var 1))] [some (.int a), some (.int b)] = .ok [.int b, .int (a.fmod b)] [some (.int a), some (.int b)] := by
    show (Out.bind (Out.bind (Out.of (binD .mod (.int a) (.int b)) [some (.int a), some (.int b)]) _) _) = _
    rw [binD_mod a b h]
    rfl
  exact st_nx (par2_eq h1)
theorem g_test (Γ : Gam) (a b : Int) : evT Γ gC [some (.int a), some (.int b)] = .ok (!(b == 0)) [some (.int a), some (.int b)] := rfl
theorem gcd_mod (a b : Int) : Int.gcd b (a % b) = Int.gcd a b := by
  have h := Int.gcd_add_mul_right_left b (a % b) (a / b)
  rw [Int.emod_add_ediv_mul] at h
  rw [h, Int.gcd_comm]
/-- Euclid's loop: it ends at plus or minus the greatest common divisor -/
theorem gcd_loop (Γ : Gam) : ∀ (f : Nat) (a b : Int), 0 ≤ b → b.natAbs < f →
    ∃ g : Int, g.natAbs = Int.gcd a b ∧ (0 ≤ a → 0 ≤ g) ∧ whlL (evT Γ gC) (exSs Γ gB) f [some (.int a), some (.int b)] = .nx [some (.int g), some (.int 0)]
  | 0, a, b, _, h => absurd h (Nat.not_lt_zero _)
  | f + 1, a, b, hb, h => by
    by_cases h0 : b = 0
    · subst h0
      exact ⟨a, by simp, fun h => h, whl_false (g_test Γ a 0)⟩
    · have hp : 0 < b := by omega
      have hm := Int.fmod_nonneg_of_pos a hp
      have hl := Int.fmod_lt_of_pos a hp
      obtain ⟨g, h1, h2, h3⟩ := gcd_loop Γ f b (a.fmod b) hm (by omega)
      refine ⟨g, ?_, fun _ => h2 hb, ?_⟩
      · rw [h1, Int.fmod_eq_emod_of_nonneg _ hb, gcd_mod]
      · have ht : evT Γ gC [some (.int a), some (.int b)] = .ok true [some (.int a), some (.int b)] := by
          rw [g_test]
          have : (b == 0) = false := by simpa using h0
          rw [this]
          rfl
        rw [whl_true ht (g_turn Γ a b h0)]
        exact h3
/-- the text's divisor -/
def cDiv : List S := [
  .asg (.nm 0) (.blt .abs [(.var 0)]),
  .asg (.nm 1) (.blt .abs [(.var 1)]),
  .whl gC gB,
  .ret (.var 0)]
/-- the law's divisor -/
def cDivL : List S := [
  .whl gC gB,
  .ret (.blt .abs [(.var 0)])]
theorem abs_nn (a : Int) : (if a < 0 then -a else a) = (a.natAbs : Int) := by
  split <;> omega
theorem run_div (Γ : Gam) (a b : Int) (hf : b.natAbs < Γ.fuel) : exSs Γ cDiv [some (.int a), some (.int b)] = .rt (.int (Int.gcd a b)) [some (.int (Int.gcd a b)), some (.int 0)] := by
  have e1 : exS Γ (.asg (.nm 0) (.blt .abs [(.var 0)])) [some (.int a), some (.int b)] = .nx [some (.int a.natAbs), some (.int b)] := by
    rw [← abs_nn]; rfl
  have e2 : exS Γ (.asg (.nm 1) (.blt .abs [(.var 1)])) [some (.int a.natAbs), some (.int b)] = .nx [some (.int a.natAbs), some (.int b.natAbs)] := by
    rw [← abs_nn b]; rfl
  obtain ⟨g, h1, h2, h3⟩ := gcd_loop Γ Γ.fuel a.natAbs b.natAbs (by omega) (by simpa using hf)
  have hg : g = (Int.gcd a b : Int) := by
    have := h2 (by omega)
    have e : Int.gcd (a.natAbs : Int) (b.natAbs : Int) = Int.gcd a b := by simp [Int.gcd]
    rw [e] at h1
    omega
  unfold cDiv
  rw [st_nx e1, st_nx e2, st_nx (whl_eq.trans h3), hg]
  rfl
theorem run_divL (Γ : Gam) (a b : Int) (hb : 0 ≤ b) (hf : b.natAbs < Γ.fuel) : ∃ env, exSs Γ cDivL [some (.int a), some (.int b)] = .rt (.int (Int.gcd a b)) env := by
  obtain ⟨g, h1, h2, h3⟩ := gcd_loop Γ Γ.fuel a b hb hf
  refine ⟨[some (.int g), some (.int 0)], ?_⟩
  unfold cDivL
  rw [st_nx (whl_eq.trans h3), ← h1, ← abs_nn]
  rfl
/-- lowest terms, of a bottom above nought -/
def low (t b : Int) : Fr := (t / (Int.gcd t b : Int), b / (Int.gcd t b : Int))
theorem gcd_pos {t b : Int} (h : 0 < b) : 0 < (Int.gcd t b : Int) := by
  have : Int.gcd t b ≠ 0 := fun e => by
    have := (Int.gcd_eq_zero_iff.mp e).2
    omega
  omega
theorem fdiv_gcd (t b : Int) : t.fdiv (Int.gcd t b : Int) = t / (Int.gcd t b : Int) := Int.fdiv_eq_ediv_of_nonneg _ (by omega)
theorem fdiv_gcd' (t b : Int) : b.fdiv (Int.gcd t b : Int) = b / (Int.gcd t b : Int) := Int.fdiv_eq_ediv_of_nonneg _ (by omega)
theorem gcd_small {t b : Int} {k : Nat} (h0 : 0 < b) (hb : b.natAbs < 2 ^ k) : (Int.gcd t b : Int).natAbs < 2 ^ k := by
  have h1 : Int.gcd t b ∣ b.natAbs := Int.gcd_dvd_natAbs_right _ _
  have h2 := Nat.le_of_dvd (by omega) h1
  simp only [Int.natAbs_natCast]
  omega
def eLow : E := .tup [(.bin .fdiv (.var 0) (.var 2)), (.bin .fdiv (.var 1) (.var 2))]
def cLow (i : Nat) : List S := [
  .asg (.nm 2) (.call i [(.var 0), (.var 1)] []),
  .ife (.val (.cmp .lt (.var 1) (.con (.int 0)))) [
    .asg (.nm 2) (.bin .sub (.con (.int 0)) (.var 2))] [],
  .ret eLow]
def cLowL (i : Nat) : List S := [
  .asg (.nm 2) (.call i [(.var 0), (.var 1)] []),
  .ret eLow]
theorem ev_low (Γ : Gam) (t b g : Int) (h : divOk g = true) : evE Γ eLow [some (.int t), some (.int b), some (.int g)] = .ok (frD (t.fdiv g, b.fdiv g)) [some (.int t), some (.int b), some (.int g)] :=
  ev_tup (es_cons (ev_bin rfl rfl (binD_fdiv t g h)) (es_cons (ev_bin rfl rfl (binD_fdiv b g h)) es_nil)) rfl
theorem low_eq (t b : Int) : low t b = (t.fdiv (Int.gcd t b : Int), b.fdiv (Int.gcd t b : Int)) := by
  unfold low
  rw [fdiv_gcd, fdiv_gcd']
theorem run_low (Γ : Gam) (i : Nat) (t b : Int) (hb : 0 < b) (hs : b.natAbs < 2 ^ 9000) (hc : Γ.call i [.int t, .int b] = .ok (.int (Int.gcd t b)) []) :
    exSs Γ (cLow i) [some (.int t), some (.int b), none] = .rt (frD (low t b)) [some (.int t), some (.int b), some (.int (Int.gcd t b))] := by
  have e1 : exS Γ (.asg (.nm 2) (.call i [(.var 0), (.var 1)] [])) [some (.int t), some (.int b), none] = .nx [some (.int t), some (.int b), some (.int (Int.gcd t b))] := by
    rw [asg_eq (ev_call (ds := [.int t, .int b]) rfl hc)]
    rfl
  have e2 : evT Γ (.val (.cmp .lt (.var 1) (.con (.int 0)))) [some (.int t), some (.int b), some (.int (Int.gcd t b))] = .ok false [some (.int t), some (.int b), some (.int (Int.gcd t b))] := by
    show Out.ok (decide (b < 0)) _ = _
    rw [decide_eq_false (by omega)]
  have hd : divOk (Int.gcd t b : Int) = true := divOk_of (by have := gcd_pos (t := t) hb; omega) (gcd_small hb hs) (Nat.le_refl _)
  unfold cLow
  rw [st_nx e1, st_nx (ife_f e2), low_eq]
  exact st_rt (ret_eq (ev_low Γ t b _ hd))
theorem run_lowL (Γ : Gam) (i : Nat) (t b : Int) (hb : 0 < b) (hs : b.natAbs < 2 ^ 9000) (hc : Γ.call i [.int t, .int b] = .ok (.int (Int.gcd t b)) []) :
    exSs Γ (cLowL i) [some (.int t), some (.int b), none] = .rt (frD (low t b)) [some (.int t), some (.int b), some (.int (Int.gcd t b))] := by
  have e1 : exS Γ (.asg (.nm 2) (.call i [(.var 0), (.var 1)] [])) [some (.int t), some (.int b), none] = .nx [some (.int t), some (.int b), some (.int (Int.gcd t b))] := by
    rw [asg_eq (ev_call (ds := [.int t, .int b]) rfl hc)]
    rfl
  have hd : divOk (Int.gcd t b : Int) = true := divOk_of (by have := gcd_pos (t := t) hb; omega) (gcd_small hb hs) (Nat.le_refl _)
  unfold cLowL
  rw [st_nx e1, low_eq]
  exact st_rt (ret_eq (ev_low Γ t b _ hd))
/-- one[0] * other[1] + other[0] * one[1], one[1] * other[1] -/
def cPlus (i : Nat) : List S := [
  .ret (.call i [(.bin .add (.bin .mul (.idx (.var 0) (.con (.int 0))) (.idx (.var 1) (.con (.int 1)))) (.bin .mul (.idx (.var 1) (.con (.int 0))) (.idx (.var 0) (.con (.int 1))))), (.bin .mul (.idx (.var 0) (.con (.int 1))) (.idx (.var 1) (.con (.int 1))))] [])]
def plusF' (p q : Fr) : Fr := low (p.1 * q.2 + q.1 * p.2) (p.2 * q.2)
theorem run_plus (Γ : Gam) (i : Nat) (p q r : Fr) (h1 : mulOk p.1 q.2 = true) (h2 : mulOk q.1 p.2 = true) (h3 : mulOk p.2 q.2 = true) (hc : Γ.call i [.int (p.1 * q.2 + q.1 * p.2), .int (p.2 * q.2)] = .ok (frD r) []) :
    exSs Γ (cPlus i) [some (frD p), some (frD q)] = .rt (frD r) [some (frD p), some (frD q)] := by
  have e1 : evEs Γ [(.bin .add (.bin .mul (.idx (.var 0) (.con (.int 0))) (.idx (.var 1) (.con (.int 1)))) (.bin .mul (.idx (.var 1) (.con (.int 0))) (.idx (.var 0) (.con (.int 1))))), (.bin .mul (.idx (.var 0) (.con (.int 1))) (.idx (.var 1) (.con (.int 1))))] [some (frD p), some (frD q)] =
      .ok [.int (p.1 * q.2 + q.1 * p.2), .int (p.2 * q.2)] [some (frD p), some (frD q)] := by
    exact es_cons (ev_bin (ev_bin rfl rfl (binD_mul _ _ h1)) (ev_bin rfl rfl (binD_mul _ _ h2)) rfl) (es_cons (ev_bin rfl rfl (binD_mul _ _ h3)) es_nil)
  exact st_rt (ret_eq (ev_call e1 hc))
def cLess : List S := [
  .ret (.cmp .lt (.bin .mul (.idx (.var 0) (.con (.int 0))) (.idx (.var 1) (.con (.int 1)))) (.bin .mul (.idx (.var 1) (.con (.int 0))) (.idx (.var 0) (.con (.int 1)))))]
def less (p q : Fr) : Bool := decide (p.1 * q.2 < q.1 * p.2)
theorem run_less (Γ : Gam) (p q : Fr) (h1 : mulOk p.1 q.2 = true) (h2 : mulOk q.1 p.2 = true) : exSs Γ cLess [some (frD p), some (frD q)] = .rt (.bl (less p q)) [some (frD p), some (frD q)] :=
  st_rt (ret_eq (ev_cmp (ev_bin rfl rfl (binD_mul _ _ h1)) (ev_bin rfl rfl (binD_mul _ _ h2)) rfl))
end Fc
end

section
set_option maxRecDepth 100000
/-! The laws' draws. -/
namespace Fc
open PySem L2
/-- below 2^k -/
def Nb (k : Nat) (a : Int) : Prop := a.natAbs < 2 ^ k
theorem Nb.mono {k l : Nat} {a : Int} (h : Nb k a) (hl : k ≤ l) : Nb l a := Nat.lt_of_lt_of_le h (Nat.pow_le_pow_right (by omega) hl)
theorem Nb.mul {k l : Nat} {a b : Int} (h : Nb k a) (h' : Nb l b) : Nb (k + l) (a * b) := by
  unfold Nb at *
  rw [Int.natAbs_mul, Nat.pow_add]
  exact Nat.mul_lt_mul'' h h'
theorem Nb.add {k : Nat} {a b : Int} (h : Nb k a) (h' : Nb k b) : Nb (k + 1) (a + b) := by
  unfold Nb at *
  have := Int.natAbs_add_le a b
  rw [Nat.pow_succ]
  omega
theorem Nb.sub {k : Nat} {a b : Int} (h : Nb k a) (h' : Nb k b) : Nb (k + 1) (a - b) := by
  unfold Nb at *
  have := Int.natAbs_sub_le a b
  rw [Nat.pow_succ]
  omega
theorem Nb.mok {k l : Nat} {a b : Int} (h : Nb k a) (h' : Nb l b) (hk : k ≠ 0) (hl : l ≠ 0) (hh : k + l ≤ 1000000) : mulOk a b = true := mulOk_of h h' hk hl hh
theorem Nb.le {k : Nat} {a b : Int} (h : Nb k b) (ha : 0 ≤ a) (hb : a ≤ b) : Nb k a := by unfold Nb at *; omega
theorem atI_nat {α : Type} {xs : List α} {k : Nat} {x : α} (h : xs[k]? = some x) : atI xs (k : Int) = some x := by
  have hl : k < xs.length := (List.getElem?_eq_some_iff.mp h).1
  have e : ixN xs.length (k : Int) = some k := by
    unfold ixN
    rw [if_pos (by omega), if_pos (by omega)]
    simp
  unfold atI
  rw [e]
  exact h
def dMix : E := (.bin .mod (.bin .mul (.bin .add (.bin .add (.bin .add (.bin .mod (.var 2) (.con (.int 2147483647))) (.bin .mul (.bin .mul (.con (.int 1009)) (.var 5)) (.var 5))) (.bin .mul (.con (.int 31)) (.var 5))) (.con (.int 7))) (.con (.int 48271))) (.con (.int 2147483629)))
def dMix2 : E := (.bin .mod (.bin .mul (.bin .add (.bin .mod (.bin .mul (.var 6) (.var 6)) (.con (.int 2147483647))) (.var 5)) (.con (.int 39373))) (.con (.int 2147483587)))
def dBody : List S := [
    .ife (.and (.val (.cmp .ge (.var 2) (.bin .pow (.con (.int 10)) (.con (.int 18))))) (.val (.cmp .gt (.var 3) (.con (.int 0))))) [
      .ex (.mut 4 [] .append [(.bin .mod (.var 3) (.idx (.var 1) (.var 5)))]),
      .asg (.nm 3) (.bin .fdiv (.var 3) (.idx (.var 1) (.var 5)))] [
      .asg (.nm 6) dMix,
      .asg (.nm 6) dMix2,
      .ex (.mut 4 [] .append [(.bin .mod (.bin .fdiv (.var 6) (.con (.int 8))) (.idx (.var 1) (.var 5)))])]]
def cDraws : List S := [
  .asg (.nm 2) (.blt .max [(.var 0), (.bin .sub (.neg (.con (.int 1))) (.var 0))]),
  .asg (.nm 3) (.var 2),
  .asg (.nm 4) (.lst []),
  .loop (.nm 5) .range [(.blt .len [(.var 1)])] dBody,
  .ret (.var 4)]
def intsD (xs : List Int) : D := .lst (xs.map .int)
/-- digits within their bounds -/
def Digs (xs ss : List Int) : Prop := xs.length = ss.length ∧ ∀ (k : Nat) (x s : Int), xs[k]? = some x → ss[k]? = some s → 0 ≤ x ∧ x < s
theorem fmod_in {a s : Int} (h : 0 < s) : 0 ≤ a.fmod s ∧ a.fmod s < s := ⟨Int.fmod_nonneg_of_pos a h, Int.fmod_lt_of_pos a h⟩
theorem nb_fmod {a s : Int} {k : Nat} (h : 0 < s) (hs : Nb k s) : Nb k (a.fmod s) := hs.le (fmod_in h).1 (by have := (fmod_in (a := a) h).2; omega)
theorem nb_k {k : Nat} (h : k < 1000) : Nb 10 (k : Int) := by unfold Nb; simp; omega
theorem c18 : binD .pow (.int 10) (.int 18) = some (.int (10 ^ 18)) := by
  show (if powOk 10 18 then some (D.int (10 ^ (18 : Int).toNat)) else none) = _
  rw [if_pos (by decide)]
  rfl
theorem ev_mix (Γ : Gam) (env : Env) (n : Int) (k : Nat) (hk : k < 1000) (h2 : slotD env 2 = some (.int n)) (h5 : slotD env 5 = some (.int k)) : ∃ x : Int, evE Γ dMix env = .ok (.int x) env ∧ Nb 31 x := by
  have m1 : Nb 31 (n.fmod 2147483647) := nb_fmod (by omega) (by unfold Nb; decide)
  have kk := nb_k hk
  have c1 : Nb 10 (1009 : Int) := by unfold Nb; decide
  have c2 : Nb 5 (31 : Int) := by unfold Nb; decide
  have c3 : Nb 16 (48271 : Int) := by unfold Nb; decide
  have a1 := c1.mul kk
  have a2 := a1.mul kk
  have a3 := c2.mul kk
  have s1 := m1.add (a2.mono (by omega))
  have s2 := s1.add (a3.mono (by omega))
  have s3 := s2.add (b := (7 : Int)) (by unfold Nb; decide)
  refine ⟨_, ev_bin (ev_bin (ev_bin (ev_bin (ev_bin (ev_bin (ev_var h2) rfl (binD_mod _ _ (by omega))) (ev_bin (ev_bin rfl (ev_var h5) (binD_mul _ _ (c1.mok kk (by omega) (by omega) (by omega)))) (ev_var h5) (binD_mul _ _ (a1.mok kk (by omega) (by omega) (by omega)))) rfl) (ev_bin rfl (ev_var h5) (binD_mul _ _ (c2.mok kk (by omega) (by omega) (by omega)))) rfl) rfl rfl) rfl (binD_mul _ _ (s3.mok c3 (by omega) (by omega) (by omega)))) rfl (binD_mod _ _ (by omega)), ?_⟩
  exact nb_fmod (by omega) (by unfold Nb; decide)
theorem ev_mix2 (Γ : Gam) (env : Env) (n : Int) (k : Nat) (hk : k < 1000) (hn : Nb 31 n) (h6 : slotD env 6 = some (.int n)) (h5 : slotD env 5 = some (.int k)) : ∃ x : Int, evE Γ dMix2 env = .ok (.int x) env ∧ Nb 31 x := by
  have kk := nb_k hk
  have m1 : Nb 31 ((n * n).fmod 2147483647) := nb_fmod (by omega) (by unfold Nb; decide)
  have c3 : Nb 16 (39373 : Int) := by unfold Nb; decide
  have s1 := m1.add (kk.mono (l := 31) (by omega))
  refine ⟨_, ev_bin (ev_bin (ev_bin (ev_bin (ev_bin (ev_var h6) (ev_var h6) (binD_mul _ _ (hn.mok hn (by omega) (by omega) (by omega)))) rfl (binD_mod _ _ (by omega))) (ev_var h5) rfl) rfl (binD_mul _ _ (s1.mok c3 (by omega) (by omega) (by omega)))) rfl (binD_mod _ _ (by omega)), ?_⟩
  exact nb_fmod (by omega) (by unfold Nb; decide)
/-- one digit drawn -/
theorem draw_turn (Γ : Gam) (cell : D) (ss : List Int) (n l : Int) (xs : List Int) (o5 o6 : Option D) (k : Nat) (s : Int) (hs : ss[k]? = some s) (hp : 0 < s) (hb : Nb 9000 s) (hk : k < 1000) (hx : xs.length = k) :
    ∃ (x l' : Int) (o6' : Option D), 0 ≤ x ∧ x < s ∧ turnF Γ (.nm 5) dBody (.int k) [some cell, some (intsD ss), some (.int n), some (.int l), some (intsD xs), o5, o6] =
      .nx [some cell, some (intsD ss), some (.int n), some (.int l'), some (intsD (xs ++ [x])), some (.int k), o6'] := by
  have hl : lenLt (xs.map D.int).length = true := by
    rw [List.length_map, hx]
    exact decide_eq_true (by show k < 16777216; omega)
  have hi : ∀ {env : Env}, slotD env 1 = some (intsD ss) → slotD env 5 = some (.int k) → evE Γ (.idx (.var 1) (.var 5)) env = .ok (.int s) env := fun h1 h5 =>
    ev_idx (ev_var h1) (ev_var h5) (atI_nat (by rw [List.getElem?_map, hs]; rfl))
  have hd : divOk s = true := divOk_of (by omega) hb (Nat.le_refl _)
  have app : ∀ x : Int, (xs.map D.int) ++ [.int x] = (xs ++ [x]).map D.int := fun x => by simp
  rw [turn_eq (env1 := [some cell, some (intsD ss), some (.int n), some (.int l), some (intsD xs), some (.int k), o6]) rfl]
  have hc : evT Γ (.and (.val (.cmp .ge (.var 2) (.bin .pow (.con (.int 10)) (.con (.int 18))))) (.val (.cmp .gt (.var 3) (.con (.int 0))))) [some cell, some (intsD ss), some (.int n), some (.int l), some (intsD xs), some (.int k), o6] =
      .ok (decide ((10 : Int) ^ 18 ≤ n) && decide (0 < l)) [some cell, some (intsD ss), some (.int n), some (.int l), some (intsD xs), some (.int k), o6] :=
    t_and (tv_bl (ev_cmp rfl (ev_bin rfl rfl c18) rfl)) (tv_bl (ev_cmp rfl rfl rfl))
  cases hv : (decide ((10 : Int) ^ 18 ≤ n) && decide (0 < l)) with
  | true =>
    rw [hv] at hc
    have f := fmod_in (a := l) hp
    refine ⟨l.fmod s, l.fdiv s, o6, f.1, f.2, ?_⟩
    have e1 : exS Γ (.ex (.mut 4 [] .append [(.bin .mod (.var 3) (.idx (.var 1) (.var 5)))])) [some cell, some (intsD ss), some (.int n), some (.int l), some (intsD xs), some (.int k), o6] =
        .nx [some cell, some (intsD ss), some (.int n), some (.int l), some (intsD (xs ++ [l.fmod s])), some (.int k), o6] := by
      refine (ex_eq (ev_app (xs := xs.map D.int) rfl (ev_bin rfl (hi rfl rfl) (binD_mod _ _ (by omega))) rfl hl)).trans ?_
      rw [app]
      rfl
    have e2 : exS Γ (.asg (.nm 3) (.bin .fdiv (.var 3) (.idx (.var 1) (.var 5)))) [some cell, some (intsD ss), some (.int n), some (.int l), some (intsD (xs ++ [l.fmod s])), some (.int k), o6] =
        .nx [some cell, some (intsD ss), some (.int n), some (.int (l.fdiv s)), some (intsD (xs ++ [l.fmod s])), some (.int k), o6] :=
      asgn (ev_bin rfl (hi rfl rfl) (binD_fdiv _ _ hd)) rfl
    refine st_nx ((ife_t hc).trans ?_)
    rw [st_nx e1, st_nx e2]
    rfl
  | false =>
    rw [hv] at hc
    obtain ⟨y, hy, by1⟩ := ev_mix Γ [some cell, some (intsD ss), some (.int n), some (.int l), some (intsD xs), some (.int k), o6] n k hk rfl rfl
    obtain ⟨z, hz, bz⟩ := ev_mix2 Γ [some cell, some (intsD ss), some (.int n), some (.int l), some (intsD xs), some (.int k), some (.int y)] y k hk by1 rfl rfl
    have f := fmod_in (a := z.fdiv 8) hp
    refine ⟨(z.fdiv 8).fmod s, l, some (.int z), f.1, f.2, ?_⟩
    have e3 : exS Γ (.ex (.mut 4 [] .append [(.bin .mod (.bin .fdiv (.var 6) (.con (.int 8))) (.idx (.var 1) (.var 5)))])) [some cell, some (intsD ss), some (.int n), some (.int l), some (intsD xs), some (.int k), some (.int z)] =
        .nx [some cell, some (intsD ss), some (.int n), some (.int l), some (intsD (xs ++ [(z.fdiv 8).fmod s])), some (.int k), some (.int z)] := by
      refine (ex_eq (ev_app (xs := xs.map D.int) rfl (ev_bin (ev_bin rfl rfl (binD_fdiv _ _ (by decide))) (hi rfl rfl) (binD_mod _ _ (by omega))) rfl hl)).trans ?_
      rw [app]
      rfl
    refine st_nx ((ife_f hc).trans ?_)
    have e1 : exS Γ (.asg (.nm 6) dMix) [some cell, some (intsD ss), some (.int n), some (.int l), some (intsD xs), some (.int k), o6] = .nx [some cell, some (intsD ss), some (.int n), some (.int l), some (intsD xs), some (.int k), some (.int y)] := asgn hy rfl
    have e2 : exS Γ (.asg (.nm 6) dMix2) [some cell, some (intsD ss), some (.int n), some (.int l), some (intsD xs), some (.int k), some (.int y)] = .nx [some cell, some (intsD ss), some (.int n), some (.int l), some (intsD xs), some (.int k), some (.int z)] := asgn hz rfl
    rw [st_nx e1, st_nx e2, st_nx e3]
    rfl
theorem draw_loop (Γ : Gam) (cell : D) (ss : List Int) (n : Int) (hp : ∀ s ∈ ss, 0 < s ∧ Nb 9000 s) (hlen : ss.length < 1000) : ∀ (m k : Nat) (l : Int) (xs : List Int) (o5 o6 : Option D), k + m = ss.length → xs.length = k → (∀ (j : Nat) (x s : Int), xs[j]? = some x → ss[j]? = some s → 0 ≤ x ∧ x < s) →
    ∃ ys env, Digs ys ss ∧ slotD env 4 = some (intsD ys) ∧ forL (turnF Γ (.nm 5) dBody) ((List.range' k m).map fun (j : Nat) => D.int (j : Int)) [some cell, some (intsD ss), some (.int n), some (.int l), some (intsD xs), o5, o6] = .nx env
  | 0, k, l, xs, o5, o6, hk, hx, hd => ⟨xs, _, ⟨by omega, hd⟩, rfl, rfl⟩
  | m + 1, k, l, xs, o5, o6, hk, hx, hd => by
    have hlt : k < ss.length := by omega
    have hs := List.getElem?_eq_getElem hlt
    obtain ⟨x, l', o6', h1, h2, h3⟩ := draw_turn Γ cell ss n l xs o5 o6 k ss[k] hs (hp _ (List.getElem_mem hlt)).1 (hp _ (List.getElem_mem hlt)).2 (by omega) hx
    obtain ⟨ys, env, q1, q2, q3⟩ := draw_loop Γ cell ss n hp hlen m (k + 1) l' (xs ++ [x]) (some (.int k)) o6' (by omega) (by simp [hx]) (fun j z s e1 e2 => by
      by_cases hj : j < xs.length
      · rw [List.getElem?_append_left hj] at e1
        exact hd j z s e1 e2
      · rw [List.getElem?_append_right (by omega)] at e1
        have : j - xs.length = 0 := by
          cases q : j - xs.length with
          | zero => rfl
          | succ q' => rw [q] at e1; simp at e1
        rw [this] at e1
        have e1 : x = z := by simpa using e1
        have hjk : j = k := by omega
        subst hjk
        rw [hs] at e2
        cases e2
        subst e1
        exact ⟨h1, h2⟩)
    refine ⟨ys, env, q1, q2, ?_⟩
    rw [List.range'_succ, List.map_cons, for_cons h3]
    exact q3
/-- the draws: a digit below each size -/
theorem run_draws (Γ : Gam) (cell : Int) (ss : List Int) (hp : ∀ s ∈ ss, 0 < s ∧ Nb 9000 s) (hlen : ss.length < 1000) : ∃ ys env, Digs ys ss ∧ exSs Γ cDraws [some (.int cell), some (intsD ss), none, none, none, none, none] = .rt (intsD ys) env := by
  have hm : ∃ n : Int, exS Γ (.asg (.nm 2) (.blt .max [(.var 0), (.bin .sub (.neg (.con (.int 1))) (.var 0))])) [some (.int cell), some (intsD ss), none, none, none, none, none] = .nx [some (.int cell), some (intsD ss), some (.int n), none, none, none, none] := ⟨_, rfl⟩
  obtain ⟨n, e1⟩ := hm
  have e2 : exS Γ (.asg (.nm 3) (.var 2)) [some (.int cell), some (intsD ss), some (.int n), none, none, none, none] = .nx [some (.int cell), some (intsD ss), some (.int n), some (.int n), none, none, none] := rfl
  have e3 : exS Γ (.asg (.nm 4) (.lst [])) [some (.int cell), some (intsD ss), some (.int n), some (.int n), none, none, none] = .nx [some (.int cell), some (intsD ss), some (.int n), some (.int n), some (intsD []), none, none] := rfl
  obtain ⟨ys, env, q1, q2, q3⟩ := draw_loop Γ (.int cell) ss n hp hlen ss.length 0 n [] none none (by omega) rfl (fun j x s e => by simp at e)
  have hr : itemsD .range [.int (ss.length : Int)] = some ((List.range' 0 ss.length).map fun (j : Nat) => D.int (j : Int)) := by
    unfold itemsD
    simp only
    rw [if_pos (decide_eq_true ⟨by omega, by omega⟩), List.range_eq_range']
    simp
  have e4 : exS Γ (.loop (.nm 5) .range [(.blt .len [(.var 1)])] dBody) [some (.int cell), some (intsD ss), some (.int n), some (.int n), some (intsD []), none, none] = .nx env := by
    rw [loop_eq (ds := [.int (ss.length : Int)]) (es_cons (ev_blt (ds := [intsD ss]) rfl (by show some (D.int ((ss.map D.int).length : Int)) = _; rw [List.length_map])) es_nil) hr]
    exact q3
  refine ⟨ys, env, q1, ?_⟩
  unfold cDraws
  rw [st_nx e1, st_nx e2, st_nx e3, st_nx e4]
  exact st_rt (ret_eq (ev_var q2))
end Fc
end

section
set_option maxRecDepth 100000
/-! Equality of fractions and lists of them. -/
namespace Fc
open PySem L2
def frP (p : Fr) : PyData := .tuple [.int p.1, .int p.2]
theorem frP_lay (p : Fr) : (frP p).canLay0 = true := by simp [frP, PyData.canLay0, PyData.canLayAll0]
theorem frP_depth (p : Fr) : (frP p).depth = 1 := by simp [frP, PyData.depth, PyData.depthAll]
theorem frPs_lay : ∀ ps : List Fr, PyData.canLayAll0 (ps.map frP) = true
  | [] => by simp [PyData.canLayAll0]
  | p :: ps => by simp [PyData.canLayAll0, frP_lay p, frPs_lay ps]
theorem frPs_depth : ∀ ps : List Fr, PyData.depthAll (ps.map frP) ≤ 1
  | [] => by simp [PyData.depthAll]
  | p :: ps => by
    have := frPs_depth ps
    have := frP_depth p
    simp only [List.map_cons, PyData.depthAll]
    omega
theorem frP_shaped (p : Fr) : SeqAt.shaped (frP p) = true := by
  have := frP_depth p
  unfold SeqAt.shaped
  rw [Bool.and_eq_true]
  exact ⟨frP_lay p, decide_eq_true (by omega)⟩
theorem frPs_shaped (ps : List Fr) : SeqAt.shaped (.list (ps.map frP)) = true := by
  have := frPs_depth ps
  unfold SeqAt.shaped
  rw [Bool.and_eq_true]
  refine ⟨by simp only [PyData.canLay0]; exact frPs_lay ps, decide_eq_true ?_⟩
  simp only [PyData.depth]
  omega
theorem frP_eqv (p q : Fr) : PyData.eqv (frP p) (frP q) = decide (p = q) := by
  obtain ⟨a, b⟩ := p
  obtain ⟨c, d⟩ := q
  simp [frP, PyData.eqv, PyData.eqvAll]
  rfl
theorem frPs_eqv : ∀ ps qs : List Fr, PyData.eqvAll (ps.map frP) (qs.map frP) = decide (ps = qs)
  | [], [] => by simp [PyData.eqvAll]
  | [], _ :: _ => by simp [PyData.eqvAll]
  | _ :: _, [] => by simp [PyData.eqvAll]
  | p :: ps, q :: qs => by
    simp only [List.map_cons, PyData.eqvAll, frP_eqv, frPs_eqv ps qs]
    simp
theorem toP_fr (p : Fr) : (frD p).toP = some (frP p) := rfl
theorem toPs_fr : ∀ ps : List Fr, toPs (ps.map frD) = some (ps.map frP)
  | [] => rfl
  | p :: ps => by
    show (match (frD p).toP, toPs (ps.map frD) with | some p, some ps => some (p :: ps) | _, _ => none) = _
    rw [toP_fr, toPs_fr ps]
    rfl
def frs (ps : List Fr) : D := .lst (ps.map frD)
theorem toP_frs (ps : List Fr) : (frs ps).toP = some (.list (ps.map frP)) := by
  show (toPs (ps.map frD)).map _ = _
  rw [toPs_fr]
  rfl
theorem eqD_fr (p q : Fr) : eqD (frD p) (frD q) = some (decide (p = q)) := by
  unfold eqD
  rw [toP_fr, toP_fr]
  simp only [frP_shaped, Bool.and_self, if_true, frP_eqv]
theorem eqD_frs (ps qs : List Fr) : eqD (frs ps) (frs qs) = some (decide (ps = qs)) := by
  unfold eqD
  rw [toP_frs, toP_frs]
  simp only [frPs_shaped, Bool.and_self, if_true, PyData.eqv, frPs_eqv]
theorem memD_frs (p : Fr) (ps : List Fr) : memD (frD p) (frs ps) = some (decide (p ∈ ps)) := by
  show (if (frD p).flat && (ps.map frD).all D.flat then some (inF (frD p) (ps.map frD)) else memP (frD p) (ps.map frD)) = _
  rw [if_neg (by show ¬ (false && _) = true; simp)]
  unfold memP
  rw [toP_fr, toPs_fr]
  simp only [frP_shaped, frPs_shaped, Bool.and_self, if_true]
  congr 1
  induction ps with
  | nil => simp
  | cons q ps ih =>
    rw [List.map_cons, List.any_cons, ih, frP_eqv]
    by_cases h : q = p
    · subst h; simp
    · have h' : ¬ p = q := fun e => h e.symm
      simp [h, h']
/-- pairs of fractions -/
theorem eqD_pair (a b c d : Fr) : eqD (.tup [frD a, frD b]) (.tup [frD c, frD d]) = some (decide (a = c ∧ b = d)) := by
  have e : ∀ x y : Fr, (D.tup [frD x, frD y]).toP = some (.tuple [frP x, frP y]) := fun _ _ => rfl
  have sh : ∀ x y : Fr, SeqAt.shaped (.tuple [frP x, frP y]) = true := fun x y => by
    have h1 := frP_depth x
    have h2 := frP_depth y
    unfold SeqAt.shaped
    rw [Bool.and_eq_true]
    refine ⟨by simp [PyData.canLay0, PyData.canLayAll0, frP_lay], decide_eq_true ?_⟩
    simp only [PyData.depth, PyData.depthAll]
    omega
  unfold eqD
  rw [e, e]
  simp only [sh, Bool.and_self, if_true, PyData.eqv, PyData.eqvAll, frP_eqv]
  simp
theorem frD_imm (p : Fr) : (frD p).imm = true := rfl
/-- a call that hands its value back -/
theorem call_rt {fs : Tab} {sup : Nat → Nat → Bool} {fuel n i : Nat} {d : FDef} {ds : List D} {r : D} {env : Env} (h : fs.lookup i = some d) (hl : ds.length = d.sig.np)
    (he : exSs ⟨callF fs sup fuel n, sup, fuel⟩ d.code (ds.map some ++ List.replicate (d.N.length - d.sig.np) none) = .rt r env) (hio : d.sig.io = []) (hi : immR d.sig.res = true → r.imm = true) : callF fs sup fuel (n + 1) i ds = .ok r [] := by
  rw [call_eq h hl, he]
  show retD (immR d.sig.res) r (iosD env d.sig.io) = _
  rw [hio]
  show (if immR d.sig.res && !r.imm then FRes.err else .ok r []) = _
  rw [if_neg]
  intro q
  rw [Bool.and_eq_true] at q
  rw [hi q.1] at q
  exact Bool.noConfusion q.2
/-- lowest terms keep within bounds -/
theorem low_good {t b : Int} (hb : 0 < b) : 0 < (low t b).2 ∧ (low t b).2 ≤ b ∧ Int.gcd (low t b).1 (low t b).2 = 1 ∧ (low t b).1.natAbs ≤ t.natAbs := by
  have hg := gcd_pos (t := t) hb
  refine ⟨Int.ediv_pos_of_pos_of_dvd hb (by omega) (Int.gcd_dvd_right _ _), Int.ediv_le_self _ (by omega), Int.gcd_ediv_gcd_ediv_gcd (by omega), Int.natAbs_ediv_le_natAbs _ _⟩
/-! ## == of values of any shape -/
/-- a value without dicts, of some depth -/
def Shp (n : Nat) (d : D) : Prop := ∃ p, d.toP = some p ∧ p.canLay0 = true ∧ p.depth ≤ n
def Shps (n : Nat) (ds : List D) : Prop := ∃ ps, toPs ds = some ps ∧ PyData.canLayAll0 ps = true ∧ PyData.depthAll ps ≤ n
theorem shp_non {n : Nat} : Shp n .non := ⟨.none, rfl, by simp [PyData.canLay0], by simp [PyData.depth]⟩
theorem shp_bl {n : Nat} {b : Bool} : Shp n (.bl b) := ⟨.bool b, rfl, by simp [PyData.canLay0], by simp [PyData.depth]⟩
theorem shp_int {n : Nat} {b : Int} : Shp n (.int b) := ⟨.int b, rfl, by simp [PyData.canLay0], by simp [PyData.depth]⟩
theorem shp_str {n : Nat} {b : Str} (h : PyData.strOk b = true) : Shp n (.str b) := ⟨.str b, rfl, by simp [PyData.canLay0, h], by simp [PyData.depth]⟩
theorem shps_nil {n : Nat} : Shps n [] := ⟨[], rfl, by simp [PyData.canLayAll0], by simp [PyData.depthAll]⟩
theorem shps_cons {n : Nat} {d : D} {ds : List D} (h : Shp n d) (t : Shps n ds) : Shps n (d :: ds) := by
  obtain ⟨p, h1, h2, h3⟩ := h
  obtain ⟨ps, t1, t2, t3⟩ := t
  refine ⟨p :: ps, ?_, by simp [PyData.canLayAll0, h2, t2], by simp only [PyData.depthAll]; omega⟩
  unfold toPs
  rw [h1, t1]
theorem shps_of {n : Nat} : ∀ {ds : List D}, (∀ d ∈ ds, Shp n d) → Shps n ds
  | [], _ => shps_nil
  | d :: ds, h => shps_cons (h d (by simp)) (shps_of fun x hx => h x (by simp [hx]))
theorem shp_lst {n : Nat} {ds : List D} (h : Shps n ds) : Shp (n + 1) (.lst ds) := by
  obtain ⟨ps, t1, t2, t3⟩ := h
  refine ⟨.list ps, ?_, by simpa [PyData.canLay0] using t2, by simp only [PyData.depth]; omega⟩
  unfold D.toP
  rw [t1]; rfl
theorem shp_tup {n : Nat} {ds : List D} (h : Shps n ds) : Shp (n + 1) (.tup ds) := by
  obtain ⟨ps, t1, t2, t3⟩ := h
  refine ⟨.tuple ps, ?_, by simpa [PyData.canLay0] using t2, by simp only [PyData.depth]; omega⟩
  unfold D.toP
  rw [t1]; rfl
theorem Shp.mono {n m : Nat} {d : D} (h : Shp n d) (hm : n ≤ m) : Shp m d := by
  obtain ⟨p, h1, h2, h3⟩ := h
  exact ⟨p, h1, h2, by omega⟩
/-- == as it answers there -/
def eqX (a b : D) : Bool := match a.toP, b.toP with
  | some p, some q => PyData.eqv p q
  | _, _ => false
theorem eqD_x {a b : D} (h : Shp 64 a) (h' : Shp 64 b) : eqD a b = some (eqX a b) := by
  obtain ⟨p, h1, h2, h3⟩ := h
  obtain ⟨q, g1, g2, g3⟩ := h'
  unfold eqD eqX
  rw [h1, g1]
  simp [SeqAt.shaped, h2, h3, g2, g3]
theorem Shps.parts {n : Nat} {a : D} {as : List D} (h : Shps n (a :: as)) : ∃ p ps, a.toP = some p ∧ toPs as = some ps := by
  obtain ⟨_, h1, _, _⟩ := h
  unfold toPs at h1
  split at h1
  · rename_i p ps e1 e2
    exact ⟨p, ps, e1, e2⟩
  · simp at h1
theorem eqX_lst {n m : Nat} {a b : D} {as bs : List D} (h : Shps n (a :: as)) (h' : Shps m (b :: bs)) : eqX (.lst (a :: as)) (.lst (b :: bs)) = (eqX a b && eqX (.lst as) (.lst bs)) := by
  obtain ⟨p, ps, hp, hps⟩ := h.parts
  obtain ⟨q, qs, gp, gps⟩ := h'.parts
  simp [eqX, D.toP, toPs, hp, hps, gp, gps, PyData.eqv, PyData.eqvAll]
theorem eqX_tup {n m : Nat} {a b : D} {as bs : List D} (h : Shps n (a :: as)) (h' : Shps m (b :: bs)) : eqX (.tup (a :: as)) (.tup (b :: bs)) = (eqX a b && eqX (.tup as) (.tup bs)) := by
  obtain ⟨p, ps, hp, hps⟩ := h.parts
  obtain ⟨q, qs, gp, gps⟩ := h'.parts
  simp [eqX, D.toP, toPs, hp, hps, gp, gps, PyData.eqv, PyData.eqvAll]
theorem eqX_lst_nil {n : Nat} {as : List D} (h : Shps n as) : eqX (.lst as) (.lst []) = as.isEmpty := by
  cases as with
  | nil => simp [eqX, D.toP, toPs, PyData.eqv, PyData.eqvAll]
  | cons a as =>
    obtain ⟨p, ps, hp, hps⟩ := h.parts
    simp [eqX, D.toP, hp, hps, toPs, PyData.eqv, PyData.eqvAll]
theorem eqX_lst_nil' {n : Nat} {as : List D} (h : Shps n as) : eqX (.lst []) (.lst as) = as.isEmpty := by
  cases as with
  | nil => simp [eqX, D.toP, toPs, PyData.eqv, PyData.eqvAll]
  | cons a as =>
    obtain ⟨p, ps, hp, hps⟩ := h.parts
    simp [eqX, D.toP, hp, hps, toPs, PyData.eqv, PyData.eqvAll]
end Fc
end

section
set_option maxRecDepth 100000
/-! Defs that many laws reach: numbers, names, draws. -/
namespace Fc
open PySem L2 TL
local macro_rules | `(tactic| simp! only [$xs,*]) => `(tactic| simp only [↓wSs_nil, ↓wSs_cons, ↓wS_ex, ↓wS_pass, ↓wS_asg, ↓wS_par, ↓wS_aug, ↓wS_ret, ↓wS_rse, ↓wS_ife, ↓wS_whl, ↓wS_loop, ↓wS_seti, ↓wEnd_t, ↓wEnd_f, ↓wEnd_io,
  ↓wE_var, ↓wE_con, ↓wE_bin, ↓wE_neg, ↓wE_not, ↓wE_and, ↓wE_or, ↓wE_cmp, ↓wE_chain, ↓wE_ife, ↓wE_tup, ↓wE_lst, ↓wE_idx, ↓wE_slc, ↓wE_fld, ↓wE_call, ↓wE_blt, ↓wE_mth, ↓wE_isi, ↓wE_lc, ↓wE_app, ↓wApp_lst, ↓wE_rep, ↓wE_rev, ↓wE_dic, ↓wEs_nil, ↓wEs_cons,
  ↓wGet_zero, ↓wGet_succ, ↓wSet_zero, ↓wSet_succ, ↓wBack_nil, ↓wBack_cons, ↓wBl_bl, ↓wAsg_nm, ↓wAsg_tp, ↓wAsg_lp, ↓wAsgs_nil, ↓wAsgs_cons,
  ↓wBin_add, ↓wBin_sub, ↓wBin_mul, ↓wBin_fdiv, ↓wBin_mod, ↓wBin_pow10, ↓wBin_adds, ↓wBin_addl, ↓wBin_addt, ↓wCmp_lt, ↓wCmp_le, ↓wCmp_gt, ↓wCmp_ge, ↓wCmp_isn, ↓wCmp_nn, ↓wCmp_eq, ↓wCmp_ne, ↓wCmp_mem, ↓wCmp_nmem, eqD_int, eqD_bl, ↓wi_non_int, ↓wi_non_bool, ↓wi_non_str, ↓wi_non_list, ↓wi_non_tuple, ↓wi_non_dict, ↓isNon_non, ↓wi_bl_int, ↓wi_bl_bool, ↓wi_bl_str, ↓wi_bl_list, ↓wi_bl_tuple, ↓wi_bl_dict, ↓isNon_bl, ↓wi_int_int, ↓wi_int_bool, ↓wi_int_str, ↓wi_int_list, ↓wi_int_tuple, ↓wi_int_dict, ↓isNon_int, ↓wi_str_int, ↓wi_str_bool, ↓wi_str_str, ↓wi_str_list, ↓wi_str_tuple, ↓wi_str_dict, ↓isNon_str, ↓wi_tup_int, ↓wi_tup_bool, ↓wi_tup_str, ↓wi_tup_list, ↓wi_tup_tuple, ↓wi_tup_dict, ↓isNon_tup, ↓wi_lst_int, ↓wi_lst_bool, ↓wi_lst_str, ↓wi_lst_list, ↓wi_lst_tuple, ↓wi_lst_dict, ↓isNon_lst, ↓wi_dic_int, ↓wi_dic_bool, ↓wi_dic_str, ↓wi_dic_list, ↓wi_dic_tuple, ↓wi_dic_dict, ↓isNon_dic,
  ↓wTru_bl, ↓wTru_int, ↓wTru_lst, ↓wTru_tup, negD_int, notD_bl, ↓wPart_f, ↓wPart_t, ↓wBlt_len, ↓wBlt_lent, ↓wBlt_lens, ↓wBlt_abs, ↓wBlt_max, ↓wBlt_min, ↓wBlt_int, ↓wBlt_intb, ↓wBlt_list, ↓wBlt_listt, ↓wBlt_tuple, ↓wBlt_tuplet,
  ↓wIdx_lst, ↓wIdx_tup, ↓wSlc_lst, ↓wSlc_str, ↓wRep_lst, revD_lst, ↓wMth_join, ↓wMth_index, ↓wMth_count, ↓wItm_of, ↓wItm_oft, ↓wItm_ofs, ↓wItm_enum, ↓wItm_zip, ↓wpD_some, ↓wpD_none, ↓wpF_ok', ↓wpF_exn', ↓reduceIte, List.length_nil, List.length_cons, Nat.zero_add, true_and, and_true, Int.cast_ofNat_Int, Int.natCast_zero, Int.natCast_one, Int.natCast_add, Nat.reduceAdd, Int.reduceAdd, Int.reduceSub, Int.reduceMul, Int.reduceNeg, Int.reduceEq, Int.reduceNe, Int.reduceLT, Int.reduceLE, Int.reduceGT, Int.reduceGE, List.map_cons, List.map_nil, List.take_succ_cons, List.take_zero, List.take_nil, List.drop_succ_cons, List.drop_zero, List.drop_nil, List.reduceReplicate, List.flatten_cons, List.flatten_nil, List.append_nil, sizeLine_eq, Nat.reduceMul, Nat.reduceSub, Int.reduceToNat, Int.reducePow, lenOk_le, lenLt_lt, Nat.reduceLeDiff, Nat.reduceLT, List.cons_append, List.nil_append, List.length_append, List.length_map, wipeE_nil, wipeE_cons, List.set_cons_zero, List.set_cons_succ, wSeti_lit, kindD_lst, mthT_join, mthT_split, mthT_partition, mthT_isdigit, mthT_index, mthT_count, eq_self, Bool.false_eq_true, Bool.true_eq_false, reduceIte, if_true, if_false, decide_true, decide_false, false_and, and_false, or_false, false_or, true_or, or_true, not_true_eq_false, not_false_eq_true, at0, at1, at2, at3, at4, at5, at6, at7, at8, at9, at10, at11, at12, at13, at14, at15, at16, at17, at18, at19, at20, at21, at22, at23, at24, at25, at26, at27, at28, at29, at30, at31, at32, at33, at34, at35, at36, at37, at38, at39, at40, $xs,*])
local macro_rules | `(tactic| dsimp! only [$xs,*]) => `(tactic| simp only [↓wIf_val, ↓wIf_and, ↓wIf_or, ↓wIf_not, ↓wIf_ife,
  ↓wE_var, ↓wE_con, ↓wE_bin, ↓wE_neg, ↓wE_not, ↓wE_and, ↓wE_or, ↓wE_cmp, ↓wE_chain, ↓wE_ife, ↓wE_tup, ↓wE_lst, ↓wE_idx, ↓wE_slc, ↓wE_fld, ↓wE_call, ↓wE_blt, ↓wE_mth, ↓wE_isi, ↓wE_lc, ↓wE_app, ↓wApp_lst, ↓wE_rep, ↓wE_rev, ↓wE_dic, ↓wEs_nil, ↓wEs_cons,
  ↓wGet_zero, ↓wGet_succ, ↓wSet_zero, ↓wSet_succ, ↓wBack_nil, ↓wBack_cons, ↓wBl_bl,
  ↓wBin_add, ↓wBin_sub, ↓wBin_mul, ↓wBin_fdiv, ↓wBin_mod, ↓wBin_pow10, ↓wBin_adds, ↓wBin_addl, ↓wBin_addt, ↓wCmp_lt, ↓wCmp_le, ↓wCmp_gt, ↓wCmp_ge, ↓wCmp_isn, ↓wCmp_nn, ↓wCmp_eq, ↓wCmp_ne, ↓wCmp_mem, ↓wCmp_nmem, eqD_int, eqD_bl, ↓wi_non_int, ↓wi_non_bool, ↓wi_non_str, ↓wi_non_list, ↓wi_non_tuple, ↓wi_non_dict, ↓isNon_non, ↓wi_bl_int, ↓wi_bl_bool, ↓wi_bl_str, ↓wi_bl_list, ↓wi_bl_tuple, ↓wi_bl_dict, ↓isNon_bl, ↓wi_int_int, ↓wi_int_bool, ↓wi_int_str, ↓wi_int_list, ↓wi_int_tuple, ↓wi_int_dict, ↓isNon_int, ↓wi_str_int, ↓wi_str_bool, ↓wi_str_str, ↓wi_str_list, ↓wi_str_tuple, ↓wi_str_dict, ↓isNon_str, ↓wi_tup_int, ↓wi_tup_bool, ↓wi_tup_str, ↓wi_tup_list, ↓wi_tup_tuple, ↓wi_tup_dict, ↓isNon_tup, ↓wi_lst_int, ↓wi_lst_bool, ↓wi_lst_str, ↓wi_lst_list, ↓wi_lst_tuple, ↓wi_lst_dict, ↓isNon_lst, ↓wi_dic_int, ↓wi_dic_bool, ↓wi_dic_str, ↓wi_dic_list, ↓wi_dic_tuple, ↓wi_dic_dict, ↓isNon_dic,
  ↓wTru_bl, ↓wTru_int, ↓wTru_lst, ↓wTru_tup, negD_int, notD_bl, ↓wPart_f, ↓wPart_t, ↓wBlt_len, ↓wBlt_lent, ↓wBlt_lens, ↓wBlt_abs, ↓wBlt_max, ↓wBlt_min, ↓wBlt_int, ↓wBlt_intb, ↓wBlt_list, ↓wBlt_listt, ↓wBlt_tuple, ↓wBlt_tuplet,
  ↓wIdx_lst, ↓wIdx_tup, ↓wSlc_lst, ↓wSlc_str, ↓wpD_some, ↓wpD_none, ↓wpF_ok', ↓wpF_exn', ↓reduceIte, List.length_nil, List.length_cons, Nat.zero_add, true_and, and_true,
  decide_eq_true_eq, Bool.not_eq_true', decide_eq_false_iff_not, Bool.not_true, Bool.not_false, Bool.true_and, Bool.and_true, Bool.false_and, Bool.and_false, bne_iff_ne, beq_iff_eq, beq_eq_false_iff_ne, ne_eq, Classical.not_not, ite_and_c, ite_or_c, ite_nand_c, ite_nor_c, ite_not, Int.cast_ofNat_Int, Int.natCast_zero, Int.natCast_one, Int.natCast_add, Nat.reduceAdd, Int.reduceAdd, Int.reduceSub, Int.reduceMul, Int.reduceNeg, Int.reduceEq, Int.reduceNe, Int.reduceLT, Int.reduceLE, Int.reduceGT, Int.reduceGE, List.map_cons, List.map_nil, List.take_succ_cons, List.take_zero, List.take_nil, List.drop_succ_cons, List.drop_zero, List.drop_nil, List.reduceReplicate, List.flatten_cons, List.flatten_nil, List.append_nil, sizeLine_eq, Nat.reduceMul, Nat.reduceSub, Int.reduceToNat, Int.reducePow, lenOk_le, lenLt_lt, Nat.reduceLeDiff, Nat.reduceLT, List.cons_append, List.nil_append, List.length_append, List.length_map, wipeE_nil, wipeE_cons, List.set_cons_zero, List.set_cons_succ, wSeti_lit, kindD_lst, mthT_join, mthT_split, mthT_partition, mthT_isdigit, mthT_index, mthT_count, eq_self, Bool.false_eq_true, Bool.true_eq_false, reduceIte, if_true, if_false, decide_true, decide_false, false_and, and_false, or_false, false_or, true_or, or_true, not_true_eq_false, not_false_eq_true, at0, at1, at2, at3, at4, at5, at6, at7, at8, at9, at10, at11, at12, at13, at14, at15, at16, at17, at18, at19, at20, at21, at22, at23, at24, at25, at26, at27, at28, at29, at30, at31, at32, at33, at34, at35, at36, at37, at38, at39, at40, $xs,*])
/-- is_whole [thing] -/
def c1 : List S := [
  .ret (.and (.isi (.var 0) [.int]) (.not (.isi (.var 0) [.bool])))]
def f1 : Fn := ⟨1, 1, [], true, c1⟩
/-- divisor [one, other] -/
def c2 : List S := [
  .asg (.nm 0) (.blt .abs [(.var 0)]),
  .asg (.nm 1) (.blt .abs [(.var 1)]),
  .whl (.val (.cmp .ne (.var 1) (.con (.int 0)))) [
    .par [0, 1] [(.var 1), (.bin .mod (.var 0) (.var 1))]],
  .ret (.var 0)]
def f2 : Fn := ⟨2, 2, [], true, c2⟩
/-- lowest [top, bottom] -/
def c3 : List S := [
  .asg (.nm 2) (.call 2 [(.var 0), (.var 1)] []),
  .ife (.val (.cmp .lt (.var 1) (.con (.int 0)))) [
    .asg (.nm 2) (.bin .sub (.con (.int 0)) (.var 2))] [],
  .ret (.tup [(.bin .fdiv (.var 0) (.var 2)), (.bin .fdiv (.var 1) (.var 2))])]
def f3 : Fn := ⟨2, 3, [], true, c3⟩
/-- _law_draws [cell, sizes] -/
def c5 : List S := [
  .asg (.nm 2) (.blt .max [(.var 0), (.bin .sub (.neg (.con (.int 1))) (.var 0))]),
  .asg (.nm 3) (.var 2),
  .asg (.nm 4) (.lst []),
  .loop (.nm 5) .range [(.blt .len [(.var 1)])] [
    .ife (.and (.val (.cmp .ge (.var 2) (.bin .pow (.con (.int 10)) (.con (.int 18))))) (.val (.cmp .gt (.var 3) (.con (.int 0))))) [
      .ex (.mut 4 [] .append [(.bin .mod (.var 3) (.idx (.var 1) (.var 5)))]),
      .asg (.nm 3) (.bin .fdiv (.var 3) (.idx (.var 1) (.var 5)))] [
      .asg (.nm 6) (.bin .mod (.bin .mul (.bin .add (.bin .add (.bin .add (.bin .mod (.var 2) (.con (.int 2147483647))) (.bin .mul (.bin .mul (.con (.int 1009)) (.var 5)) (.var 5))) (.bin .mul (.con (.int 31)) (.var 5))) (.con (.int 7))) (.con (.int 48271))) (.con (.int 2147483629))),
      .asg (.nm 6) (.bin .mod (.bin .mul (.bin .add (.bin .mod (.bin .mul (.var 6) (.var 6)) (.con (.int 2147483647))) (.var 5)) (.con (.int 39373))) (.con (.int 2147483587))),
      .ex (.mut 4 [] .append [(.bin .mod (.bin .fdiv (.var 6) (.con (.int 8))) (.idx (.var 1) (.var 5)))])]],
  .ret (.var 4)]
def f5 : Fn := ⟨2, 7, [], false, c5⟩
/-- _law_whole [thing] -/
def c6 : List S := [
  .ret (.and (.isi (.var 0) [.int]) (.not (.isi (.var 0) [.bool])))]
def f6 : Fn := ⟨1, 1, [], true, c6⟩
/-- _law_divisor [one, other] -/
def c7 : List S := [
  .whl (.val (.cmp .ne (.var 1) (.con (.int 0)))) [
    .par [0, 1] [(.var 1), (.bin .mod (.var 0) (.var 1))]],
  .ret (.blt .abs [(.var 0)])]
def f7 : Fn := ⟨2, 2, [], true, c7⟩
/-- plus [one, other] -/
def c11 : List S := [
  .ret (.call 3 [(.bin .add (.bin .mul (.idx (.var 0) (.con (.int 0))) (.idx (.var 1) (.con (.int 1)))) (.bin .mul (.idx (.var 1) (.con (.int 0))) (.idx (.var 0) (.con (.int 1))))), (.bin .mul (.idx (.var 0) (.con (.int 1))) (.idx (.var 1) (.con (.int 1))))] [])]
def f11 : Fn := ⟨2, 2, [], true, c11⟩
/-- _law_lowest [top, bottom] -/
def c15 : List S := [
  .asg (.nm 2) (.call 7 [(.var 0), (.var 1)] []),
  .ret (.tup [(.bin .fdiv (.var 0) (.var 2)), (.bin .fdiv (.var 1) (.var 2))])]
def f15 : Fn := ⟨2, 3, [], true, c15⟩
/-- is_less [one, other] -/
def c22 : List S := [
  .ret (.cmp .lt (.bin .mul (.idx (.var 0) (.con (.int 0))) (.idx (.var 1) (.con (.int 1)))) (.bin .mul (.idx (.var 1) (.con (.int 0))) (.idx (.var 0) (.con (.int 1)))))]
def f22 : Fn := ⟨2, 2, [], true, c22⟩
/-- least_of [some] -/
def c23 : List S := [
  .asg (.nm 1) (.idx (.var 0) (.con (.int 0))),
  .loop (.nm 2) .of [(.var 0)] [
    .ife (.val (.call 22 [(.var 2), (.var 1)] [])) [
      .asg (.nm 1) (.var 2)] []],
  .ret (.var 1)]
def f23 : Fn := ⟨1, 3, [], true, c23⟩
/-- most_of [some] -/
def c24 : List S := [
  .asg (.nm 1) (.idx (.var 0) (.con (.int 0))),
  .loop (.nm 2) .of [(.var 0)] [
    .ife (.val (.call 22 [(.var 1), (.var 2)] [])) [
      .asg (.nm 1) (.var 2)] []],
  .ret (.var 1)]
def f24 : Fn := ⟨1, 3, [], true, c24⟩
/-- sum_of [some] -/
def c25 : List S := [
  .asg (.nm 1) (.con (.tup [(.int 0), (.int 1)])),
  .loop (.nm 2) .of [(.var 0)] [
    .asg (.nm 1) (.call 11 [(.var 1), (.var 2)] [])],
  .ret (.var 1)]
def f25 : Fn := ⟨1, 3, [], true, c25⟩
/-- _law_is_ratio [thing] -/
def c26 : List S := [
  .ife (.or (.not (.val (.isi (.var 0) [.tuple]))) (.val (.cmp .ne (.blt .len [(.var 0)]) (.con (.int 2))))) [
    .ret (.con (.bl false))] [],
  .ife (.or (.not (.val (.call 6 [(.idx (.var 0) (.con (.int 0)))] []))) (.or (.not (.val (.call 6 [(.idx (.var 0) (.con (.int 1)))] []))) (.val (.cmp .lt (.idx (.var 0) (.con (.int 1))) (.con (.int 1)))))) [
    .ret (.con (.bl false))] [],
  .ret (.cmp .eq (.call 7 [(.idx (.var 0) (.con (.int 0))), (.idx (.var 0) (.con (.int 1)))] []) (.con (.int 1)))]
def f26 : Fn := ⟨1, 1, [], true, c26⟩
/-- is_ratio [thing] -/
def c34 : List S := [
  .ife (.or (.not (.val (.isi (.var 0) [.tuple]))) (.val (.cmp .ne (.blt .len [(.var 0)]) (.con (.int 2))))) [
    .ret (.con (.bl false))] [],
  .ife (.or (.not (.val (.call 1 [(.idx (.var 0) (.con (.int 0)))] []))) (.or (.not (.val (.call 1 [(.idx (.var 0) (.con (.int 1)))] []))) (.val (.cmp .lt (.idx (.var 0) (.con (.int 1))) (.con (.int 1)))))) [
    .ret (.con (.bl false))] [],
  .ret (.cmp .eq (.call 2 [(.idx (.var 0) (.con (.int 0))), (.idx (.var 0) (.con (.int 1)))] []) (.con (.int 1)))]
def f34 : Fn := ⟨1, 1, [], true, c34⟩
/-- is_name [thing] -/
def c35 : List S := [
  .ife (.or (.not (.val (.isi (.var 0) [.str]))) (.not (.val (.chain .le .le (.con (.int 1)) (.blt .len [(.var 0)]) (.con (.int 8)))))) [
    .ret (.con (.bl false))] [],
  .loop (.nm 1) .of [(.var 0)] [
    .ife (.val (.cmp .nmem (.var 1) (.con (.str "abcdefghijklmnopqrstuvwxyz")))) [
      .ret (.con (.bl false))] []],
  .ret (.con (.bl true))]
def f35 : Fn := ⟨1, 2, [], true, c35⟩
/-- _law_is_name [thing] -/
def c36 : List S := [
  .ife (.or (.not (.val (.isi (.var 0) [.str]))) (.or (.val (.cmp .lt (.blt .len [(.var 0)]) (.con (.int 1)))) (.val (.cmp .gt (.blt .len [(.var 0)]) (.con (.int 8)))))) [
    .ret (.con (.bl false))] [],
  .loop (.nm 1) .of [(.var 0)] [
    .ife (.val (.cmp .nmem (.var 1) (.con (.str "abcdefghijklmnopqrstuvwxyz")))) [
      .ret (.con (.bl false))] []],
  .ret (.con (.bl true))]
def f36 : Fn := ⟨1, 2, [], true, c36⟩
/-- is_length [thing] -/
def c44 : List S := [
  .ret (.and (.call 34 [(.var 0)] []) (.cmp .ge (.idx (.var 0) (.con (.int 0))) (.con (.int 0))))]
def f44 : Fn := ⟨1, 1, [], true, c44⟩
/-- is_worth [thing] -/
def c45 : List S := [
  .ret (.or (.cmp .isn (.var 0) (.con .non)) (.and (.call 34 [(.var 0)] []) (.cmp .gt (.idx (.var 0) (.con (.int 0))) (.con (.int 0)))))]
def f45 : Fn := ⟨1, 1, [], true, c45⟩
/-- is_tie [thing] -/
def c46 : List S := [
  .ife (.or (.not (.val (.isi (.var 0) [.tuple]))) (.val (.cmp .ne (.blt .len [(.var 0)]) (.con (.int 5))))) [
    .ret (.con (.bl false))] [],
  .asg (.tp [(.nm 1), (.nm 2), (.nm 3), (.nm 4), (.nm 5)]) (.var 0),
  .ife (.or (.not (.val (.call 35 [(.var 1)] []))) (.or (.not (.val (.call 35 [(.var 2)] []))) (.val (.cmp .eq (.var 1) (.var 2))))) [
    .ret (.con (.bl false))] [],
  .ife (.or (.not (.val (.isi (.var 3) [.str]))) (.val (.cmp .nmem (.var 3) (.tup [(.con (.str "one")), (.con (.str "both"))])))) [
    .ret (.con (.bl false))] [],
  .ret (.and (.call 44 [(.var 4)] []) (.call 45 [(.var 5)] []))]
def f46 : Fn := ⟨1, 6, [], true, c46⟩
/-- _law_is_tie [thing] -/
def c47 : List S := [
  .ife (.or (.not (.val (.isi (.var 0) [.tuple]))) (.val (.cmp .ne (.blt .len [(.var 0)]) (.con (.int 5))))) [
    .ret (.con (.bl false))] [],
  .ife (.or (.not (.val (.call 36 [(.idx (.var 0) (.con (.int 0)))] []))) (.or (.not (.val (.call 36 [(.idx (.var 0) (.con (.int 1)))] []))) (.val (.cmp .eq (.idx (.var 0) (.con (.int 0))) (.idx (.var 0) (.con (.int 1))))))) [
    .ret (.con (.bl false))] [],
  .ife (.or (.not (.val (.isi (.idx (.var 0) (.con (.int 2))) [.str]))) (.and (.val (.cmp .ne (.idx (.var 0) (.con (.int 2))) (.con (.str "one")))) (.val (.cmp .ne (.idx (.var 0) (.con (.int 2))) (.con (.str "both")))))) [
    .ret (.con (.bl false))] [],
  .ife (.or (.not (.val (.call 26 [(.idx (.var 0) (.con (.int 3)))] []))) (.val (.cmp .lt (.idx (.idx (.var 0) (.con (.int 3))) (.con (.int 0))) (.con (.int 0))))) [
    .ret (.con (.bl false))] [],
  .ret (.or (.cmp .isn (.idx (.var 0) (.con (.int 4))) (.con .non)) (.and (.call 26 [(.idx (.var 0) (.con (.int 4)))] []) (.cmp .gt (.idx (.idx (.var 0) (.con (.int 4))) (.con (.int 0))) (.con (.int 0)))))]
def f47 : Fn := ⟨1, 1, [], true, c47⟩
/-- _law_sign [kind] -/
def c37 : List S := [
  .asg (.nm 1) (.con (.str " !\"#$&'()*+,-./0123456789:;<=>?@ABCDEFGHIJKLMNOPQRSTUVWXYZ[\\]^_`{|}~\n\t")),
  .ret (.idx (.bin .add (.var 1) (.con (.str "abcdefghijklmnopqrstuvwxyz"))) (.var 0))]
def f37 : Fn := ⟨1, 2, [], true, c37⟩
def tabA : List (Nat × Fn) := [(1, f1), (2, f2), (3, f3), (5, f5), (6, f6), (7, f7), (11, f11), (15, f15), (22, f22), (23, f23), (24, f24), (25, f25), (26, f26), (34, f34), (35, f35), (36, f36), (37, f37), (44, f44), (45, f45), (46, f46), (47, f47)]
def regA : Nat → Option Fn := fun i => tabA.lookup i
/-- CutError is 0; all others stand straight under it -/
def supG (a b : Nat) : Bool := a == b || b == 0
@[irreducible] def fuelG : Nat := 2 ^ 9001
abbrev LA (n : Nat) : Nat → List D → FRes := callN regA supG fuelG n
theorem fuel_ok {b : Int} (h : Nb 9000 b) : b.natAbs < fuelG := by
  unfold fuelG
  exact Nat.lt_of_lt_of_le h (Nat.pow_le_pow_right (by omega) (by omega))
theorem suc {m : Nat} (h : 1 ≤ m) : ∃ n, m = n + 1 := ⟨m - 1, by omega⟩
/-! ### kinds -/
theorem isi_eq {sup : Nat → Nat → Bool} {d : D} {t : Ty} {Q : KD} (h : dPlain d = true) (ht : tyPlain t = true) : wIsi sup d [t] = Q.f (.bl (isiT sup d t)) := by
  unfold wIsi isiD
  simp [h, ht, wpD]
def isWh : D → Bool
  | .int _ => true
  | _ => false
theorem isWh_ex {d : D} (h : isWh d = true) : ∃ a, d = .int a := by
  cases d <;> first | exact ⟨_, rfl⟩ | exact Bool.noConfusion h
theorem c_is_whole {m : Nat} {d : D} (h : dPlain d = true) (hm : 1 ≤ m) : LA m 1 [d] = .ok (.bl (isWh d)) [] := by
  obtain ⟨n, rfl⟩ := suc hm
  refine wF_eq (wF_go f1 c1 [some d] rfl rfl rfl rfl ?_)
  unfold c1 f1
  cases d <;> first | exact Bool.noConfusion h | (simp! only []; exact ⟨rfl, rfl⟩)
theorem c_lwhole {m : Nat} {d : D} (h : dPlain d = true) (hm : 1 ≤ m) : LA m 6 [d] = .ok (.bl (isWh d)) [] := by
  obtain ⟨n, rfl⟩ := suc hm
  refine wF_eq (wF_go f6 c6 [some d] rfl rfl rfl rfl ?_)
  unfold c6 f6
  cases d <;> first | exact Bool.noConfusion h | (simp! only []; exact ⟨rfl, rfl⟩)
/-! ### Euclid -/
theorem w_gcd {Γ : Gam} {a b : Int} {N : KE} {R X : KQ} (hb : 0 ≤ b) (hf : b.natAbs < Γ.fuel) (h : ∀ g : Int, g.natAbs = Int.gcd a b → (0 ≤ a → 0 ≤ g) → N.f [some (.int g), some (.int 0)]) :
    @wWhl Γ gC gB Γ.fuel [some (.int a), some (.int b)] N R X := by
  obtain ⟨g, h1, h2, h3⟩ := gcd_loop Γ Γ.fuel a b hb hf
  show wpS (whlL (evT Γ gC) (exSs Γ gB) Γ.fuel _) N.f R.f X.f
  rw [h3]
  exact h g h1 h2
theorem c_divisor {m : Nat} {a b : Int} (hb : Nb 9000 b) (hm : 1 ≤ m) : LA m 2 [.int a, .int b] = .ok (.int (Int.gcd a b)) [] := by
  obtain ⟨n, rfl⟩ := suc hm
  refine wF_eq (wF_go f2 c2 [some (.int a), some (.int b)] rfl rfl rfl rfl ?_)
  unfold c2 f2
  simp! only []
  refine w_gcd (by omega) (fuel_ok (by unfold Nb at *; omega)) fun g h1 h2 => ?_
  simp! only []
  refine ⟨rfl, ?_⟩
  have := h2 (by omega)
  have : g = (Int.gcd a b : Int) := by
    rw [show Int.gcd (a.natAbs : Int) (b.natAbs : Int) = Int.gcd a b from rfl] at h1
    omega
  rw [this]
theorem c_ldivisor {m : Nat} {a b : Int} (h0 : 0 ≤ b) (hb : Nb 9000 b) (hm : 1 ≤ m) : LA m 7 [.int a, .int b] = .ok (.int (Int.gcd a b)) [] := by
  obtain ⟨n, rfl⟩ := suc hm
  refine wF_eq (wF_go f7 c7 [some (.int a), some (.int b)] rfl rfl rfl rfl ?_)
  unfold c7 f7
  simp! only []
  refine w_gcd h0 (fuel_ok hb) fun g h1 h2 => ?_
  simp! only []
  exact ⟨rfl, by rw [h1]⟩
/-! ### fractions -/
theorem Nb.div {k : Nat} {b : Int} (h : b ≠ 0) (hb : Nb k b) (hk : k ≤ 9000) : divOk b = true := divOk_of h hb hk
theorem Nb.gcd {k : Nat} {t b : Int} (h0 : 0 < b) (hb : Nb k b) : Nb k (Int.gcd t b : Int) := gcd_small h0 hb
theorem c_lowest {m : Nat} {t b : Int} (h0 : 0 < b) (hb : Nb 9000 b) (hm : 2 ≤ m) : LA m 3 [.int t, .int b] = .ok (frD (low t b)) [] := by
  obtain ⟨n, rfl⟩ := suc (m := m) (by omega)
  refine wF_eq (wF_go f3 c3 [some (.int t), some (.int b), none] rfl rfl rfl rfl ?_)
  unfold c3 f3
  simp! only [c_divisor hb (show 1 ≤ n by omega)]
  dsimp! only []
  rw [if_neg (by omega)]
  simp! only []
  have hg := gcd_pos (t := t) h0
  have hd : divOk (Int.gcd t b : Int) = true := (hb.gcd h0).div (by omega) (Nat.le_refl _)
  refine ⟨hd, hd, rfl, ?_⟩
  rw [low_eq]
  rfl
theorem c_llowest {m : Nat} {t b : Int} (h0 : 0 < b) (hb : Nb 9000 b) (hm : 2 ≤ m) : LA m 15 [.int t, .int b] = .ok (frD (low t b)) [] := by
  obtain ⟨n, rfl⟩ := suc (m := m) (by omega)
  refine wF_eq (wF_go f15 c15 [some (.int t), some (.int b), none] rfl rfl rfl rfl ?_)
  unfold c15 f15
  simp! only [c_ldivisor (Int.le_of_lt h0) hb (show 1 ≤ n by omega)]
  have hg := gcd_pos (t := t) h0
  have hd : divOk (Int.gcd t b : Int) = true := (hb.gcd h0).div (by omega) (Nat.le_refl _)
  refine ⟨hd, hd, rfl, ?_⟩
  rw [low_eq]
  rfl
/-! ### things within bounds -/
mutual
def Fine : D → Prop
  | .non => True | .bl _ => True | .int i => Nb 9000 i | .str s => PyData.strOk s = true ∧ s.length ≤ 1000
  | .tup ds => Fines ds | .lst ds => Fines ds | .dic _ ds => Fines ds
  | .exc _ _ _ => False | .obj _ _ _ => False
def Fines : List D → Prop
  | [] => True
  | d :: ds => Fine d ∧ Fines ds
end
theorem Fine.plain {d : D} (h : Fine d) : dPlain d = true := by
  cases d <;> first | rfl | exact h.elim
theorem Fines.mem : ∀ {ds : List D} {d : D}, Fines ds → d ∈ ds → Fine d
  | [], _, _, h => absurd h (by simp)
  | e :: ds, d, f, h => by
    rcases List.mem_cons.mp h with rfl | h
    · exact f.1
    · exact Fines.mem f.2 h
theorem Fines.of : ∀ {ds : List D}, (∀ d ∈ ds, Fine d) → Fines ds
  | [], _ => trivial
  | e :: ds, h => ⟨h e (by simp), Fines.of fun d hd => h d (by simp [hd])⟩
/-! ### a fraction -/
def isRat : D → Bool
  | .tup [.int a, .int b] => decide (1 ≤ b) && decide (Int.gcd a b = 1)
  | _ => false
theorem rat_of {a b : Int} : isRat (.tup [.int a, .int b]) = (decide (1 ≤ b) && decide (Int.gcd a b = 1)) := rfl
theorem rat_not {d : D} (h : ∀ a b : Int, d ≠ .tup [.int a, .int b]) : isRat d = false := by
  unfold isRat
  split
  · rename_i a b
    exact absurd rfl (h a b)
  · rfl
/-- what is_ratio and the law's is_ratio come to: the code but for the numbers of what is called -/
def cRat (w g : Nat) : List S := [
  .ife (.or (.not (.val (.isi (.var 0) [.tuple]))) (.val (.cmp .ne (.blt .len [(.var 0)]) (.con (.int 2))))) [
    .ret (.con (.bl false))] [],
  .ife (.or (.not (.val (.call w [(.idx (.var 0) (.con (.int 0)))] []))) (.or (.not (.val (.call w [(.idx (.var 0) (.con (.int 1)))] []))) (.val (.cmp .lt (.idx (.var 0) (.con (.int 1))) (.con (.int 1)))))) [
    .ret (.con (.bl false))] [],
  .ret (.cmp .eq (.call g [(.idx (.var 0) (.con (.int 0))), (.idx (.var 0) (.con (.int 1)))] []) (.con (.int 1)))]
theorem w_rat {Γ : Gam} {w g : Nat} {d : D} {N : KE} {R X : KQ} (h : Fine d) (hw : ∀ d, Fine d → Γ.call w [d] = .ok (.bl (isWh d)) []) (hg : ∀ a b : Int, 0 ≤ b → Nb 9000 b → Γ.call g [.int a, .int b] = .ok (.int (Int.gcd a b)) [])
    (hq : R.f (.bl (isRat d)) [some d]) : @wSs Γ (cRat w g) [some d] N R X := by
  unfold cRat
  simp! only []
  cases d with
  | tup ds =>
    match ds, h with
    | [], _ => dsimp! only []; simp! only []; exact hq
    | [x], _ =>
      rw [rat_not (by intro a b e; cases e)] at hq
      dsimp! only []; simp! only []; exact hq
    | x :: y :: z :: u, _ =>
      rw [rat_not (by intro a b e; cases e)] at hq
      dsimp! only []
      rw [if_neg (by omega)]
      simp! only []
      exact hq
    | [x, y], ⟨hx, hy, _⟩ =>
      dsimp! only []
      simp! only []
      dsimp! only [hw x hx, hw y hy]
      split
      · rename_i hxy
        obtain ⟨a, rfl⟩ := isWh_ex hxy.1
        obtain ⟨b, rfl⟩ := isWh_ex hxy.2
        rw [rat_of] at hq
        dsimp! only []
        by_cases hb : b < 1
        · rw [if_pos hb]
          simp! only []
          rw [decide_eq_false (by omega)] at hq
          exact hq
        · rw [if_neg hb]
          simp! only [hg a b (by omega) hy]
          rw [decide_eq_true (show 1 ≤ b by omega)] at hq
          have e : (((Int.gcd a b : Nat) : Int) == 1) = decide (Int.gcd a b = 1) := by
            by_cases q : Int.gcd a b = 1
            · rw [q]; rfl
            · rw [decide_eq_false q]
              exact beq_eq_false_iff_ne.mpr (by omega)
          rw [e]
          exact hq
      · rename_i hxy
        rw [rat_not (by rintro a b e; cases e; exact hxy ⟨rfl, rfl⟩)] at hq
        simp! only []
        exact hq
  | exc => exact h.elim
  | obj => exact h.elim
  | _ => dsimp! only []; simp! only []; exact hq
theorem c_is_ratio {m : Nat} {d : D} (h : Fine d) (hm : 2 ≤ m) : LA m 34 [d] = .ok (.bl (isRat d)) [] := by
  obtain ⟨n, rfl⟩ := suc (m := m) (by omega)
  exact wF_eq (wF_go f34 c34 [some d] rfl rfl rfl rfl (w_rat (w := 1) (g := 2) h (fun d hd => c_is_whole hd.plain (by omega)) (fun a b _ hb => c_divisor hb (by omega)) ⟨fun _ => rfl, rfl, rfl⟩))
theorem c_lratio {m : Nat} {d : D} (h : Fine d) (hm : 2 ≤ m) : LA m 26 [d] = .ok (.bl (isRat d)) [] := by
  obtain ⟨n, rfl⟩ := suc (m := m) (by omega)
  exact wF_eq (wF_go f26 c26 [some d] rfl rfl rfl rfl (w_rat (w := 6) (g := 7) h (fun d hd => c_lwhole hd.plain (by omega)) (fun a b h0 hb => c_ldivisor h0 hb (by omega)) ⟨fun _ => rfl, rfl, rfl⟩))
/-! ### a name -/
def isLow (c : Nat) : Bool := decide (97 ≤ c ∧ c ≤ 122)
def isNam : D → Bool
  | .str s => decide (1 ≤ s.length ∧ s.length ≤ 8) && s.cps.toList.all isLow
  | _ => false
theorem nam_str {s : Str} : isNam (.str s) = (decide (1 ≤ s.length ∧ s.length ≤ 8) && s.cps.toList.all isLow) := rfl
def abc : Str := "abcdefghijklmnopqrstuvwxyz"
theorem in_abc (c : Nat) : decide (c ∈ abc.cps.toList) = isLow c := by
  have e : abc.cps.toList = (List.range 26).map (· + 97) := by decide
  rw [e]
  unfold isLow
  apply decide_eq_decide.mpr
  simp only [List.mem_map, List.mem_range]
  constructor
  · rintro ⟨a, h, rfl⟩; omega
  · intro h; exact ⟨c - 97, by omega, by omega⟩
theorem w_signs {Γ : Gam} {v : D} {N : KE} {R X : KQ} : ∀ (cs : List Nat) (o : Option D), (cs.all isLow = true → ∀ o', N.f [some v, o']) → (cs.all isLow = false → ∀ o', R.f (.bl false) [some v, o']) →
    @wFor Γ (.nm 1) [.ife (.val (.cmp .nmem (.var 1) (.con (.str abc)))) [.ret (.con (.bl false))] []] (cs.map fun c => .str ⟨#[c]⟩) [some v, o] N R X
  | [], o, h, _ => h rfl o
  | c :: cs, o, h, h2 => by
    rw [List.map_cons, wFor_cons]
    simp! only []
    dsimp! only [memD_sign, in_abc]
    cases hc : isLow c with
    | true =>
      simp! only []
      exact w_signs cs _ (fun q => h (by simp [hc, q])) (fun q => h2 (by simp [hc, q]))
    | false =>
      dsimp! only []
      simp! only []
      exact h2 (by simp [hc]) _
theorem c_is_name {m : Nat} {d : D} (h : Fine d) (hm : 1 ≤ m) : LA m 35 [d] = .ok (.bl (isNam d)) [] := by
  obtain ⟨n, rfl⟩ := suc (m := m) (by omega)
  refine wF_eq (wF_go f35 c35 [some d, none] rfl rfl rfl rfl ?_)
  unfold c35 f35
  simp! only []
  cases d with
  | str s =>
    dsimp! only []
    refine ⟨by have := h.2; omega, ?_⟩
    split
    · rename_i hl
      simp! only []
      refine w_signs s.cps.toList none (fun hc o => ?_) fun hc o => ?_
      · simp! only []
        exact ⟨rfl, by rw [nam_str, hc, decide_eq_true (by omega)]; rfl⟩
      · exact ⟨fun _ => rfl, by rw [nam_str, hc, Bool.and_false], rfl⟩
    · rename_i hl
      simp! only []
      exact ⟨rfl, by rw [nam_str, decide_eq_false (by omega)]; rfl⟩
  | exc => exact h.elim
  | obj => exact h.elim
  | _ => dsimp! only []; simp! only []; exact ⟨rfl, rfl⟩
theorem c_lname {m : Nat} {d : D} (h : Fine d) (hm : 1 ≤ m) : LA m 36 [d] = .ok (.bl (isNam d)) [] := by
  obtain ⟨n, rfl⟩ := suc (m := m) (by omega)
  refine wF_eq (wF_go f36 c36 [some d, none] rfl rfl rfl rfl ?_)
  unfold c36 f36
  simp! only []
  cases d with
  | str s =>
    have hk : s.length ≤ 16777216 := by have := h.2; omega
    dsimp! only [hk]
    split
    · rename_i hl
      simp! only []
      exact ⟨rfl, by rw [nam_str, decide_eq_false (by omega)]; rfl⟩
    · rename_i hl
      simp! only []
      refine w_signs s.cps.toList none (fun hc o => ?_) fun hc o => ?_
      · simp! only []
        exact ⟨rfl, by rw [nam_str, hc, decide_eq_true (by omega)]; rfl⟩
      · exact ⟨fun _ => rfl, by rw [nam_str, hc, Bool.and_false], rfl⟩
  | exc => exact h.elim
  | obj => exact h.elim
  | _ => dsimp! only []; simp! only []; exact ⟨rfl, rfl⟩
/-! ### lengths, worths, ties -/
def topOf : D → Int
  | .tup (.int a :: _) => a
  | _ => 0
def isLen (d : D) : Bool := isRat d && decide (0 ≤ topOf d)
def isWor (d : D) : Bool := isNonD d || (isRat d && decide (0 < topOf d))
theorem rat_ex {d : D} (h : isRat d = true) : ∃ a b : Int, d = .tup [.int a, .int b] ∧ 1 ≤ b ∧ Int.gcd a b = 1 := by
  unfold isRat at h
  split at h
  · rename_i a b
    simp only [Bool.and_eq_true, decide_eq_true_eq] at h
    exact ⟨a, b, rfl, h.1, h.2⟩
  · cases h
theorem c_is_length {m : Nat} {d : D} (h : Fine d) (hm : 3 ≤ m) : LA m 44 [d] = .ok (.bl (isLen d)) [] := by
  obtain ⟨n, rfl⟩ := suc (m := m) (by omega)
  refine wF_eq (wF_go f44 c44 [some d] rfl rfl rfl rfl ?_)
  unfold c44 f44
  simp! only [c_is_ratio h (show 2 ≤ n by omega)]
  cases hr : isRat d with
  | false =>
    simp! only []
    exact ⟨rfl, by unfold isLen; rw [hr]; rfl⟩
  | true =>
    obtain ⟨a, b, rfl, _⟩ := rat_ex hr
    simp! only []
    exact ⟨rfl, by unfold isLen; rw [hr]; rfl⟩
theorem c_is_worth {m : Nat} {d : D} (h : Fine d) (hm : 3 ≤ m) : LA m 45 [d] = .ok (.bl (isWor d)) [] := by
  obtain ⟨n, rfl⟩ := suc (m := m) (by omega)
  refine wF_eq (wF_go f45 c45 [some d] rfl rfl rfl rfl ?_)
  unfold c45 f45
  simp! only [c_is_ratio h (show 2 ≤ n by omega)]
  cases hn : isNonD d with
  | true =>
    simp! only []
    exact ⟨rfl, by unfold isWor; rw [hn]; rfl⟩
  | false =>
    cases hr : isRat d with
    | false =>
      simp! only []
      exact ⟨rfl, by unfold isWor; rw [hr, hn]; rfl⟩
    | true =>
      obtain ⟨a, b, rfl, _⟩ := rat_ex hr
      simp! only []
      exact ⟨rfl, by unfold isWor; rw [hr, hn]; rfl⟩
theorem isNam_ex {d : D} (h : isNam d = true) : ∃ s : Str, d = .str s ∧ 1 ≤ s.length ∧ s.length ≤ 8 ∧ s.cps.toList.all isLow = true := by
  cases d with
  | str s =>
    rw [nam_str, Bool.and_eq_true, decide_eq_true_eq] at h
    exact ⟨s, rfl, h.1.1, h.1.2, h.2⟩
  | _ => cases h
def isWrd : D → Bool
  | .str s => s == "one" || s == "both"
  | _ => false
def isTie : D → Bool
  | .tup [a, b, w, l, v] => isNam a && isNam b && !(eqF a b) && isWrd w && isLen l && isWor v
  | _ => false
theorem tie_not {d : D} (h : ∀ a b w l v, d ≠ .tup [a, b, w, l, v]) : isTie d = false := by
  unfold isTie
  split
  · rename_i a b w l v
    exact absurd rfl (h a b w l v)
  · rfl
theorem eq_nam {a b : D} (ha : Fine a) (hb : Fine b) (h1 : isNam a = true) (h2 : isNam b = true) : eqD a b = some (eqF a b) := by
  obtain ⟨s, rfl, _⟩ := isNam_ex h1
  obtain ⟨t, rfl, _⟩ := isNam_ex h2
  exact eqD_str s t ha.1 hb.1
theorem str_comm (p q : Str) : (p == q) = (q == p) := by
  rw [Bool.eq_iff_iff, beq_iff_eq, beq_iff_eq]
  exact eq_comm
theorem mem_two (s p q : Str) : memD (.str s) (.tup [.str p, .str q]) = some (s == p || s == q) := by
  show some ((p == s) || ((q == s) || false)) = _
  rw [Bool.or_false, str_comm p, str_comm q]
theorem c_is_tie {m : Nat} {d : D} (h : Fine d) (hm : 4 ≤ m) : LA m 46 [d] = .ok (.bl (isTie d)) [] := by
  obtain ⟨n, rfl⟩ := suc (m := m) (by omega)
  refine wF_eq (wF_go f46 c46 [some d, none, none, none, none, none] rfl rfl rfl rfl ?_)
  unfold c46 f46
  simp! only []
  cases d with
  | tup ds =>
    dsimp! only []
    split
    · rename_i hl
      match ds, hl, h with
      | [a, b, w, l, v], _, ⟨ha, hb, hw, hl, hv, _⟩ =>
        simp! only []
        dsimp! only [c_is_name ha (show 1 ≤ n by omega), c_is_name hb (show 1 ≤ n by omega)]
        have e : isTie (.tup [a, b, w, l, v]) = (isNam a && isNam b && !(eqF a b) && isWrd w && isLen l && isWor v) := rfl
        split
        · rename_i hn
          dsimp! only [eq_nam ha hb hn.1 hn.2]
          rw [hn.1, hn.2] at e
          split
          · rename_i hq
            simp! only []
            rw [e, hq]
            exact ⟨rfl, rfl⟩
          · rename_i hq
            have hq : eqF a b = false := by simpa using hq
            rw [hq] at e
            simp! only []
            cases w with
            | str w =>
              dsimp! only [mem_two]
              rw [e, show isWrd (.str w) = (w == "one" || w == "both") from rfl]
              cases hw2 : (w == "one" || w == "both") with
              | true =>
                simp! only [c_is_length hl (show 3 ≤ n by omega), c_is_worth hv (show 3 ≤ n by omega)]
                cases isLen l with
                | true => simp! only []; exact ⟨rfl, congrArg D.bl (by simp)⟩
                | false => simp! only []; exact ⟨rfl, congrArg D.bl (by simp)⟩
              | false =>
                simp! only []
                exact ⟨rfl, congrArg D.bl (by simp)⟩
            | exc => exact hw.elim
            | obj => exact hw.elim
            | _ => dsimp! only []; simp! only []; exact ⟨rfl, by rw [e]; rfl⟩
        · rename_i hn
          simp! only []
          refine ⟨rfl, ?_⟩
          rw [e]
          have : (isNam a && isNam b) = false := by
            cases h1 : isNam a <;> cases h2 : isNam b <;> first | rfl | exact absurd ⟨h1, h2⟩ hn
          rw [this]
          rfl
    · simp! only []
      exact ⟨rfl, by rw [tie_not]; rintro a b w l v e; cases e; rename_i hl; exact hl rfl⟩
  | exc => exact h.elim
  | obj => exact h.elim
  | _ => dsimp! only []; simp! only []; exact ⟨rfl, rfl⟩
theorem c_ltie {m : Nat} {d : D} (h : Fine d) (hm : 3 ≤ m) : LA m 47 [d] = .ok (.bl (isTie d)) [] := by
  obtain ⟨n, rfl⟩ := suc (m := m) (by omega)
  refine wF_eq (wF_go f47 c47 [some d] rfl rfl rfl rfl ?_)
  unfold c47 f47
  simp! only []
  cases d with
  | tup ds =>
    dsimp! only []
    split
    · rename_i hl
      match ds, hl, h with
      | [a, b, w, l, v], _, ⟨ha, hb, hw, hl, hv, _⟩ =>
        simp! only []
        dsimp! only [c_lname ha (show 1 ≤ n by omega), c_lname hb (show 1 ≤ n by omega)]
        have e : isTie (.tup [a, b, w, l, v]) = (isNam a && isNam b && !(eqF a b) && isWrd w && isLen l && isWor v) := rfl
        split
        · rename_i hn
          dsimp! only [eq_nam ha hb hn.1 hn.2]
          rw [hn.1, hn.2] at e
          split
          · rename_i hq
            simp! only []
            rw [e, hq]
            exact ⟨rfl, rfl⟩
          · rename_i hq
            have hq : eqF a b = false := by simpa using hq
            rw [hq] at e
            simp! only []
            cases w with
            | str w =>
              dsimp! only [eqD_str w "one" hw.1 (by decide +kernel), eqD_str w "both" hw.1 (by decide +kernel)]
              have e2 : isWrd (.str w) = (w == "one" || w == "both") := rfl
              split
              · rename_i hw2
                have hw3 : isWrd (.str w) = true := by
                  rw [e2, Bool.or_eq_true, beq_iff_eq, beq_iff_eq]
                  exact hw2
                rw [hw3] at e
                simp! only []
                dsimp! only [c_lratio hl (show 2 ≤ n by omega)]
                cases hr : isRat l with
                | false =>
                  simp! only []
                  exact ⟨rfl, by rw [e, show isLen l = false by unfold isLen; rw [hr]; rfl]; rfl⟩
                | true =>
                  obtain ⟨p, q, rfl, _⟩ := rat_ex hr
                  dsimp! only []
                  have e3 : isLen (.tup [.int p, .int q]) = decide (0 ≤ p) := by
                    unfold isLen
                    rw [hr]
                    rfl
                  rw [e3] at e
                  split
                  · rename_i hp
                    simp! only []
                    exact ⟨rfl, by rw [e, decide_eq_false (by omega)]; rfl⟩
                  · rename_i hp
                    rw [decide_eq_true (by omega)] at e
                    simp! only [c_lratio hv (show 2 ≤ n by omega)]
                    cases hn : isNonD v with
                    | true =>
                      simp! only []
                      exact ⟨rfl, by rw [e]; unfold isWor; rw [hn]; rfl⟩
                    | false =>
                      cases hr2 : isRat v with
                      | false =>
                        simp! only []
                        exact ⟨rfl, by rw [e]; unfold isWor; rw [hr2, hn]; rfl⟩
                      | true =>
                        obtain ⟨p2, q2, rfl, _⟩ := rat_ex hr2
                        simp! only []
                        exact ⟨rfl, by rw [e]; unfold isWor; rw [hr2, hn]; rfl⟩
              · rename_i hw2
                have hw3 : isWrd (.str w) = false := by
                  rw [e2]
                  cases q : (w == "one" || w == "both") with
                  | false => rfl
                  | true =>
                    rw [Bool.or_eq_true, beq_iff_eq, beq_iff_eq] at q
                    exact absurd q hw2
                rw [hw3] at e
                simp! only []
                exact ⟨rfl, by rw [e]; rfl⟩
            | exc => exact hw.elim
            | obj => exact hw.elim
            | _ => dsimp! only []; simp! only []; exact ⟨rfl, by rw [e]; rfl⟩
        · rename_i hn
          simp! only []
          refine ⟨rfl, ?_⟩
          rw [e]
          have : (isNam a && isNam b) = false := by
            cases h1 : isNam a <;> cases h2 : isNam b <;> first | rfl | exact absurd ⟨h1, h2⟩ hn
          rw [this]
          rfl
    · simp! only []
      exact ⟨rfl, by rw [tie_not]; rintro a b w l v e; cases e; rename_i hl; exact hl rfl⟩
  | exc => exact h.elim
  | obj => exact h.elim
  | _ => dsimp! only []; simp! only []; exact ⟨rfl, rfl⟩
/-! ### the draws -/
theorem c_draws {m : Nat} {cell : Int} {ss : List Int} (hp : ∀ s ∈ ss, 0 < s ∧ Nb 9000 s) (hl : ss.length < 1000) (hm : 1 ≤ m) : ∃ ys, Digs ys ss ∧ LA m 5 [.int cell, intsD ss] = .ok (intsD ys) [] := by
  obtain ⟨n, rfl⟩ := suc (m := m) (by omega)
  obtain ⟨ys, env, h1, h2⟩ := run_draws ⟨LA n, supG, fuelG⟩ cell ss hp hl
  have e : c5 = cDraws := by
    unfold c5 cDraws dBody dMix dMix2
    rfl
  refine ⟨ys, h1, ?_⟩
  generalize intsD ss = d at h2 ⊢
  generalize intsD ys = d2 at h2 ⊢
  refine wF_eq ?_
  refine wF_go f5 c5 [some (.int cell), some d, none, none, none, none, none] rfl rfl rfl rfl ?_
  unfold wSs
  rw [e, h2]
  dsimp only [wpS]
  unfold f5
  simp! only []
/-! ### parts -/
theorem six_nn {n d : Nat} {i : Int} (h : 0 ≤ i) : HT.sIx n d (some i) = min i.toNat n := by
  unfold HT.sIx
  simp only
  split <;> first | omega | (split <;> omega)
theorem cutD_to {α : Type} {xs : List α} {i : Int} (h : 0 ≤ i) : cutD xs none (some i) = xs.take i.toNat := by
  unfold cutD
  rw [six_nn h]
  show (xs.drop 0).take (min i.toNat xs.length - 0) = _
  rw [List.drop_zero, Nat.sub_zero]
  by_cases q : i.toNat ≤ xs.length
  · rw [Nat.min_eq_left q]
  · rw [Nat.min_eq_right (by omega), List.take_length, List.take_of_length_le (by omega)]
theorem cutD_from {α : Type} {xs : List α} {i : Int} (h : 0 ≤ i) : cutD xs (some i) none = xs.drop i.toNat := by
  unfold cutD
  rw [six_nn h]
  show (xs.drop (min i.toNat xs.length)).take (xs.length - min i.toNat xs.length) = _
  by_cases q : i.toNat ≤ xs.length
  · rw [Nat.min_eq_left q, List.take_of_length_le (by rw [List.length_drop]; omega)]
  · rw [Nat.min_eq_right (by omega), List.drop_length, List.drop_of_length_le (by omega), List.take_nil]
theorem cutD_ft {α : Type} {xs : List α} {i j : Int} (h : 0 ≤ i) (h' : 0 ≤ j) : cutD xs (some i) (some j) = (xs.take j.toNat).drop i.toNat := by
  unfold cutD
  rw [six_nn h, six_nn h', List.drop_take]
  by_cases q : i.toNat ≤ xs.length
  · rw [Nat.min_eq_left q]
    by_cases q2 : j.toNat ≤ xs.length
    · rw [Nat.min_eq_left q2]
    · rw [Nat.min_eq_right (by omega), List.take_of_length_le (i := xs.length - i.toNat) (by rw [List.length_drop]; omega), List.take_of_length_le (by rw [List.length_drop]; omega)]
  · rw [Nat.min_eq_right (a := i.toNat) (by omega), List.drop_length, List.drop_of_length_le (by omega), List.take_nil, List.take_nil]
/-! ### texts -/
theorem nb_small {a : Int} (h : a.natAbs < 2 ^ 64) : Nb 9000 a := Nat.lt_of_lt_of_le h (Nat.pow_le_pow_right (by omega) (by omega))
theorem strOk_iff (s : Str) : PyData.strOk s = true ↔ ∀ c ∈ tl s, c < 1114112 := by
  unfold PyData.strOk
  rw [Array.all_eq_true']
  simp
theorem low_ok {s : Str} (h : (tl s).all isLow = true) : PyData.strOk s = true := (strOk_iff s).mpr fun c hc => by
  have := List.all_eq_true.mp h c hc
  unfold isLow at this
  have := of_decide_eq_true this
  omega
theorem fine_str {s : Str} (h : ∀ c ∈ tl s, c < 1114112) (hl : (tl s).length ≤ 1000) : Fine (.str s) := ⟨(strOk_iff s).mpr h, by rw [len_tl]; exact hl⟩
theorem tl_cut (z : Str) (lo hi : Option Int) : tl (cutS z lo hi) = ((tl z).drop (HT.sIx z.length 0 lo)).take (HT.sIx z.length z.length hi - HT.sIx z.length 0 lo) := by
  unfold cutS
  simp
theorem cut_mem {z : Str} {lo hi : Option Int} {c : Nat} (h : c ∈ tl (cutS z lo hi)) : c ∈ tl z := by
  rw [tl_cut] at h
  exact List.mem_of_mem_drop (List.mem_of_mem_take h)
theorem cut_len {z : Str} {lo hi : Option Int} : (tl (cutS z lo hi)).length ≤ (tl z).length := by
  rw [tl_cut]
  simp only [List.length_take, List.length_drop]
  omega
theorem cutD_len {α : Type} {xs : List α} {lo hi : Option Int} : (cutD xs lo hi).length ≤ xs.length := by
  unfold cutD
  simp only [List.length_take, List.length_drop]
  omega
theorem cutD_mem {α : Type} {xs : List α} {lo hi : Option Int} {x : α} (h : x ∈ cutD xs lo hi) : x ∈ xs := List.mem_of_mem_drop (List.mem_of_mem_take h)
theorem joinE : ∀ ys : List Str, tl (Txt.join "" ys) = (ys.map tl).flatten := by
  intro ys
  rw [join_eq, tl_join]
  have e : tl ("" : Str) = [] := by decide +kernel
  rw [e]
  induction ys with
  | nil => rfl
  | cons y ys ih =>
    cases ys with
    | nil => simp [joinL]
    | cons z zs =>
      show tl y ++ ([] ++ joinL [] ((z :: zs).map tl)) = _
      rw [ih]
      simp
theorem strs_map (ys : List Str) : strsD (ys.map .str) = some ys := by
  induction ys with
  | nil => rfl
  | cons y ys ih =>
    show (strsD (ys.map .str)).map (y :: ·) = _
    rw [ih]
    rfl
theorem at_int {α : Type} {xs : List α} {i : Int} (h0 : 0 ≤ i) (h1 : i < xs.length) : ∃ x, atI xs i = some x ∧ x ∈ xs := by
  obtain ⟨k, rfl⟩ := Int.eq_ofNat_of_zero_le h0
  have hk : k < xs.length := by omega
  exact ⟨xs[k], atI_nat (List.getElem?_eq_getElem hk), List.getElem_mem hk⟩
theorem wIdx_str {s : Str} {i : Int} {Q : KD} (hl : s.length ≤ 1000) (h0 : 0 ≤ i) (h1 : i < (tl s).length) (h : ∀ c ∈ tl s, Q.f (.str ⟨#[c]⟩)) : wIdx (.str s) (.int i) := by
  obtain ⟨c, e, hm⟩ := at_int (xs := tl s) h0 h1
  have hk : lenOk s.length = true := decide_eq_true (by unfold sizeLine; omega)
  show @wpD _ (if lenOk s.length then (atI (tl s) i).map fun c => D.str ⟨#[c]⟩ else none) Q
  rw [if_pos hk, e]
  exact h c hm
/-- digits, one by one -/
theorem digs_cons {ys ss : List Int} {s : Int} (h : Digs ys (s :: ss)) : ∃ y ys', ys = y :: ys' ∧ (0 ≤ y ∧ y < s) ∧ Digs ys' ss := by
  obtain ⟨h1, h2⟩ := h
  cases ys with
  | nil => simp at h1
  | cons y ys =>
    refine ⟨y, ys, rfl, h2 0 y s rfl rfl, by simpa using h1, fun k x t hx ht => h2 (k + 1) x t (by simpa using hx) (by simpa using ht)⟩
theorem digs_nil {ys : List Int} (h : Digs ys []) : ys = [] := by
  obtain ⟨h1, _⟩ := h
  exact List.eq_nil_of_length_eq_zero (by simpa using h1)
theorem digs_app {ys a b : List Int} (h : Digs ys (a ++ b)) : ∃ y1 y2, ys = y1 ++ y2 ∧ Digs y1 a ∧ Digs y2 b := by
  induction a generalizing ys with
  | nil => exact ⟨[], ys, rfl, ⟨rfl, fun k x s e => by simp at e⟩, h⟩
  | cons s a ih =>
    obtain ⟨y, ys', rfl, hy, h'⟩ := digs_cons h
    obtain ⟨y1, y2, rfl, h1, h2⟩ := ih h'
    refine ⟨y :: y1, y2, rfl, ⟨by simp [h1.1], fun k x t hx ht => ?_⟩, h2⟩
    cases k with
    | zero =>
      cases hx
      cases ht
      exact hy
    | succ k => exact h1.2 k x t (by simpa using hx) (by simpa using ht)
/-- equal sizes -/
theorem digs_all {ys : List Int} {n : Nat} {s : Int} (h : Digs ys (List.replicate n s)) : ys.length = n ∧ ∀ y ∈ ys, 0 ≤ y ∧ y < s := by
  refine ⟨by simpa using h.1, fun y hy => ?_⟩
  obtain ⟨k, hk⟩ := List.mem_iff_getElem?.mp hy
  have hl : k < n := by
    have := (List.getElem?_eq_some_iff.mp hk).1
    have := h.1
    simp at this
    omega
  exact h.2 k y s hk (by simp [hl])
theorem wAt {α : Type} {xs : List α} {i : Int} {Q : Kk (α → Prop)} (h0 : 0 ≤ i) (h1 : i < xs.length) (h : ∀ x ∈ xs, Q.f x) : wpD (atI xs i) := by
  obtain ⟨x, e, hm⟩ := at_int h0 h1
  rw [e]
  exact h x hm
theorem nb_small' {k : Nat} {a : Int} (hk : 64 ≤ k) (h : a.natAbs < 2 ^ 64) : Nb k a := Nat.lt_of_lt_of_le h (Nat.pow_le_pow_right (by omega) hk)
theorem fine_lit {s : Str} (h : (tl s).all (fun c => decide (c < 1114112)) = true) (hl : (tl s).length ≤ 1000) : Fine (.str s) := fine_str (fun c hc => of_decide_eq_true (List.all_eq_true.mp h c hc)) hl
/-- bounded numbers as fine things, written ones by decide -/
def fineB : D → Bool
  | .non => true | .bl _ => true | .int i => decide (i.natAbs < 18446744073709551616)
  | .str s => (tl s).all (fun c => decide (c < 1114112)) && decide ((tl s).length ≤ 1000)
  | .tup ds => fineBs ds | .lst ds => fineBs ds | .dic _ ds => fineBs ds
  | _ => false
where fineBs : List D → Bool
  | [] => true
  | d :: ds => fineB d && fineBs ds
mutual
theorem fineB_ok : ∀ d : D, fineB d = true → Fine d
  | .non, _ => trivial
  | .bl _, _ => trivial
  | .int i, h => nb_small (of_decide_eq_true h)
  | .str s, h => by
    have h : ((tl s).all (fun c => decide (c < 1114112)) && decide ((tl s).length ≤ 1000)) = true := h
    rw [Bool.and_eq_true] at h
    exact fine_lit h.1 (of_decide_eq_true h.2)
  | .tup ds, h => fineBs_ok ds h
  | .lst ds, h => fineBs_ok ds h
  | .dic _ ds, h => fineBs_ok ds h
  | .exc _ _ _, h => Bool.noConfusion h
  | .obj _ _ _, h => Bool.noConfusion h
theorem fineBs_ok : ∀ ds : List D, fineB.fineBs ds = true → Fines ds
  | [], _ => trivial
  | d :: ds, h => by
    have h : (fineB d && fineB.fineBs ds) = true := h
    rw [Bool.and_eq_true] at h
    exact ⟨fineB_ok d h.1, fineBs_ok ds h.2⟩
end
theorem fines_n : Fines [] := trivial
theorem fines_c {d : D} {ds : List D} (h : Fine d) (t : Fines ds) : Fines (d :: ds) := ⟨h, t⟩
theorem fine_i {i : Int} (h : Nb 9000 i) : Fine (.int i) := h
theorem fine_t {ds : List D} (h : Fines ds) : Fine (.tup ds) := h
theorem fine_l {ds : List D} (h : Fines ds) : Fine (.lst ds) := h
theorem Fines.set {x : D} (hx : Fine x) : ∀ {ds : List D} (k : Nat), Fines ds → Fines (ds.set k x)
  | [], _, h => h
  | _ :: _, 0, h => ⟨hx, h.2⟩
  | _ :: _, k + 1, h => ⟨h.1, Fines.set hx k h.2⟩
theorem Fines.app : ∀ {a b : List D}, Fines a → Fines b → Fines (a ++ b)
  | [], _, _, h => h
  | _ :: _, _, h, h' => ⟨h.1, Fines.app h.2 h'⟩
theorem Fines.sub {a b : List D} (h : Fines a) (hs : ∀ x ∈ b, x ∈ a) : Fines b := Fines.of fun d hd => h.mem (hs d hd)
/-! ## things that laws of family A share -/
/-- letters by their numbers -/
theorem letter {x : Int} {Q : KD} (h0 : 0 ≤ x) (h1 : x < 26) (h : ∀ c : Nat, isLow c = true → Q.f (.str ⟨#[c]⟩)) : wIdx (.str abc) (.int x) := by
  refine wIdx_str (by decide +kernel) h0 (by rw [show (tl abc).length = 26 by decide +kernel]; exact h1) fun c hc => h c ?_
  have := in_abc c
  rw [decide_eq_true hc] at this
  exact this.symm
theorem flat_low : ∀ {ys : List Str}, (∀ y ∈ ys, ∃ c, isLow c = true ∧ y = ⟨#[c]⟩) → ((ys.map tl).flatten).all isLow = true ∧ ((ys.map tl).flatten).length = ys.length
  | [], _ => ⟨rfl, rfl⟩
  | y :: ys, h => by
    obtain ⟨c, hc, rfl⟩ := h y (by simp)
    obtain ⟨h1, h2⟩ := flat_low (ys := ys) fun y hy => h y (by simp [hy])
    rw [List.map_cons, List.flatten_cons]
    refine ⟨?_, by simp [h2]; omega⟩
    rw [List.all_append, h1]
    simp [hc]
def signs : Str := " !\"#$&'()*+,-./0123456789:;<=>?@ABCDEFGHIJKLMNOPQRSTUVWXYZ[\\]^_`{|}~\n\t"
theorem c_sign {m : Nat} {k : Int} (h0 : 0 ≤ k) (h1 : k < 96) (hm : 1 ≤ m) : ∃ d, (∃ c : Nat, d = .str ⟨#[c]⟩ ∧ c < 1114112) ∧ LA m 37 [.int k] = .ok d [] := by
  obtain ⟨n, rfl⟩ := suc hm
  refine wF_ex (wF_go f37 c37 [some (.int k), none] rfl rfl rfl rfl ?_)
  unfold c37 f37
  simp! only []
  have e : tl (signs ++ abc) = tl signs ++ tl abc := tl_append _ _
  have l1 : (tl signs).length = 70 := by decide +kernel
  have l2 : (tl abc).length = 26 := by decide +kernel
  refine ⟨by rw [len_tl, len_tl]; show (tl signs).length + (tl abc).length ≤ _; omega, ?_⟩
  refine wIdx_str (s := signs ++ abc) (by rw [len_tl, e, List.length_append]; omega) h0 (by rw [e, List.length_append]; omega) fun c hc => ⟨fun _ => rfl, ⟨c, rfl, ?_⟩, rfl⟩
  rw [e] at hc
  have : ((tl signs ++ tl abc).all fun c => decide (c < 1114112)) = true := by decide +kernel
  exact of_decide_eq_true (List.all_eq_true.mp this c hc)
/-- a text within bounds -/
def Tx (n : Nat) (d : D) : Prop := ∃ s : Str, d = .str s ∧ (∀ c ∈ tl s, c < 1114112) ∧ (tl s).length ≤ n
theorem Tx.fine {n : Nat} {d : D} (h : Tx n d) (hn : n ≤ 1000) : Fine d := by
  obtain ⟨s, rfl, h1, h2⟩ := h
  exact fine_str h1 (by omega)
theorem nb_60 {a : Int} (h0 : 0 ≤ a) (h1 : a ≤ 10 ^ 60) : Nb 8000 a := by
  have : a.natAbs ≤ 10 ^ 60 := by omega
  exact Nat.lt_of_lt_of_le (Nat.lt_of_le_of_lt this (show 10 ^ 60 < 2 ^ 300 by decide)) (Nat.pow_le_pow_right (by omega) (by omega))
theorem low_fine {t b : Int} (h0 : 0 ≤ t) (h1 : t ≤ 10 ^ 60) (h2 : 0 < b) (h3 : b ≤ 10 ^ 60) : Fine (frD (low t b)) := by
  obtain ⟨g1, g2, g3, g4⟩ := low_good (t := t) h2
  refine fine_t (fines_c ?_ (fines_c ?_ fines_n))
  · have : Nb 8000 t := nb_60 h0 h1
    exact (show Nb 8000 (low t b).1 from Nat.lt_of_le_of_lt g4 this).mono (by omega)
  · exact (nb_60 (by omega) (by omega) : Nb 8000 (low t b).2).mono (by omega)
theorem sizes_ok {ss : List Int} (h : ss.all (fun s => decide (0 < s) && decide (s.natAbs < 2 ^ 300)) = true) : ∀ s ∈ ss, 0 < s ∧ Nb 9000 s := by
  intro s hs
  have := List.all_eq_true.mp h s hs
  rw [Bool.and_eq_true, decide_eq_true_eq, decide_eq_true_eq] at this
  exact ⟨this.1, Nat.lt_of_lt_of_le this.2 (Nat.pow_le_pow_right (by omega) (by omega))⟩
/-- texts of one sign -/
def OneT (y : D) : Prop := ∃ c : Nat, c < 1114112 ∧ y = .str ⟨#[c]⟩
theorem ones_ex : ∀ {ys : List D}, (∀ y ∈ ys, OneT y) → ∃ zs : List Str, ys = zs.map .str ∧ (zs.map (·.length)).sum = zs.length ∧ ((zs.map tl).flatten).length = zs.length ∧ ∀ c ∈ (zs.map tl).flatten, c < 1114112
  | [], _ => ⟨[], rfl, rfl, rfl, fun c hc => absurd hc (by simp)⟩
  | y :: ys, h => by
    obtain ⟨c, hc, rfl⟩ := h y (by simp)
    obtain ⟨zs, rfl, h1, h2, h3⟩ := ones_ex (ys := ys) fun y hy => h y (by simp [hy])
    refine ⟨⟨#[c]⟩ :: zs, rfl, ?_, ?_, fun x hx => ?_⟩
    · rw [List.map_cons, List.sum_cons, h1]
      show 1 + _ = _
      rw [List.length_cons]; omega
    · rw [List.map_cons, List.flatten_cons, List.length_append, h2]
      show 1 + _ = _
      rw [List.length_cons]; omega
    · rw [List.map_cons, List.flatten_cons, List.mem_append] at hx
      rcases hx with hx | hx
      · have : x = c := by simpa using hx
        omega
      · exact h3 x hx
theorem letter1 {x : Int} {Q : KD} (h0 : 0 ≤ x) (h1 : x < 26) (h : ∀ y, OneT y → Q.f y) : wIdx (.str abc) (.int x) :=
  letter h0 h1 fun c hc => h _ ⟨c, by unfold isLow at hc; have := of_decide_eq_true hc; omega, rfl⟩
theorem Nb.fdv {k : Nat} {a g : Int} (h : Nb k a) (hg : 0 < g) : Nb k (a.fdiv g) := by
  have e : a.fdiv g = a / g := Int.fdiv_eq_ediv_of_nonneg _ (by omega)
  have := Int.natAbs_ediv_le_natAbs a g
  unfold Nb at *
  rw [e]
  omega
end Fc
end

namespace LawX
section
open Fc PySem L2 TL
set_option maxRecDepth 100000
local macro_rules | `(tactic| simp! only [$xs,*]) => `(tactic| simp only [↓wSs_nil, ↓wSs_cons, ↓wS_ex, ↓wS_pass, ↓wS_asg, ↓wS_par, ↓wS_aug, ↓wS_ret, ↓wS_rse, ↓wS_ife, ↓wS_whl, ↓wS_loop, ↓wS_seti, ↓wEnd_t, ↓wEnd_f, ↓wEnd_io,
  ↓wE_var, ↓wE_con, ↓wE_bin, ↓wE_neg, ↓wE_not, ↓wE_and, ↓wE_or, ↓wE_cmp, ↓wE_chain, ↓wE_ife, ↓wE_tup, ↓wE_lst, ↓wE_idx, ↓wE_slc, ↓wE_fld, ↓wE_call, ↓wE_blt, ↓wE_mth, ↓wE_isi, ↓wE_lc, ↓wE_app, ↓wApp_lst, ↓wE_rep, ↓wE_rev, ↓wE_dic, ↓wEs_nil, ↓wEs_cons,
  ↓wGet_zero, ↓wGet_succ, ↓wSet_zero, ↓wSet_succ, ↓wBack_nil, ↓wBack_cons, ↓wBl_bl, ↓wAsg_nm, ↓wAsg_tp, ↓wAsg_lp, ↓wAsgs_nil, ↓wAsgs_cons,
  ↓wBin_add, ↓wBin_sub, ↓wBin_mul, ↓wBin_fdiv, ↓wBin_mod, ↓wBin_pow10, ↓wBin_adds, ↓wBin_addl, ↓wBin_addt, ↓wCmp_lt, ↓wCmp_le, ↓wCmp_gt, ↓wCmp_ge, ↓wCmp_isn, ↓wCmp_nn, ↓wCmp_eq, ↓wCmp_ne, ↓wCmp_mem, ↓wCmp_nmem, eqD_int, eqD_bl, ↓wi_non_int, ↓wi_non_bool, ↓wi_non_str, ↓wi_non_list, ↓wi_non_tuple, ↓wi_non_dict, ↓isNon_non, ↓wi_bl_int, ↓wi_bl_bool, ↓wi_bl_str, ↓wi_bl_list, ↓wi_bl_tuple, ↓wi_bl_dict, ↓isNon_bl, ↓wi_int_int, ↓wi_int_bool, ↓wi_int_str, ↓wi_int_list, ↓wi_int_tuple, ↓wi_int_dict, ↓isNon_int, ↓wi_str_int, ↓wi_str_bool, ↓wi_str_str, ↓wi_str_list, ↓wi_str_tuple, ↓wi_str_dict, ↓isNon_str, ↓wi_tup_int, ↓wi_tup_bool, ↓wi_tup_str, ↓wi_tup_list, ↓wi_tup_tuple, ↓wi_tup_dict, ↓isNon_tup, ↓wi_lst_int, ↓wi_lst_bool, ↓wi_lst_str, ↓wi_lst_list, ↓wi_lst_tuple, ↓wi_lst_dict, ↓isNon_lst, ↓wi_dic_int, ↓wi_dic_bool, ↓wi_dic_str, ↓wi_dic_list, ↓wi_dic_tuple, ↓wi_dic_dict, ↓isNon_dic,
  ↓wTru_bl, ↓wTru_int, ↓wTru_lst, ↓wTru_tup, negD_int, notD_bl, ↓wPart_f, ↓wPart_t, ↓wBlt_len, ↓wBlt_lent, ↓wBlt_lens, ↓wBlt_abs, ↓wBlt_max, ↓wBlt_min, ↓wBlt_int, ↓wBlt_intb, ↓wBlt_list, ↓wBlt_listt, ↓wBlt_tuple, ↓wBlt_tuplet,
  ↓wIdx_lst, ↓wIdx_tup, ↓wSlc_lst, ↓wSlc_str, ↓wRep_lst, revD_lst, ↓wMth_join, ↓wMth_index, ↓wMth_count, ↓wItm_of, ↓wItm_oft, ↓wItm_ofs, ↓wItm_enum, ↓wItm_zip, ↓wpD_some, ↓wpD_none, ↓wpF_ok', ↓wpF_exn', ↓reduceIte, List.length_nil, List.length_cons, Nat.zero_add, true_and, and_true, Int.cast_ofNat_Int, Int.natCast_zero, Int.natCast_one, Int.natCast_add, Nat.reduceAdd, Int.reduceAdd, Int.reduceSub, Int.reduceMul, Int.reduceNeg, Int.reduceEq, Int.reduceNe, Int.reduceLT, Int.reduceLE, Int.reduceGT, Int.reduceGE, List.map_cons, List.map_nil, List.take_succ_cons, List.take_zero, List.take_nil, List.drop_succ_cons, List.drop_zero, List.drop_nil, List.reduceReplicate, List.flatten_cons, List.flatten_nil, List.append_nil, sizeLine_eq, Nat.reduceMul, Nat.reduceSub, Int.reduceToNat, Int.reducePow, lenOk_le, lenLt_lt, Nat.reduceLeDiff, Nat.reduceLT, List.cons_append, List.nil_append, List.length_append, List.length_map, wipeE_nil, wipeE_cons, List.set_cons_zero, List.set_cons_succ, wSeti_lit, kindD_lst, mthT_join, mthT_split, mthT_partition, mthT_isdigit, mthT_index, mthT_count, eq_self, Bool.false_eq_true, Bool.true_eq_false, reduceIte, if_true, if_false, decide_true, decide_false, false_and, and_false, or_false, false_or, true_or, or_true, not_true_eq_false, not_false_eq_true, at0, at1, at2, at3, at4, at5, at6, at7, at8, at9, at10, at11, at12, at13, at14, at15, at16, at17, at18, at19, at20, at21, at22, at23, at24, at25, at26, at27, at28, at29, at30, at31, at32, at33, at34, at35, at36, at37, at38, at39, at40, $xs,*])
local macro_rules | `(tactic| dsimp! only [$xs,*]) => `(tactic| simp only [↓wIf_val, ↓wIf_and, ↓wIf_or, ↓wIf_not, ↓wIf_ife,
  ↓wE_var, ↓wE_con, ↓wE_bin, ↓wE_neg, ↓wE_not, ↓wE_and, ↓wE_or, ↓wE_cmp, ↓wE_chain, ↓wE_ife, ↓wE_tup, ↓wE_lst, ↓wE_idx, ↓wE_slc, ↓wE_fld, ↓wE_call, ↓wE_blt, ↓wE_mth, ↓wE_isi, ↓wE_lc, ↓wE_app, ↓wApp_lst, ↓wE_rep, ↓wE_rev, ↓wE_dic, ↓wEs_nil, ↓wEs_cons,
  ↓wGet_zero, ↓wGet_succ, ↓wSet_zero, ↓wSet_succ, ↓wBack_nil, ↓wBack_cons, ↓wBl_bl,
  ↓wBin_add, ↓wBin_sub, ↓wBin_mul, ↓wBin_fdiv, ↓wBin_mod, ↓wBin_pow10, ↓wBin_adds, ↓wBin_addl, ↓wBin_addt, ↓wCmp_lt, ↓wCmp_le, ↓wCmp_gt, ↓wCmp_ge, ↓wCmp_isn, ↓wCmp_nn, ↓wCmp_eq, ↓wCmp_ne, ↓wCmp_mem, ↓wCmp_nmem, eqD_int, eqD_bl, ↓wi_non_int, ↓wi_non_bool, ↓wi_non_str, ↓wi_non_list, ↓wi_non_tuple, ↓wi_non_dict, ↓isNon_non, ↓wi_bl_int, ↓wi_bl_bool, ↓wi_bl_str, ↓wi_bl_list, ↓wi_bl_tuple, ↓wi_bl_dict, ↓isNon_bl, ↓wi_int_int, ↓wi_int_bool, ↓wi_int_str, ↓wi_int_list, ↓wi_int_tuple, ↓wi_int_dict, ↓isNon_int, ↓wi_str_int, ↓wi_str_bool, ↓wi_str_str, ↓wi_str_list, ↓wi_str_tuple, ↓wi_str_dict, ↓isNon_str, ↓wi_tup_int, ↓wi_tup_bool, ↓wi_tup_str, ↓wi_tup_list, ↓wi_tup_tuple, ↓wi_tup_dict, ↓isNon_tup, ↓wi_lst_int, ↓wi_lst_bool, ↓wi_lst_str, ↓wi_lst_list, ↓wi_lst_tuple, ↓wi_lst_dict, ↓isNon_lst, ↓wi_dic_int, ↓wi_dic_bool, ↓wi_dic_str, ↓wi_dic_list, ↓wi_dic_tuple, ↓wi_dic_dict, ↓isNon_dic,
  ↓wTru_bl, ↓wTru_int, ↓wTru_lst, ↓wTru_tup, negD_int, notD_bl, ↓wPart_f, ↓wPart_t, ↓wBlt_len, ↓wBlt_lent, ↓wBlt_lens, ↓wBlt_abs, ↓wBlt_max, ↓wBlt_min, ↓wBlt_int, ↓wBlt_intb, ↓wBlt_list, ↓wBlt_listt, ↓wBlt_tuple, ↓wBlt_tuplet,
  ↓wIdx_lst, ↓wIdx_tup, ↓wSlc_lst, ↓wSlc_str, ↓wpD_some, ↓wpD_none, ↓wpF_ok', ↓wpF_exn', ↓reduceIte, List.length_nil, List.length_cons, Nat.zero_add, true_and, and_true,
  decide_eq_true_eq, Bool.not_eq_true', decide_eq_false_iff_not, Bool.not_true, Bool.not_false, Bool.true_and, Bool.and_true, Bool.false_and, Bool.and_false, bne_iff_ne, beq_iff_eq, beq_eq_false_iff_ne, ne_eq, Classical.not_not, ite_and_c, ite_or_c, ite_nand_c, ite_nor_c, ite_not, Int.cast_ofNat_Int, Int.natCast_zero, Int.natCast_one, Int.natCast_add, Nat.reduceAdd, Int.reduceAdd, Int.reduceSub, Int.reduceMul, Int.reduceNeg, Int.reduceEq, Int.reduceNe, Int.reduceLT, Int.reduceLE, Int.reduceGT, Int.reduceGE, List.map_cons, List.map_nil, List.take_succ_cons, List.take_zero, List.take_nil, List.drop_succ_cons, List.drop_zero, List.drop_nil, List.reduceReplicate, List.flatten_cons, List.flatten_nil, List.append_nil, sizeLine_eq, Nat.reduceMul, Nat.reduceSub, Int.reduceToNat, Int.reducePow, lenOk_le, lenLt_lt, Nat.reduceLeDiff, Nat.reduceLT, List.cons_append, List.nil_append, List.length_append, List.length_map, wipeE_nil, wipeE_cons, List.set_cons_zero, List.set_cons_succ, wSeti_lit, kindD_lst, mthT_join, mthT_split, mthT_partition, mthT_isdigit, mthT_index, mthT_count, eq_self, Bool.false_eq_true, Bool.true_eq_false, reduceIte, if_true, if_false, decide_true, decide_false, false_and, and_false, or_false, false_or, true_or, or_true, not_true_eq_false, not_false_eq_true, at0, at1, at2, at3, at4, at5, at6, at7, at8, at9, at10, at11, at12, at13, at14, at15, at16, at17, at18, at19, at20, at21, at22, at23, at24, at25, at26, at27, at28, at29, at30, at31, at32, at33, at34, at35, at36, at37, at38, at39, at40, $xs,*])

/-- _law_text [cell] -/
def c38 : List S := [
  .asg (.nm 1) (.call 5 [(.var 0), (.bin .add (.lst [(.con (.int 10)), (.con (.int 2)), (.con (.int 70)), (.con (.int 9))]) (.rep (.lst [(.con (.int 26))]) (.con (.int 9))))] []),
  .asg (.nm 2) (.lc (.idx (.con (.str "abcdefghijklmnopqrstuvwxyz")) (.var 4)) (.nm 4) .of [(.slc true true (.var 1) (.con (.int 4)) (.bin .add (.con (.int 4)) (.idx (.var 1) (.con (.int 0)))))] [] [3, 4]),
  .ife (.and (.val (.cmp .eq (.idx (.var 1) (.con (.int 1))) (.con (.int 1)))) (.val (.cmp .ne (.var 2) (.lst [])))) [
    .seti 2 [] (.bin .mod (.idx (.var 1) (.con (.int 3))) (.blt .len [(.var 2)])) (.call 37 [(.idx (.var 1) (.con (.int 2)))] [])] [],
  .ret (.mth .join (.con (.str "")) [(.var 2)])]
def f38 : Fn := ⟨1, 5, [], true, c38⟩
/-- _law_pair [cell] -/
def c39 : List S := [
  .asg (.nm 1) (.call 5 [(.var 0), (.lst [(.con (.int 8)), (.con (.int 2)), (.con (.int 4)), (.bin .pow (.con (.int 10)) (.con (.int 60))), (.bin .sub (.bin .pow (.con (.int 10)) (.con (.int 60))) (.con (.int 1))), (.con (.int 7))])] []),
  .asg (.tp [(.nm 2), (.nm 3), (.nm 4), (.nm 5), (.nm 6), (.nm 7)]) (.var 1),
  .ife (.val (.cmp .lt (.var 2) (.con (.int 3)))) [
    .asg (.nm 5) (.bin .mod (.var 5) (.con (.int 5))),
    .asg (.nm 6) (.bin .mod (.var 6) (.con (.int 5)))] [],
  .asg (.nm 8) (.lst [(.bin .sub (.var 5) (.bin .mul (.bin .mul (.con (.int 2)) (.var 5)) (.var 3))), (.var 6)]),
  .ife (.val (.cmp .eq (.var 2) (.con (.int 3)))) [
    .seti 8 [] (.con (.int 1)) (.bin .sub (.con (.int 0)) (.var 6))] [],
  .ife (.or (.val (.cmp .eq (.var 2) (.con (.int 4)))) (.val (.cmp .eq (.var 2) (.con (.int 5))))) [
    .asg (.nm 9) (.call 7 [(.var 5), (.bin .add (.con (.int 1)) (.var 6))] []),
    .asg (.nm 8) (.lst [(.bin .fdiv (.idx (.var 8) (.con (.int 0))) (.var 9)), (.bin .fdiv (.bin .add (.con (.int 1)) (.var 6)) (.var 9))])] [],
  .ife (.val (.cmp .gt (.var 2) (.con (.int 5)))) [
    .seti 8 [] (.bin .sub (.var 2) (.con (.int 6))) (.idx (.lst [(.con (.bl true)), (.con .non), (.con (.str "1")), (.con (.bl false))]) (.var 4))] [],
  .ife (.val (.cmp .eq (.var 7) (.con (.int 1)))) [
    .ret (.lst [(.idx (.var 8) (.con (.int 0))), (.idx (.var 8) (.con (.int 1)))])] [],
  .ret (.tup [(.idx (.var 8) (.con (.int 0))), (.idx (.var 8) (.con (.int 1)))])]
def f39 : Fn := ⟨1, 10, [], false, c39⟩
/-- _law_odd [cell] -/
def c40 : List S := [
  .asg (.tp [(.nm 1), (.nm 2)]) (.call 5 [(.var 0), (.lst [(.con (.int 18)), (.bin .pow (.con (.int 10)) (.con (.int 60)))])] []),
  .asg (.nm 3) (.lst [(.con (.bl true)), (.con (.bl false)), (.con .non), (.lst []), (.dic [] []), (.tup []), (.tup [(.var 2)])]),
  .asg (.nm 3) (.bin .add (.var 3) (.lst [(.tup [(.con (.int 1)), (.con (.int 2)), (.con (.int 3))]), (.lst [(.con (.int 1)), (.con (.int 2))]), (.tup [(.con (.str "a")), (.con (.int 1))]), (.tup [(.con (.int 1)), (.con (.str "a"))]), (.tup [(.con (.int 0)), (.con (.int 1))]), (.tup [(.con (.int 0)), (.con (.int 2))]), (.tup [(.con (.int 1)), (.con (.int 0))])])),
  .asg (.nm 3) (.bin .add (.var 3) (.lst [(.lst [(.con (.str "a"))]), (.tup [(.con (.str "a"))]), (.dic [(.inr "a")] [(.con (.int 1))]), (.tup [(.var 2), (.con (.int 1))])])),
  .ret (.idx (.var 3) (.var 1))]
def f40 : Fn := ⟨1, 4, [], false, c40⟩
/-- _law_truth [found, due] -/
def c41 : List S := [
  .ret (.and (.isi (.var 0) [.bool]) (.cmp .eq (.var 0) (.var 1)))]
def f41 : Fn := ⟨2, 2, [], true, c41⟩
/-- _law_right [thing] -/
def c42 : List S := [
  .ife (.not (.val (.call 41 [(.call 1 [(.var 0)] []), (.call 6 [(.var 0)] [])] []))) [
    .ret (.con (.bl false))] [],
  .ife (.not (.val (.call 41 [(.call 35 [(.var 0)] []), (.call 36 [(.var 0)] [])] []))) [
    .ret (.con (.bl false))] [],
  .ret (.call 41 [(.call 34 [(.var 0)] []), (.call 26 [(.var 0)] [])] [])]
def f42 : Fn := ⟨1, 1, [], true, c42⟩
/-- law [script] -/
def c43 : List S := [
  .loop (.nm 1) .of [(.bin .add (.lst [(.con (.int 0))]) (.slc false true (.var 0) (.con .non) (.con (.int 63))))] [
    .asg (.nm 2) (.idx (.call 5 [(.var 1), (.lst [(.bin .pow (.con (.int 10)) (.con (.int 60)))])] []) (.con (.int 0))),
    .loop (.nm 3) .of [(.lst [(.call 38 [(.var 1)] []), (.var 2), (.bin .sub (.con (.int 0)) (.var 2)), (.call 39 [(.var 1)] []), (.call 40 [(.var 1)] [])])] [
      .ife (.not (.val (.call 42 [(.var 3)] []))) [
        .ret (.con (.bl false))] []]],
  .ret (.con (.bl true))]
def f43 : Fn := ⟨1, 4, [], true, c43⟩
def tabK : List (Nat × Fn) := [(1, f1), (2, f2), (34, f34), (35, f35), (5, f5), (6, f6), (7, f7), (26, f26), (36, f36), (37, f37), (38, f38), (39, f39), (40, f40), (41, f41), (42, f42), (43, f43)]
def regK : Nat → Option Fn := fun i => tabK.lookup i
abbrev LK (n : Nat) : Nat → List D → FRes := callN regK supG fuelG n
theorem agA : AllN (fun i => regK i = regA i) [1, 2, 34, 35, 5, 6, 7, 26, 36, 37] := ⟨rfl, rfl, rfl, rfl, rfl, rfl, rfl, rfl, rfl, rfl, trivial⟩
theorem clA : closedB regA [1, 2, 34, 35, 5, 6, 7, 26, 36, 37] = true := by decide +kernel
theorem k1 {n : Nat} {ds : List D} : LK n 1 ds = LA n 1 ds := congrFun (agree_of agA clA n 1 rfl) ds
theorem k2 {n : Nat} {ds : List D} : LK n 2 ds = LA n 2 ds := congrFun (agree_of agA clA n 2 rfl) ds
theorem k34 {n : Nat} {ds : List D} : LK n 34 ds = LA n 34 ds := congrFun (agree_of agA clA n 34 rfl) ds
theorem k35 {n : Nat} {ds : List D} : LK n 35 ds = LA n 35 ds := congrFun (agree_of agA clA n 35 rfl) ds
theorem k5 {n : Nat} {ds : List D} : LK n 5 ds = LA n 5 ds := congrFun (agree_of agA clA n 5 rfl) ds
theorem k6 {n : Nat} {ds : List D} : LK n 6 ds = LA n 6 ds := congrFun (agree_of agA clA n 6 rfl) ds
theorem k7 {n : Nat} {ds : List D} : LK n 7 ds = LA n 7 ds := congrFun (agree_of agA clA n 7 rfl) ds
theorem k26 {n : Nat} {ds : List D} : LK n 26 ds = LA n 26 ds := congrFun (agree_of agA clA n 26 rfl) ds
theorem k36 {n : Nat} {ds : List D} : LK n 36 ds = LA n 36 ds := congrFun (agree_of agA clA n 36 rfl) ds
theorem k37 {n : Nat} {ds : List D} : LK n 37 ds = LA n 37 ds := congrFun (agree_of agA clA n 37 rfl) ds

/-- a list of digits made into letters -/
theorem c_text {m : Nat} {cell : Int} (hm : 2 ≤ m) : ∃ d, Fine d ∧ LK m 38 [.int cell] = .ok d [] := by
  obtain ⟨n, rfl⟩ := suc (m := m) (by omega)
  obtain ⟨ys, hd, e⟩ := c_draws (m := n) (cell := cell) (ss := [10, 2, 70, 9, 26, 26, 26, 26, 26, 26, 26, 26, 26]) (sizes_ok (by decide +kernel)) (by decide) (by omega)
  obtain ⟨y0, _, rfl, h0, hd⟩ := digs_cons hd
  obtain ⟨y1, _, rfl, h1, hd⟩ := digs_cons hd
  obtain ⟨y2, _, rfl, h2, hd⟩ := digs_cons hd
  obtain ⟨y3, xs, rfl, h3, hd⟩ := digs_cons hd
  obtain ⟨hxl, hx⟩ := digs_all (n := 9) (s := 26) hd
  clear hd
  refine wF_ex (wF_go f38 c38 [some (.int cell), none, none, none, none] rfl rfl rfl rfl ?_)
  unfold c38 f38
  simp! only []
  refine Eq.mpr (wpF_ok (d := intsD (y0 :: y1 :: y2 :: y3 :: xs)) (i := []) (k5.trans e)) ?_
  unfold intsD
  simp! only []
  rw [cutD_ft (by omega) (by omega), List.drop_take, show (4 : Int).toNat = 4 from rfl]
  simp only [List.drop_succ_cons, List.drop_zero]
  refine wLc_of (fun _ o => ∃ y, OneT y ∧ o = some y) ?_ (fun d hd => ?_) fun ys hy => ?_
  · unfold sizeLine
    rw [List.length_take, List.length_map]
    omega
  · obtain ⟨x, hx', rfl⟩ := List.mem_map.mp (List.mem_of_mem_take hd)
    obtain ⟨g0, g1⟩ := hx x hx'
    unfold wTurn
    simp! only []
    exact ⟨rfl, letter1 g0 g1 fun y h => ⟨by obtain ⟨c, _, rfl⟩ := h; rfl, y, h, rfl⟩⟩
  · have hl := hy.len
    rw [List.length_take, List.length_map] at hl
    have ho := Made.all (R := OneT) (fun d y ⟨c, h1, h2⟩ => by cases h2; exact h1) hy
    clear hy
    simp! only []
    generalize hdg : (D.lst (D.int y0 :: D.int y1 :: D.int y2 :: D.int y3 :: List.map D.int xs)) = dg
    refine wIf_join (fun e => ∃ zs, (∀ z ∈ zs, OneT z) ∧ zs.length ≤ 9 ∧ e = [some (.int cell), some dg, some (.lst zs), none, none]) ?_ ?_
    · subst hdg
      dsimp! only []
      split
      · have sh : Shps 1 ys := shps_of fun y hy => by
          obtain ⟨c, hc, rfl⟩ := ho y hy
          exact shp_str ((strOk_iff _).mpr fun x hx => by
            have : x = c := by simpa using hx
            omega)
        have eN : eqD (.lst ys) (.lst []) = some ys.isEmpty := by
          rw [eqD_x ((shp_lst sh).mono (by omega)) ((shp_lst (n := 0) shps_nil).mono (by omega)), eqX_lst_nil sh]
        obtain ⟨_, ⟨c, rfl, hc⟩, es⟩ := c_sign (m := n) h2.1 (by omega) (by omega)
        replace es := k37.trans es
        rw [eN]
        dsimp! only []
        rcases Nat.eq_zero_or_pos ys.length with h0 | h0
        · have : ys = [] := List.length_eq_zero_iff.mp h0
          subst this
          simp! only []
          exact ⟨_, fun z hz => absurd hz (by simp), by simp, rfl⟩
        · have : ys.isEmpty = false := by cases ys <;> first | rfl | exact absurd h0 (by simp)
          rw [this]
          simp! only [es]
          have f1 := fmod_in (a := y3) (s := (ys.length : Int)) (by omega)
          refine ⟨by omega, ?_⟩
          rw [wSeti_at (ix_nn f1.1 f1.2)]
          simp! only []
          refine ⟨_, fun z hz => ?_, by rw [List.length_set]; omega, rfl⟩
          rcases List.mem_or_eq_of_mem_set hz with hz | rfl
          · exact ho z hz
          · exact ⟨c, hc, rfl⟩
      · simp! only []
        exact ⟨_, ho, by omega, rfl⟩
    rintro _ ⟨zs, hz, hzl, rfl⟩
    obtain ⟨ts, rfl, hsum, hfl, hch⟩ := ones_ex hz
    rw [List.length_map] at hzl
    simp! only [strs_map]
    refine ⟨decide_eq_true ?_, rfl, fine_str (fun c hc => hch c ?_) ?_⟩
    · rw [hsum, show (Str.ofString "").length = 0 by decide +kernel]
      omega
    · rw [joinE] at hc; exact hc
    · rw [joinE, hfl]; omega
/-- the slots -/
abbrev env39 (cell : Int) (dg : D) (way sign kind above below small : Int) (pair : List D) (o : Option D) : Fc.Env := [some (.int cell), some dg, some (.int way), some (.int sign), some (.int kind), some (.int above), some (.int below), some (.int small), some (.lst pair), o]
theorem c_pair {m : Nat} {cell : Int} (hm : 2 ≤ m) : ∃ d, Fine d ∧ LK m 39 [.int cell] = .ok d [] := by
  obtain ⟨n, rfl⟩ := suc (m := m) (by omega)
  obtain ⟨ys, hd, e⟩ := c_draws (m := n) (cell := cell) (ss := [8, 2, 4, 10 ^ 60, 10 ^ 60 - 1, 7]) (sizes_ok (by decide +kernel)) (by decide) (by omega)
  obtain ⟨y0, _, rfl, h0, hd⟩ := digs_cons hd
  obtain ⟨y1, _, rfl, h1, hd⟩ := digs_cons hd
  obtain ⟨y2, _, rfl, h2, hd⟩ := digs_cons hd
  obtain ⟨y3, _, rfl, h3, hd⟩ := digs_cons hd
  obtain ⟨y4, _, rfl, h4, hd⟩ := digs_cons hd
  obtain ⟨y5, _, rfl, h5, hd⟩ := digs_cons hd
  have := digs_nil hd
  subst this
  clear hd
  refine wF_ex (wF_go f39 c39 [some (.int cell), none, none, none, none, none, none, none, none, none] rfl rfl rfl rfl ?_)
  unfold c39 f39
  simp! only []
  refine Eq.mpr (wpF_ok (d := intsD [y0, y1, y2, y3, y4, y5]) (i := []) (k5.trans e)) ?_
  unfold intsD
  simp! only []
  generalize hdg : D.lst [D.int y0, D.int y1, D.int y2, D.int y3, D.int y4, D.int y5] = dg
  refine wIf_join (fun e => ∃ a b : Int, (0 ≤ a ∧ a < 10 ^ 60) ∧ (0 ≤ b ∧ b < 10 ^ 60 - 1) ∧ e = [some (.int cell), some dg, some (.int y0), some (.int y1), some (.int y2), some (.int a), some (.int b), some (.int y5), none, none]) ?_ ?_
  · dsimp! only []
    split
    · simp! only []
      have f1 := fmod_in (a := y3) (s := 5) (by omega)
      have f2 := fmod_in (a := y4) (s := 5) (by omega)
      exact ⟨_, _, by omega, by omega, rfl⟩
    · simp! only []
      exact ⟨_, _, h3, h4, rfl⟩
  rintro _ ⟨a, b, ha, hb, rfl⟩
  have na : Nb 8000 a := nb_60 ha.1 (by omega)
  have nb : Nb 8000 (1 + b) := nb_60 (by omega) (by omega)
  have nb' : Nb 8000 b := nb_60 (by omega) (by omega)
  have n2 : Nb 64 2 := by unfold Nb; decide
  have n1 : Nb 64 y1 := by unfold Nb; omega
  have n2a := n2.mul na
  have n2s := n2a.mul n1
  simp! only []
  refine ⟨n2.mok na (by omega) (by omega) (by omega), n2a.mok n1 (by omega) (by omega) (by omega), ?_⟩
  have nt : Nb 9000 (a - 2 * a * y1) := ((na.mono (by omega)).sub n2s).mono (by omega)
  generalize a - 2 * a * y1 = t at nt ⊢
  refine wIf_join (fun e => ∃ u, Nb 8900 u ∧ e = env39 cell dg y0 y1 y2 a b y5 [.int t, .int u] none) ?_ ?_
  · dsimp! only []
    split
    · simp! only []
      exact ⟨_, (Nb.sub (k := 8000) (nb_small' (by omega) (by decide)) nb').mono (by omega), rfl⟩
    · simp! only []
      exact ⟨_, nb'.mono (by omega), rfl⟩
  rintro _ ⟨u, hu, rfl⟩
  unfold env39
  simp! only []
  have e2 := c_ldivisor (m := n) (a := a) (b := 1 + b) (by omega) (nb.mono (by omega)) (by omega)
  have hg : 0 < (Int.gcd a (1 + b) : Int) := by
    have := Int.gcd_pos_of_ne_zero_right a (b := 1 + b) (by omega)
    omega
  have ng : Nb 8000 (Int.gcd a (1 + b) : Int) := gcd_small (by omega) nb
  generalize (Int.gcd a (1 + b) : Int) = g at e2 hg ng
  refine wIf_join (fun e => ∃ v w o, Nb 9000 v ∧ Nb 9000 w ∧ e = env39 cell dg y0 y1 y2 a b y5 [.int v, .int w] o) ?_ ?_
  · dsimp! only []
    split
    · simp! only [k7, e2]
      exact ⟨ng.div (by omega) (by omega), ng.div (by omega) (by omega), _, _, _, nt.fdv hg, (nb.fdv hg).mono (by omega), rfl⟩
    · simp! only []
      exact ⟨_, _, _, nt, hu.mono (by omega), rfl⟩
  rintro _ ⟨v, w, o, hv, hw, rfl⟩
  unfold env39
  simp! only []
  refine wIf_join (fun e => ∃ p q o, Fine p ∧ Fine q ∧ e = env39 cell dg y0 y1 y2 a b y5 [p, q] o) ?_ ?_
  · dsimp! only []
    split
    · simp! only []
      refine wAt (by omega) (by simp; omega) fun x hx => ?_
      have fx : Fine x := Fines.mem (ds := [.bl true, .non, .str "1", .bl false]) (fineBs_ok _ (by decide +kernel)) hx
      simp! only []
      rw [wSeti_at (ix_nn (by omega) (by simp; omega))]
      simp! only []
      have hk : (y0 - 6).toNat = 0 ∨ (y0 - 6).toNat = 1 := by omega
      rcases hk with hk | hk <;> rw [hk]
      · exact ⟨_, _, _, fx, fine_i hw, rfl⟩
      · exact ⟨_, _, _, fine_i hv, fx, rfl⟩
    · simp! only []
      exact ⟨_, _, _, fine_i hv, fine_i hw, rfl⟩
  rintro _ ⟨p, q, o, hp, hq, rfl⟩
  unfold env39
  simp! only []
  dsimp! only []
  split
  · simp! only []
    exact ⟨hp, hq, trivial⟩
  · simp! only []
    exact ⟨hp, hq, trivial⟩
theorem c_odd {m : Nat} {cell : Int} (hm : 2 ≤ m) : ∃ d, Fine d ∧ LK m 40 [.int cell] = .ok d [] := by
  obtain ⟨n, rfl⟩ := suc (m := m) (by omega)
  obtain ⟨ys, hd, e⟩ := c_draws (m := n) (cell := cell) (ss := [18, 10 ^ 60]) (sizes_ok (by decide +kernel)) (by decide) (by omega)
  obtain ⟨y0, _, rfl, h0, hd⟩ := digs_cons hd
  obtain ⟨y1, _, rfl, h1, hd⟩ := digs_cons hd
  have := digs_nil hd
  subst this
  clear hd
  refine wF_ex (wF_go f40 c40 [some (.int cell), none, none, none] rfl rfl rfl rfl ?_)
  unfold c40 f40
  simp! only []
  refine Eq.mpr (wpF_ok (d := intsD [y0, y1]) (i := []) (k5.trans e)) ?_
  unfold intsD
  simp! only []
  refine wAt h0.1 (by simp; omega) fun d hd => ⟨fun e => Bool.noConfusion e, Fines.mem (ds := _) ?_ hd, rfl⟩
  have h2 : Fine (.int y1) := (nb_60 h1.1 (by omega)).mono (by omega)
  repeat' apply fines_c
  all_goals first
    | exact fineB_ok _ (by decide +kernel)
    | exact h2
    | exact fine_t (fines_c h2 fines_n)
    | exact fine_t (fines_c h2 (fines_c (fineB_ok _ rfl) trivial))
    | exact trivial
theorem c_right {m : Nat} {d : D} (h : Fine d) (hm : 3 ≤ m) : LK m 42 [d] = .ok (.bl true) [] := by
  obtain ⟨n, rfl⟩ := suc (m := m) (by omega)
  have tr : ∀ b : Bool, LK n 41 [.bl b, .bl b] = .ok (.bl true) [] := fun b => by
    obtain ⟨j, rfl⟩ := suc (m := n) (by omega)
    refine wF_eq (wF_go f41 c41 [some (.bl b), some (.bl b)] rfl rfl rfl rfl ?_)
    unfold c41 f41
    simp! only []
    simp
    rfl
  have a1 := k1.trans (c_is_whole (m := n) h.plain (by omega))
  have a2 := k6.trans (c_lwhole (m := n) h.plain (by omega))
  have a3 := k35.trans (c_is_name (m := n) h (by omega))
  have a4 := k36.trans (c_lname (m := n) h (by omega))
  have a5 := k34.trans (c_is_ratio (m := n) h (by omega))
  have a6 := k26.trans (c_lratio (m := n) h (by omega))
  refine wF_eq (wF_go f42 c42 [some d] rfl rfl rfl rfl ?_)
  unfold c42 f42
  simp! only []
  dsimp! only [a1, a2, a3, a4, tr]
  simp! only []
  dsimp! only [a3, a4, tr]
  simp! only [a5, a6, tr]
  rfl
theorem law_ok : ∀ ns : List Int, ns.length ≤ 63 → callN regK supG fuelG 10 43 [.lst (ns.map .int)] = .ok (.bl true) [] := by
  intro ns hl
  refine wF_eq (wF_go f43 c43 [some (.lst (ns.map .int)), none, none, none] rfl rfl rfl rfl ?_)
  unfold c43 f43
  simp! only [cutD_to (show (0 : Int) ≤ 63 by decide)]
  refine ⟨by rw [List.length_take]; omega, ?_⟩
  refine wFor_inv (fun ds e => (∀ d ∈ ds, ∃ i : Int, d = .int i) ∧ ∃ o1 o2 o3, e = [some (.lst (ns.map .int)), o1, o2, o3]) ⟨?_, _, _, _, rfl⟩ ?_ ?_
  · intro d hd
    rcases List.mem_cons.mp hd with rfl | hd
    · exact ⟨0, rfl⟩
    · obtain ⟨i, _, rfl⟩ := List.mem_map.mp (List.mem_of_mem_take hd)
      exact ⟨i, rfl⟩
  · rintro d ds _ ⟨hd, o1, o2, o3, rfl⟩
    obtain ⟨c, rfl⟩ := hd d (by simp)
    have hds : ∀ d ∈ ds, ∃ i : Int, d = .int i := fun d h => hd d (by simp [h])
    obtain ⟨t, ht, et⟩ := c_text (m := 9) (cell := c) (by omega)
    obtain ⟨p, hp, ep⟩ := c_pair (m := 9) (cell := c) (by omega)
    obtain ⟨o, ho, eo⟩ := c_odd (m := 9) (cell := c) (by omega)
    obtain ⟨ys, hg, e⟩ := c_draws (m := 9) (cell := c) (ss := [10 ^ 60]) (sizes_ok (by decide +kernel)) (by decide) (by omega)
    obtain ⟨y0, _, rfl, h0, hg⟩ := digs_cons hg
    have := digs_nil hg
    subst this
    replace e := k5.trans e
    unfold intsD at e
    simp only [List.map_cons, List.map_nil] at e
    have e' : LK 9 5 [D.int c, D.lst [D.int 1000000000000000000000000000000000000000000000000000000000000]] = .ok (.lst [.int y0]) [] := e
    have n0 : Nb 8000 y0 := nb_60 h0.1 (by omega)
    have r1 := c_right (m := 9) ht (by omega)
    have r2 := c_right (m := 9) (fine_i (n0.mono (by omega))) (by omega)
    have r3 := c_right (m := 9) (fine_i (i := 0 - y0) ((Nb.sub (k := 8000) (nb_small' (by omega) (by decide)) n0).mono (by omega))) (by omega)
    have r4 := c_right (m := 9) hp (by omega)
    have r5 := c_right (m := 9) ho (by omega)
    simp! only [et, ep, eo, e']
    rw [wFor_cons]
    simp! only []
    dsimp! only [r1]
    simp! only []
    rw [wFor_cons]
    simp! only []
    dsimp! only [r2]
    simp! only []
    rw [wFor_cons]
    simp! only []
    dsimp! only [r3]
    simp! only []
    rw [wFor_cons]
    simp! only []
    dsimp! only [r4]
    simp! only []
    rw [wFor_cons]
    simp! only []
    dsimp! only [r5]
    simp! only []
    rw [wFor_nil]
    exact ⟨hds, _, _, _, rfl⟩
  · rintro _ ⟨_, o1, o2, o3, rfl⟩
    simp! only []
    rfl

end
set_option maxRecDepth 100000
set_option maxHeartbeats 0
open Fc PySem PySem.Spec L2
open PyProof.Rows hiding St
def top (i : Nat) : Stmt := PySem.Challenge.pw_farthestcut_k04_names_and_kinds.main.body.getD i (.Pass ⟨0, 0, 0, 0⟩)
def bn : List Str := ["abs", "range", "len", "int", "bool", "str", "tuple", "max", "isinstance"]
def cs : List (Str × D) := [("LETTERS", (.str "abcdefghijklmnopqrstuvwxyz")), ("MOST_SIGNS", (.int 8))]
def d1 : FDef := ⟨top 3, "is_whole", ["thing"], ["thing"], ⟨1, [], .imm⟩, c1⟩
def o1 : Option (List M) := none
def d2 : FDef := ⟨top 4, "divisor", ["one", "other"], ["one", "other"], ⟨2, [], .imm⟩, c2⟩
def o2 : Option (List M) := none
def d34 : FDef := ⟨top 5, "is_ratio", ["thing"], ["thing"], ⟨1, [], .imm⟩, c34⟩
def o34 : Option (List M) := none
def d35 : FDef := ⟨top 6, "is_name", ["thing"], ["thing", "sign"], ⟨1, [], .imm⟩, c35⟩
def o35 : Option (List M) := none
def d5 : FDef := ⟨top 8, "_law_draws", ["cell", "sizes"], ["cell", "sizes", "number", "left", "found", "k", "one"], ⟨2, [], .top⟩, c5⟩
def o5 : Option (List M) := none
def d6 : FDef := ⟨top 9, "_law_whole", ["thing"], ["thing"], ⟨1, [], .imm⟩, c6⟩
def o6 : Option (List M) := none
def d7 : FDef := ⟨top 10, "_law_divisor", ["one", "other"], ["one", "other"], ⟨2, [], .imm⟩, c7⟩
def o7 : Option (List M) := none
def d26 : FDef := ⟨top 11, "_law_is_ratio", ["thing"], ["thing"], ⟨1, [], .imm⟩, c26⟩
def o26 : Option (List M) := none
def d36 : FDef := ⟨top 12, "_law_is_name", ["thing"], ["thing", "sign"], ⟨1, [], .imm⟩, c36⟩
def o36 : Option (List M) := none
def d37 : FDef := ⟨top 13, "_law_sign", ["kind"], ["kind", "some"], ⟨1, [], .imm⟩, c37⟩
def o37 : Option (List M) := none
def d38 : FDef := ⟨top 14, "_law_text", ["cell"], ["cell", "digits", "signs", ".0", "digit"], ⟨1, [], .imm⟩, c38⟩
def o38 : Option (List M) := none
def d39 : FDef := ⟨top 15, "_law_pair", ["cell"], ["cell", "digits", "way", "sign", "kind", "above", "below", "small", "pair", "share"], ⟨1, [], .sh⟩, c39⟩
def o39 : Option (List M) := none
def d40 : FDef := ⟨top 16, "_law_odd", ["cell"], ["cell", "kind", "number", "some"], ⟨1, [], .sh⟩, c40⟩
def o40 : Option (List M) := none
def d41 : FDef := ⟨top 17, "_law_truth", ["found", "due"], ["found", "due"], ⟨2, [], .imm⟩, c41⟩
def o41 : Option (List M) := none
def d42 : FDef := ⟨top 18, "_law_right", ["thing"], ["thing"], ⟨1, [], .imm⟩, c42⟩
def o42 : Option (List M) := none
def d43 : FDef := ⟨top 19, "law", ["script"], ["script", "cell", "number", "thing"], ⟨1, [], .imm⟩, c43⟩
def o43 : Option (List M) := none
def fs : Tab := [(1, d1), (2, d2), (34, d34), (35, d35), (5, d5), (6, d6), (7, d7), (26, d26), (36, d36), (37, d37), (38, d38), (39, d39), (40, d40), (41, d41), (42, d42), (43, d43)]
theorem w1 : CodeP fs cs bn 60 d1 := codeP o1 (by kernel_rfl) (by kernel_rfl)
theorem b1 : BindP d1 := fun _ _ _ _ _ _ us hl => match us, hl with | [_], _ => rfl
theorem w2 : CodeP fs cs bn 60 d2 := codeP o2 (by kernel_rfl) (by kernel_rfl)
theorem b2 : BindP d2 := fun _ _ _ _ _ _ us hl => match us, hl with | [_, _], _ => rfl
theorem w34 : CodeP fs cs bn 60 d34 := codeP o34 (by kernel_rfl) (by kernel_rfl)
theorem b34 : BindP d34 := fun _ _ _ _ _ _ us hl => match us, hl with | [_], _ => rfl
theorem w35 : CodeP fs cs bn 60 d35 := codeP o35 (by kernel_rfl) (by kernel_rfl)
theorem b35 : BindP d35 := fun _ _ _ _ _ _ us hl => match us, hl with | [_], _ => rfl
theorem w5 : CodeP fs cs bn 60 d5 := codeP o5 (by kernel_rfl) (by kernel_rfl)
theorem b5 : BindP d5 := fun _ _ _ _ _ _ us hl => match us, hl with | [_, _], _ => rfl
theorem w6 : CodeP fs cs bn 60 d6 := codeP o6 (by kernel_rfl) (by kernel_rfl)
theorem b6 : BindP d6 := fun _ _ _ _ _ _ us hl => match us, hl with | [_], _ => rfl
theorem w7 : CodeP fs cs bn 60 d7 := codeP o7 (by kernel_rfl) (by kernel_rfl)
theorem b7 : BindP d7 := fun _ _ _ _ _ _ us hl => match us, hl with | [_, _], _ => rfl
theorem w26 : CodeP fs cs bn 60 d26 := codeP o26 (by kernel_rfl) (by kernel_rfl)
theorem b26 : BindP d26 := fun _ _ _ _ _ _ us hl => match us, hl with | [_], _ => rfl
theorem w36 : CodeP fs cs bn 60 d36 := codeP o36 (by kernel_rfl) (by kernel_rfl)
theorem b36 : BindP d36 := fun _ _ _ _ _ _ us hl => match us, hl with | [_], _ => rfl
theorem w37 : CodeP fs cs bn 60 d37 := codeP o37 (by kernel_rfl) (by kernel_rfl)
theorem b37 : BindP d37 := fun _ _ _ _ _ _ us hl => match us, hl with | [_], _ => rfl
theorem w38 : CodeP fs cs bn 60 d38 := codeP o38 (by kernel_rfl) (by kernel_rfl)
theorem b38 : BindP d38 := fun _ _ _ _ _ _ us hl => match us, hl with | [_], _ => rfl
theorem w39 : CodeP fs cs bn 60 d39 := codeP o39 (by kernel_rfl) (by kernel_rfl)
theorem b39 : BindP d39 := fun _ _ _ _ _ _ us hl => match us, hl with | [_], _ => rfl
theorem w40 : CodeP fs cs bn 60 d40 := codeP o40 (by kernel_rfl) (by kernel_rfl)
theorem b40 : BindP d40 := fun _ _ _ _ _ _ us hl => match us, hl with | [_], _ => rfl
theorem w41 : CodeP fs cs bn 60 d41 := codeP o41 (by kernel_rfl) (by kernel_rfl)
theorem b41 : BindP d41 := fun _ _ _ _ _ _ us hl => match us, hl with | [_, _], _ => rfl
theorem w42 : CodeP fs cs bn 60 d42 := codeP o42 (by kernel_rfl) (by kernel_rfl)
theorem b42 : BindP d42 := fun _ _ _ _ _ _ us hl => match us, hl with | [_], _ => rfl
theorem w43 : CodeP fs cs bn 60 d43 := codeP o43 (by kernel_rfl) (by kernel_rfl)
theorem b43 : BindP d43 := fun _ _ _ _ _ _ us hl => match us, hl with | [_], _ => rfl
theorem hc : ∀ (i : Nat) (d : FDef), fs.lookup i = some d → CodeP fs cs bn 60 d := allP ⟨w1, w2, w34, w35, w5, w6, w7, w26, w36, w37, w38, w39, w40, w41, w42, w43, trivial⟩
theorem hb : ∀ (i : Nat) (d : FDef), fs.lookup i = some d → BindP d := allP ⟨b1, b2, b34, b35, b5, b6, b7, b26, b36, b37, b38, b39, b40, b41, b42, b43, trivial⟩

theorem agK : AllN (fun i => (fs.lookup i).map FDef.fn = regK i) [1, 2, 34, 35, 5, 6, 7, 26, 36, 37, 38, 39, 40, 41, 42, 43] := ⟨rfl, rfl, rfl, rfl, rfl, rfl, rfl, rfl, rfl, rfl, rfl, rfl, rfl, rfl, rfl, rfl, trivial⟩
theorem clK : closedB regK [1, 2, 34, 35, 5, 6, 7, 26, 36, 37, 38, 39, 40, 41, 42, 43] = true := by decide +kernel
theorem law_fin : ∀ ns : List Int, ns.length ≤ 63 → callF fs supG fuelG 10 43 [.lst (ns.map .int)] = .ok (.bl true) [] := fun ns h => (congrFun (agree_of agK clK 10 43 rfl) _).trans (law_ok ns h)
/-! ### the head -/
abbrev Rw : PySem.W.OpenRow := PySem.W.OpenLaw.row PySem.Challenge.rw_farthestcut_k04_names_and_kinds
def loose : List Str := (["LETTERS", "MOST_SIGNS", "is_whole", "divisor", "is_ratio", "is_name", "_law_draws", "_law_whole", "_law_divisor", "_law_is_ratio", "_law_is_name", "_law_sign", "_law_text", "_law_pair", "_law_odd", "_law_truth", "_law_right"] : List Str)
abbrev hk : PySem.W.Hook := hookF 4 (chkF fs cs bn) ((fs.map (·.2)).map ddF)
def ob (s : PySem.W.SharedT) : He.AlD := obsFG 4 (chkF fs cs bn) ((fs.map (·.2)).map ddF) (HandSHeadRun.getT s)
theorem ob_eq (s : PySem.W.SharedT) : ob s = hk.obs s.abs := obsFG_eq (HandSHeadRun.getT_eq s)
theorem run (w : World) : HandSHeadRun.RunEq Rw (PySem.W.view Rw.prog [19]) hk ob 800 loose w := by
  intro os
  kernel_rfl
end LawX
open PySem PySem.W PySem.Calls PyProof.Rows
theorem PySem.Challenge.cw_farthestcut_k04_names_and_kinds_holds : PySem.Challenge.rw_farthestcut_k04_names_and_kinds.Holds := by
  w_on; o_law
  refine HandSHeadRun.head_any (r := LawX.Rw) (q := view LawX.Rw.prog [19]) (H := LawX.hk) (ob := LawX.ob) (M := 800) (loose := LawX.loose) (d := HandSHeadRun.topDef LawX.Rw.prog 19) (kwd := []) LawX.ob_eq
    (by kernel_rfl) (fun s => by kernel_rfl) LawX.run (by kernel_rfl) (by kernel_rfl) (by kernel_rfl) (by rfl) (by first | assumption | decide +kernel) (by decide +kernel) ⟨rfl, rfl, rfl, rfl, rfl, by decide +kernel⟩ ?hw ?hc
  case hw => w_witness2
  case hc =>
    exact Fc.law_end (n := 63) (N := 10) (iL := 43) (dL := LawX.d43) (nf := 60) (sup := Fc.supG) (fuel := Fc.fuelG) (x := "script") (by decide +kernel) rfl (by decide) (by kernel_rfl) ⟨rfl, by decide, by decide⟩ rfl (by kernel_rfl) rfl rfl rfl LawX.hc LawX.hb LawX.law_fin
