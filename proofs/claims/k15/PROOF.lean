import PyProof.Rows.All
import Wide.All
import OpenK.AllK
import Wide.FinOn
import PySem.Challenge.RW_ringless_k15_letters_told
import HandS.ForMost
import HandS.ForExc
import HandS.Deep
import HandS.Defaults
import HandS.List
import HandS.TupAny
import HandS.IsInst
import HandS.OwnEq
import HandS.MakeKwOnly
import HandS.Flow
import HandS.HeadHook4
import HandS.HeadEnd
import HandS.Head2
import HandS.Head0
import HandS.Head1
set_option Elab.async false
set_option linter.all false
set_option maxRecDepth 100000
set_option maxHeartbeats 4000000
/-! VmA: a small machine over plain data: values, codes, steps. -/
namespace VM
open PySem L2

/-- plain data: frozen lists, tuples, dicts, instances by value; what may change by its place in the machine's own heap -/
inductive D where
  | non | bl (b : Bool) | int (i : Int) | str (s : Str) | ref (n : Nat)
  | tup (ds : List D) | lst (ds : List D) | rl (ds : List D)
  | ins (c : Nat) (fs : List (Nat × D))
  deriving Inhabited
inductive Ob where
  | dead
  | lst (ds : List D)
  | ins (c : Nat) (fs : List (Nat × D))
  | dK (kvs : List (Key × D))
  | dT (kvs : List (List Key × D))
  deriving Inhabited
abbrev Hs := List Ob
abbrev Sl := List (Option D)
structure Xc where
  cls : Nat
  fs : List (Nat × D)
inductive Res (α : Type) where
  | ok (a : α) (h : Hs)
  | ex (x : Xc) (h : Hs)
  | bad
def Res.bind {α β : Type} : Res α → (α → Hs → Res β) → Res β
  | .ok a h, f => f a h
  | .ex x h, _ => .ex x h
  | .bad, _ => .bad
/-- an option's value, or the machine stands still -/
def orBad {α β : Type} (o : Option α) (f : α → Res β) : Res β := match o with
  | some a => f a
  | none => .bad
/-! ### values as data to be compared -/
mutual
def toPy (g : Nat → Option PyData) : D → Option PyData
  | .non => some .none
  | .bl b => some (.bool b)
  | .int i => some (.int i)
  | .str s => some (.str s)
  | .ref n => g n
  | .tup ds => (toPys g ds).map .tuple
  | .lst ds => (toPys g ds).map .list
  | .rl ds => (toPys g ds).map .list
  | .ins _ _ => none
def toPys (g : Nat → Option PyData) : List D → Option (List PyData)
  | [] => some []
  | d :: ds => (toPy g d).bind fun p => (toPys g ds).map fun ps => p :: ps
end
/-- lists of the heap, so many deep -/
def pyH (h : Hs) : Nat → Nat → Option PyData
  | 0, _ => none
  | k + 1, n => match h[n]? with
    | some (.lst ds) => (toPys (pyH h k) ds).map .list
    | _ => none
def py (h : Hs) (d : D) : Option PyData := (toPy (pyH h 6) d).bind fun p => if SeqAt.shaped p then some p else none
def eqD (h : Hs) (a b : D) : Option Bool := (py h a).bind fun p => (py h b).map fun q => PyData.eqv p q
/-! ### truth, sequences, keys -/
def lim : Nat := 1000000
def truth (h : Hs) : D → Option Bool
  | .non => some false
  | .bl b => some b
  | .int i => some (i != 0)
  | .str s => if s.length ≤ lim then some (s.length != 0) else none
  | .tup ds => some (!ds.isEmpty)
  | .lst ds => some (!ds.isEmpty)
  | .rl ds => some (!ds.isEmpty)
  | .ref n => match h[n]? with
    | some (.lst ds) => some (!ds.isEmpty)
    | _ => none
  | .ins _ _ => none
/-- the items of a list or a tuple -/
def items (h : Hs) : D → Option (List D)
  | .tup ds => some ds
  | .lst ds => some ds
  | .rl ds => some ds
  | .ref n => match h[n]? with
    | some (.lst ds) => some ds
    | _ => none
  | _ => none
/-- the items of a list or tuple that no one changes -/
def frozenItems : D → Option (List D)
  | .tup ds => some ds
  | .lst ds => some ds
  | .rl ds => some ds
  | _ => none
def keyOf : D → Option Key
  | .int i => some (.inl i)
  | .str s => some (.inr s)
  | _ => none
def keysOf : List D → Option (List Key)
  | [] => some []
  | d :: ds => (keyOf d).bind fun k => (keysOf ds).map fun ks => k :: ks
def keyD : Key → D
  | .inl i => .int i
  | .inr s => .str s
def valD {κ : Type} [DecidableEq κ] (kvs : List (κ × D)) (k : κ) : Option D := (kvs.find? fun kv => decide (kv.1 = k)).map (·.2)
def putD {κ : Type} [DecidableEq κ] (kvs : List (κ × D)) (k : κ) (v : D) : List (κ × D) :=
  if (kvs.any fun kv => decide (kv.1 = k)) = true then kvs.map fun kv => if kv.1 = k then (kv.1, v) else kv else kvs ++ [(k, v)]
def dropD {κ : Type} [DecidableEq κ] (kvs : List (κ × D)) (k : κ) : List (κ × D) := kvs.filter fun kv => decide (kv.1 ≠ k)
/-- d[k] of a dict of the heap: none: it stands still; some none: it isn't there -/
def dlook (h : Hs) (n : Nat) (k : D) : Option (Option D) := match h[n]? with
  | some (.dK kvs) => (keyOf k).map fun q => valD kvs q
  | some (.dT kvs) => match k with
    | .tup ds => (keysOf ds).map fun q => valD kvs q
    | _ => none
  | _ => none
def dputO (o : Ob) (k v : D) : Option Ob := match o with
  | .dK kvs => (keyOf k).bind fun q => if kvs.length < lim then some (.dK (putD kvs q v)) else none
  | .dT kvs => match k with
    | .tup ds => (keysOf ds).bind fun q => if kvs.length < lim then some (.dT (putD kvs q v)) else none
    | _ => none
  | _ => none
/-- a place in bounds -/
def ixY0 (n : Nat) (y : D) : Option Nat := match y with
  | .int i => L2.ixN n i
  | _ => none
/-- x[y] = d, x as it stands -/
def storeO (ob : Ob) (y d : D) : Option Ob := match ob with
  | .lst ds => (ixY0 ds.length y).map fun j => .lst (ds.set j d)
  | ob => dputO ob y d
/-! ### fields -/
def putN (f : Nat) (v : D) : List (Nat × D) → List (Nat × D)
  | [] => [(f, v)]
  | (g, u) :: r => if g = f then (f, v) :: r else (g, u) :: putN f v r
/-! ### two-place operations -/
def big (i : Int) : Bool := decide (-(2 ^ 64) < i) && decide (i < 2 ^ 64)
def binI (op : Operator) (i j : Int) : Option Int := match op with
  | .Add => some (i + j)
  | .Sub => some (i - j)
  | .Mult => if big i || big j then some (i * j) else none
  | .FloorDiv => if 0 < j ∧ j < 1073741824 then some (i / j) else none
  | .Mod => if 0 < j then some (i % j) else none
  | .Pow => if 0 ≤ j ∧ j ≤ 1000000 ∧ i.natAbs < 2 ^ 64 then some (i ^ j.toNat) else none
  | _ => none
/-- lists and tuples join to frozen ones -/
def binV (op : Operator) (h : Hs) (a b : D) : Option D := match a, b with
  | .int i, .int j => (binI op i j).map .int
  | .str s, .str t => match op with
    | .Add => if s.length + t.length ≤ lim then some (.str (s ++ t)) else none
    | _ => none
  | .tup xs, .tup ys => match op with
    | .Add => if xs.isEmpty then none else if xs.length + ys.length ≤ lim then some (.tup (xs ++ ys)) else none
    | _ => none
  | _, _ => none
def cmpI (op : CmpOp) (i j : Int) : Option Bool := match op with
  | .Lt => some (decide (i < j))
  | .LtE => some (decide (i ≤ j))
  | .Gt => some (decide (j < i))
  | .GtE => some (decide (j ≤ i))
  | _ => none
def pyAny (p : PyData) (ps : List PyData) : Bool := ps.any fun z => PyData.eqv z p
/-- x in c -/
def inD (h : Hs) (a c : D) : Option Bool := match c with
  | .ref n => match h[n]? with
    | some (.lst _) => (py h a).bind fun p => match py h c with
      | some (.list ps) => some (pyAny p ps)
      | _ => none
    | some (.dK _) => (dlook h n a).map (·.isSome)
    | some (.dT _) => (dlook h n a).map (·.isSome)
    | _ => none
  | .str t => match a with
    | .str s => match s.cps.toList with
      | [c] => some (decide (c ∈ t.cps.toList))
      | _ => none
    | _ => none
  | .tup _ => none
  | _ => (py h a).bind fun p => match py h c with
    | some (.list ps) => some (pyAny p ps)
    | _ => none
def isNon : D → Bool
  | .non => true
  | _ => false
def cmpI2 (op : CmpOp) (a b : D) : Option Bool := match a, b with
  | .int i, .int j => cmpI op i j
  | _, _ => none
def cmpV (op : CmpOp) (h : Hs) (a b : D) : Option Bool := match op with
  | .Eq => eqD h a b
  | .NotEq => (eqD h a b).map (!·)
  | .In => inD h a b
  | .NotIn => (inD h a b).map (!·)
  | .Is => match b with
    | .non => some (isNon a)
    | _ => none
  | .IsNot => match b with
    | .non => some (!isNon a)
    | _ => none
  | _ => cmpI2 op a b
/-! ### built-in types, for isinstance -/
inductive Ty where
  | own (c : Nat) | int | bool | str | list | tuple | dict | value_error
  deriving DecidableEq
/-! ### codes -/
inductive Bi where
  | len | abs | sum | int | range1 | range2 | isi
  deriving DecidableEq
mutual
inductive E where
  | var (i : Nat) | int (i : Int) | bl (b : Bool) | non | str (s : Str)
  | bin (op : Operator) (a b : E) | cmp (op : CmpOp) (a b : E)
  | chain (op op2 : CmpOp) (a b c : E)
  | and_ (a b : E) | or_ (a b : E) | not_ (a : E) | ife (c a b : E)
  | tup (as : A) | frz (f : F) | heap (f : F) | frzr (e : E)
  | neg (a : E) | ix (a b : E) | fld (a : E) (f : Nat)
  | call (f : Nat) (as : A) | meth (o : E) (m : Nat) (as : A) | mk (c : Nat) (as : A)
  | len (a : E) | abs (a : E) | sum (a : E) | isi (a : E) (t : Ty)
  | append (o e : E) | pop (o : E) | popAt (o e : E)
  | dget2 (o k d : E) | dnew (t : Bool)
  | slice (fl fh : Bool) (a lo hi : E) | isiT (a : E) (ts : List Ty) | all (a : E) | any (a : E)
  | mkK (c k : Nat) (as ks : A) | eqI (ng : Bool) (m : Nat) (a b : E) | glo (k : Nat) | back (a : E) (k : Nat)
inductive A where
  | nil | cons (e : E) (as : A)
/-- what makes a new list -/
inductive F where
  | disp (as : A)
  | comp (own : List Nat) (tg : G) (it : I) (test : A) (e : E)
  | list (e : E) | cat (a b : E) | sorted (e : E) | rep (a b : E) | slice (fl fh : Bool) (a lo hi : E)
/-- what is walked -/
inductive I where
  | seq (e : E) | range (a : E) | range2 (a b : E) | enum (e : E)
inductive G where
  | name (i : Nat) | tup (gs : Gs) | sub (o i : E) | fld (o : E) (f : Nat)
inductive Gs where
  | nil | cons (g : G) (gs : Gs)
end
def Gs.len : Gs → Nat
  | .nil => 0
  | .cons _ gs => gs.len + 1
inductive S where
  | skip | seq (a b : S)
  | asg (g : G) (e : E)
  | asg2 (i j : Nat) (a b : E)
  | expr (e : E) | ret (e : E) | retN
  | if_ (c : E) (a b : S)
  | for_ (g : G) (it : I) (b : S)
  | while_ (c : E) (b : S)
  | brk | cont | never
/-! ### the text's tables -/
structure ClsT where
  name : Str
  anc : List Nat
  flds : List Nat
  meths : List (Nat × Nat)
  init : Nat
structure FnT where
  at_ : Str × Option Str
  N : List Str
  ps : Nat
  body : S
/-- a call with keywords: of the def f, n by place, the others by names; where each parameter's value stands -/
structure KwT where
  f : Nat
  n : Nat
  names : List Str
  perm : List Nat
structure Tab where
  nm : List Str
  cls : List ClsT
  fns : List FnT
  gls : List (Str × D) := []
  kws : List KwT := []
/-! ### steps -/
abbrev Call := Nat → List D → Hs → Res D
def getSl (σ : Sl) (i : Nat) : Option D := (σ[i]?).join
def atD (xs : List D) (i : Int) : Option D := L2.atI xs i
def wipeD (σ : Sl) : List Nat → Sl
  | [] => σ
  | v :: vs => (wipeD σ vs).set v none
def isTy (T : Tab) (h : Hs) (d : D) (t : Ty) : Option Bool := match d, t with
  | .ins c _, .own k => (T.cls[c]?).map fun ct => decide (k ∈ ct.anc)
  | .ref n, .own k => match h[n]? with
    | some (.ins c _) => (T.cls[c]?).map fun ct => decide (k ∈ ct.anc)
    | some (.lst _) => some false
    | some (.dK _) => some false
    | some (.dT _) => some false
    | _ => none
  | .non, _ => some false
  | .bl _, t => some (t == .bool || t == .int)
  | .int _, t => some (t == .int)
  | .str _, t => some (t == .str)
  | .tup _, t => some (t == .tuple)
  | .lst _, t => some (t == .list)
  | .rl _, t => some (t == .list)
  | .ref n, t => match h[n]? with
    | some (.lst _) => some (t == .list)
    | some (.dK _) => some (t == .dict)
    | some (.dT _) => some (t == .dict)
    | some (.ins c _) => (T.cls[c]?).map fun _ => false
    | _ => none
  | .ins c _, _ => (T.cls[c]?).map fun _ => false
def isTys (T : Tab) (h : Hs) (d : D) : List Ty → Option Bool
  | [] => some false
  | t :: ts => match isTy T h d t with
    | some true => some true
    | some false => isTys T h d ts
    | none => none
/-- an edge of a cut: written or not -/
def partD (fl : Bool) (d : D) : Option (Option Int) := match fl, d with
  | false, .non => some none
  | true, .int i => some (some i)
  | _, _ => none
def cutD (ds : List D) (lo hi : Option Int) : List D := (ds.drop (HT.sIx ds.length 0 lo)).take (HT.sIx ds.length ds.length hi - HT.sIx ds.length 0 lo)
def sliceD (x : D) (lo hi : Option Int) : Option D := match x with
  | .tup ds => some (.tup (cutD ds lo hi))
  | _ => none
/-- t[:k:-1] -/
def backD (x : D) (k : Nat) : Option D := match x with
  | .tup ds => if k < ds.length then some (.tup (ds.drop (k + 1)).reverse) else none
  | _ => none
/-- the items of a list -/
def lstI (h : Hs) : D → Option (List D)
  | .lst ds => some ds
  | .rl ds => some ds
  | .ref n => match h[n]? with
    | some (.lst ds) => some ds
    | _ => none
  | _ => none
/-- the items of a list of this machine's own -/
def mutI (h : Hs) : D → Option (List D)
  | .lst ds => some ds
  | .ref n => match h[n]? with
    | some (.lst ds) => some ds
    | _ => none
  | _ => none
def repK (ds : List D) : D → Option (List D)
  | .int k => if 0 ≤ k ∧ k < 2 ^ 62 ∧ ds.length * k.toNat ≤ lim then some (List.replicate k.toNat ds).flatten else none
  | _ => none
def boolsD : List D → Option (List Bool)
  | [] => some []
  | .bl b :: ds => (boolsD ds).map (b :: ·)
  | _ :: _ => none
def pick {α : Type} (perm : List Nat) (ws : List α) : List α := perm.filterMap fun i => ws[i]?
/-- the rows that a walked thing gives: its items -/
def clsD (h : Hs) (d : D) : Option (Nat × List (Nat × D)) := match d with
  | .ins c fs => some (c, fs)
  | .ref n => match h[n]? with
    | some (.ins c fs) => some (c, fs)
    | _ => none
  | _ => none
/-- y may stand at the right of an own == of the class c -/
def eqOk (T : Tab) (h : Hs) (y : D) (c : Nat) : Bool := decide (isTy T h y (.own c) = some false) || decide ((clsD h y).map (·.1) = some c)
def sumD : List D → Option Int
  | [] => some 0
  | .int i :: ds => (sumD ds).map (i + ·)
  | _ :: _ => none
/-- has the class the field -/
def hasF (T : Tab) (c f : Nat) : Bool := match T.cls[c]? with
  | some ct => ct.flds.contains f
  | none => false
def fldD (T : Tab) (h : Hs) (d : D) (f : Nat) : Option D := (clsD h d).bind fun cf => if hasF T cf.1 f then cf.2.lookup f else none
/-- x[y] -/
def atY (ds : List D) (y : D) : Option D := match y with
  | .int i => atD ds i
  | _ => none
def ixD (h : Hs) (x y : D) : Option D := match x with
  | .ref n => match h[n]? with
    | some (.lst ds) => atY ds y
    | _ => (dlook h n y).join
  | .str s => match y with
    | .int i => if s.length ≤ lim then (L2.atI s.cps.toList i).map fun c => .str ⟨#[c]⟩ else none
    | _ => none
  | x => (items h x).bind fun ds => atY ds y
def enumD : Nat → List D → List D
  | _, [] => []
  | k, d :: ds => .tup [.int (k : Int), d] :: enumD (k + 1) ds
def rangeD (lo : Int) : Nat → List D
  | n => (List.range n).map fun (i : Nat) => D.int (lo + (i : Int))
def asRef (n : Nat) (v : D) (h : Hs) : Res D := match v with
  | .non => .ok (.ref n) h
  | _ => .bad
/-- a list that may be changed -/
def refL (h : Hs) (x : D) : Option (Nat × List D) := match x with
  | .ref n => match h[n]? with
    | some (.lst ds) => some (n, ds)
    | _ => none
  | _ => none
def refD (h : Hs) (x : D) : Option Nat := match x with
  | .ref n => match h[n]? with
    | some (.dK _) => some n
    | some (.dT _) => some n
    | _ => none
  | _ => none
/-- a place in bounds -/
def ixY (n : Nat) (y : D) : Option Nat := match y with
  | .int i => if -(2 ^ 62) ≤ i ∧ i < 2 ^ 62 then L2.ixN n i else none
  | _ => none
/-- it is changed no more: its value -/
def killD (d : D) (h : Hs) : Res D := match d with
  | .ref n => match h[n]? with
    | some (.lst ds) => .ok (.lst ds) (h.set n .dead)
    | some (.ins c fs) => .ok (.ins c fs) (h.set n .dead)
    | _ => .bad
  | _ => .bad
section
variable (T : Tab) (cl : Call)
/-- a loop over items that gather -/
def gather (turn : D → Hs → Res (Option D)) : List D → List D → Hs → Res (List D)
  | [], acc, h => .ok acc h
  | d :: ds, acc, h => match turn d h with
    | .ok (some y) h' => gather turn ds (acc ++ [y]) h'
    | .ok none h' => gather turn ds acc h'
    | _ => .bad
/-- x == y, x != y by x's own __eq__ -/
def eqIb (ng : Bool) (m : Nat) (x y : D) (h : Hs) : Res Bool := orBad (clsD h x) fun cf => orBad (T.cls[cf.1]?) fun ct => orBad (ct.meths.lookup m) fun f => if eqOk T h y cf.1 then match cl f [x, y] h with
    | .ok (.bl r) h3 => .ok (r != ng) h3
    | _ => .bad
  else .bad
mutual
def ev : E → Sl → Hs → Res D
  | .var i, σ, h => orBad (getSl σ i) fun d => .ok d h
  | .int i, _, h => .ok (.int i) h
  | .bl b, _, h => .ok (.bl b) h
  | .non, _, h => .ok .non h
  | .str s, _, h => .ok (.str s) h
  | .bin op a b, σ, h => (ev a σ h).bind fun x h1 => (ev b σ h1).bind fun y h2 => orBad (binV op h2 x y) fun z => .ok z h2
  | .cmp op a b, σ, h => (ev a σ h).bind fun x h1 => (ev b σ h1).bind fun y h2 => orBad (cmpV op h2 x y) fun z => .ok (.bl z) h2
  | .chain op op2 a b c, σ, h => (ev a σ h).bind fun x h1 => (ev b σ h1).bind fun y h2 => orBad (cmpV op h2 x y) fun t =>
      if t then (ev c σ h2).bind fun z h3 => orBad (cmpV op2 h3 y z) fun u => .ok (.bl u) h3 else .ok (.bl false) h2
  | .and_ a b, σ, h => (ev a σ h).bind fun x h1 => orBad (truth h1 x) fun t => if t then ev b σ h1 else .ok x h1
  | .or_ a b, σ, h => (ev a σ h).bind fun x h1 => orBad (truth h1 x) fun t => if t then .ok x h1 else ev b σ h1
  | .not_ a, σ, h => (ev a σ h).bind fun x h1 => orBad (truth h1 x) fun t => .ok (.bl (!t)) h1
  | .ife c a b, σ, h => (ev c σ h).bind fun x h1 => orBad (truth h1 x) fun t => if t then ev a σ h1 else ev b σ h1
  | .tup as, σ, h => (evA as σ h).bind fun ds h1 => if ds.length ≤ lim then .ok (.tup ds) h1 else .bad
  | .frz f, σ, h => (evF f σ h).bind fun ds h1 => .ok (.lst ds) h1
  | .heap f, σ, h => (evF f σ h).bind fun ds h1 => .ok (.ref h1.length) (h1 ++ [.lst ds])
  | .frzr e, σ, h => (ev e σ h).bind fun d h1 => killD d h1
  | .neg a, σ, h => (ev a σ h).bind fun x h1 => match x with
    | .int i => .ok (.int (-i)) h1
    | _ => .bad
  | .ix a b, σ, h => (ev a σ h).bind fun x h1 => (ev b σ h1).bind fun y h2 => orBad (ixD h2 x y) fun z => .ok z h2
  | .fld a f, σ, h => (ev a σ h).bind fun x h1 => orBad (fldD T h1 x f) fun z => .ok z h1
  | .call f as, σ, h => (evA as σ h).bind fun ds h1 => cl f ds h1
  | .meth o m as, σ, h => (ev o σ h).bind fun x h1 => orBad (clsD h1 x) fun cf => if (cf.2.lookup m).isSome then .bad else
      orBad ((T.cls[cf.1]?).bind fun ct => ct.meths.lookup m) fun f => (evA as σ h1).bind fun ds h2 => cl f (x :: ds) h2
  | .mk c as, σ, h => (evA as σ h).bind fun ds h1 => orBad (T.cls[c]?) fun ct => (cl ct.init (.ref h1.length :: ds) (h1 ++ [.ins c []])).bind fun v h2 => asRef h1.length v h2
  | .len a, σ, h => (ev a σ h).bind fun x h1 => match x with
    | .str s => if s.length ≤ lim then .ok (.int s.length) h1 else .bad
    | _ => orBad (items h1 x) fun ds => .ok (.int ds.length) h1
  | .abs a, σ, h => (ev a σ h).bind fun x h1 => match x with
    | .int i => .ok (.int (if i < 0 then -i else i)) h1
    | _ => .bad
  | .sum a, σ, h => (ev a σ h).bind fun x h1 => match x with
    | .lst ds => orBad (sumD ds) fun i => .ok (.int i) h1
    | .rl ds => orBad (sumD ds) fun i => .ok (.int i) h1
    | _ => .bad
  | .isi a t, σ, h => (ev a σ h).bind fun x h1 => orBad (isTy T h1 x t) fun b => .ok (.bl b) h1
  | .append o e, σ, h => (ev o σ h).bind fun x h1 => orBad (refL h1 x) fun _ => (ev e σ h1).bind fun y h2 => orBad (refL h2 x) fun nd =>
      if nd.2.length < lim then .ok .non (h2.set nd.1 (.lst (nd.2 ++ [y]))) else .bad
  | .pop o, σ, h => (ev o σ h).bind fun x h1 => orBad (refL h1 x) fun nd => orBad (nd.2[nd.2.length - 1]?) fun z => .ok z (h1.set nd.1 (.lst nd.2.dropLast))
  | .popAt o e, σ, h => (ev o σ h).bind fun x h1 => orBad (refL h1 x) fun _ => (ev e σ h1).bind fun y h2 => orBad (refL h2 x) fun nd => orBad (ixY nd.2.length y) fun k =>
      orBad (nd.2[k]?) fun z => .ok z (h2.set nd.1 (.lst (nd.2.eraseIdx k)))
  | .dget2 o k d, σ, h => (ev o σ h).bind fun x h1 => orBad (refD h1 x) fun n => (ev k σ h1).bind fun y h2 => (ev d σ h2).bind fun z h3 => orBad (dlook h3 n y) fun r => .ok (r.getD z) h3
  | .dnew t, _, h => .ok (.ref h.length) (h ++ [if t then .dT [] else .dK []])
  | .slice fl fh a lo hi, σ, h => (ev a σ h).bind fun x h1 => (ev lo σ h1).bind fun y h2 => orBad (partD fl y) fun l => (ev hi σ h2).bind fun z h3 => orBad (partD fh z) fun u => orBad (sliceD x l u) fun r => .ok r h3
  | .isiT a ts, σ, h => (ev a σ h).bind fun x h1 => orBad (isTys T h1 x ts) fun b => .ok (.bl b) h1
  | .all a, σ, h => (ev a σ h).bind fun x h1 => orBad ((lstI h1 x).bind boolsD) fun bs => .ok (.bl (bs.all id)) h1
  | .any a, σ, h => (ev a σ h).bind fun x h1 => orBad ((lstI h1 x).bind boolsD) fun bs => .ok (.bl (bs.any id)) h1
  | .mkK c k as ks, σ, h => (evA as σ h).bind fun ds h1 => (evA ks σ h1).bind fun es h2 => orBad (T.cls[c]?) fun ct => orBad (T.kws[k]?) fun kd => if kd.f = ct.init ∧ ds.length + 1 = kd.n ∧ es.length = kd.names.length then
      (cl ct.init (.ref h2.length :: (ds ++ pick kd.perm es)) (h2 ++ [.ins c []])).bind fun v h3 => asRef h2.length v h3 else .bad
  | .eqI ng m a b, σ, h => (ev a σ h).bind fun x h1 => (ev b σ h1).bind fun y h2 => (eqIb T cl ng m x y h2).bind fun r h3 => .ok (.bl r) h3
  | .back a k, σ, h => (ev a σ h).bind fun x h1 => orBad (backD x k) fun r => .ok r h1
  | .glo k, _, h => orBad (T.gls[k]?) fun nd => .ok nd.2 h
def evA : A → Sl → Hs → Res (List D)
  | .nil, _, h => .ok [] h
  | .cons e as, σ, h => (ev e σ h).bind fun d h1 => (evA as σ h1).bind fun ds h2 => .ok (d :: ds) h2
def evF : F → Sl → Hs → Res (List D)
  | .disp as, σ, h => (evA as σ h).bind fun ds h1 => if ds.length ≤ lim then .ok ds h1 else .bad
  | .comp own tg it test e, σ, h => (evI it σ h).bind fun ds h1 =>
      gather (fun d h2 => (evG tg d (wipeD σ own) h2).bind fun σ2 h3 => (match test with
        | .nil => (Res.ok true h3 : Res Bool)
        | .cons c _ => (ev c σ2 h3).bind fun x h4 => orBad (truth h4 x) fun t => .ok t h4).bind fun t h4 => if t then (ev e σ2 h4).bind fun y h5 => .ok (some y) h5 else .ok none h4) ds [] h1
  | .list e, σ, h => (ev e σ h).bind fun x h1 => orBad (items h1 x) fun ds => .ok ds h1
  | .cat a b, σ, h => (ev a σ h).bind fun x h1 => (ev b σ h1).bind fun y h2 => .bad
  | .sorted e, σ, h => .bad
  | .rep a b, σ, h => (ev a σ h).bind fun x h1 => (ev b σ h1).bind fun y h2 => orBad (mutI h2 x) fun ds => orBad (repK ds y) fun es => .ok es h2
  | .slice fl fh a lo hi, σ, h => (ev a σ h).bind fun x h1 => (ev lo σ h1).bind fun y h2 => orBad (partD fl y) fun l => (ev hi σ h2).bind fun z h3 => orBad (partD fh z) fun u => orBad (lstI h3 x) fun ds => .ok (cutD ds l u) h3
def evI : I → Sl → Hs → Res (List D)
  | .seq e, σ, h => (ev e σ h).bind fun x h1 => orBad (frozenItems x) fun ds => .ok ds h1
  | .range a, σ, h => (ev a σ h).bind fun x h1 => match x with
    | .int j => if -(2 ^ 62) ≤ j ∧ j < 2 ^ 62 ∧ j.toNat ≤ lim then .ok (rangeD 0 j.toNat) h1 else .bad
    | _ => .bad
  | .range2 a b, σ, h => (ev a σ h).bind fun x h1 => (ev b σ h1).bind fun y h2 => match x, y with
    | .int i, .int j => if -(2 ^ 62) ≤ i ∧ i < 2 ^ 62 ∧ -(2 ^ 62) ≤ j ∧ j < 2 ^ 62 ∧ (j - i).toNat ≤ lim then .ok (rangeD i (j - i).toNat) h2 else .bad
    | _, _ => .bad
  | .enum e, σ, h => (ev e σ h).bind fun x h1 => match x with
    | .lst ds => .ok (enumD 0 ds) h1
    | .rl ds => .ok (enumD 0 ds) h1
    | _ => .bad
/-- a store -/
def evG : G → D → Sl → Hs → Res Sl
  | .name i, d, σ, h => .ok (σ.set i (some d)) h
  | .tup gs, d, σ, h => match d with
    | .tup ds => if ds.length = gs.len then evGs gs ds σ h else .bad
    | _ => .bad
  | .sub o i, d, σ, h => (ev o σ h).bind fun x h1 => (ev i σ h1).bind fun y h2 => match x with
    | .ref n => orBad (h2[n]?) fun ob => orBad (storeO ob y d) fun ob' => .ok σ (h2.set n ob')
    | _ => .bad
  | .fld o f, d, σ, h => (ev o σ h).bind fun x h1 => match x with
    | .ref n => match h1[n]? with
      | some (.ins c fs) => if fs.length < 900 ∧ hasF T c f = true then .ok σ (h1.set n (.ins c (putN f d fs))) else .bad
      | _ => .bad
    | _ => .bad
def evGs : Gs → List D → Sl → Hs → Res Sl
  | .nil, ds, σ, h => match ds with
    | [] => .ok σ h
    | _ => .bad
  | .cons g gs, ds, σ, h => match ds with
    | d :: r => (evG g d σ h).bind fun σ1 h1 => evGs gs r σ1 h1
    | [] => .bad
end
end
section
variable (T : Tab) (cl : Call)
/-- as a test -/
def evT (e : E) (σ : Sl) (h : Hs) : Res Bool := (ev T cl e σ h).bind fun x h1 => orBad (truth h1 x) fun t => .ok t h1
end
/-- how a statement ends -/
inductive Out where
  | nx (σ : Sl) (h : Hs) | rt (d : D) (h : Hs) | bk (σ : Sl) (h : Hs) | ct (σ : Sl) (h : Hs) | ex (x : Xc) (σ : Sl) (h : Hs) | bad
/-- an expression's end within a statement at the slots σ -/
def Res.out {α : Type} (r : Res α) (σ : Sl) (f : α → Hs → Out) : Out := match r with
  | .ok a h => f a h
  | .ex x h => .ex x σ h
  | .bad => .bad
def Out.andThen (o : Out) (f : Sl → Hs → Out) : Out := match o with
  | .nx σ h => f σ h
  | o => o
/-- a loop's turn's end: on, or out -/
def Out.turn (o : Out) (go : Sl → Hs → Out) : Out := match o with
  | .nx σ h => go σ h
  | .ct σ h => go σ h
  | .bk σ h => .nx σ h
  | .rt d h => .rt d h
  | .ex x σ h => .ex x σ h
  | .bad => .bad
def loopD (turn : D → Sl → Hs → Out) : List D → Sl → Hs → Out
  | [], σ, h => .nx σ h
  | d :: ds, σ, h => (turn d σ h).turn fun σ1 h1 => loopD turn ds σ1 h1
def loopW (test : Sl → Hs → Res Bool) (body : Sl → Hs → Out) : Nat → Sl → Hs → Out
  | 0, _, _ => .bad
  | k + 1, σ, h => (test σ h).out σ fun t h1 => if t then (body σ h1).turn fun σ1 h2 => loopW test body k σ1 h2 else .nx σ h1
section
variable (T : Tab) (cl : Call) (W : Nat)
def exec : S → Sl → Hs → Out
  | .skip, σ, h => .nx σ h
  | .seq a b, σ, h => (exec a σ h).andThen fun σ1 h1 => exec b σ1 h1
  | .asg g e, σ, h => (ev T cl e σ h).out σ fun d h1 => (evG T cl g d σ h1).out (σ.map fun _ => none) fun σ1 h2 => .nx σ1 h2
  | .asg2 i j a b, σ, h => (ev T cl a σ h).out σ fun x h1 => (ev T cl b σ h1).out σ fun y h2 => .nx ((σ.set i (some x)).set j (some y)) h2
  | .expr e, σ, h => (ev T cl e σ h).out σ fun _ h1 => .nx σ h1
  | .ret e, σ, h => (ev T cl e σ h).out σ fun d h1 => .rt d h1
  | .retN, σ, h => .rt .non h
  | .if_ c a b, σ, h => (evT T cl c σ h).out σ fun t h1 => if t then exec a σ h1 else exec b σ h1
  | .for_ g it b, σ, h => (evI T cl it σ h).out σ fun ds h1 => loopD (fun d σ1 h2 => (evG T cl g d σ1 h2).out (σ1.map fun _ => none) fun σ2 h3 => exec b σ2 h3) ds σ h1
  | .while_ c b, σ, h => loopW (fun σ1 h1 => evT T cl c σ1 h1) (fun σ1 h1 => exec b σ1 h1) W σ h
  | .brk, σ, h => .bk σ h
  | .cont, σ, h => .ct σ h
  | .never, σ, h => .bad
end
def startD (n : Nat) (ds : List D) : Sl := ds.map some ++ List.replicate (n - ds.length) none
def Out.val : Out → Res D
  | .nx _ h => .ok .non h
  | .rt d h => .ok d h
  | .ex x _ h => .ex x h
  | _ => .bad
/-- a def's call, so many calls deep; W: turns of a while -/
def run (T : Tab) (W : Nat) : Nat → Call
  | 0, _, _, _ => .bad
  | k + 1, f, ds, h => match T.fns[f]? with
    | some ft => if ds.length = ft.ps then (exec T (run T W k) W ft.body (startD ft.N.length ds) h).val else .bad
    | none => .bad
end VM

set_option Elab.async false
set_option linter.all false
set_option maxRecDepth 100000
set_option maxHeartbeats 4000000
/-! VmB: how the machine's data lie in the layer's heap. -/
namespace VM
open PySem L2

def Ob.live : Ob → Bool
  | .dead => false
  | _ => true
structure Wd where
  h : Hs
  l : List Addr
  H : Hp
  x : List Addr
def Wd.live (w : Wd) (a : Addr) : Prop := ∃ (n : Nat) (o : Ob), w.h[n]? = some o ∧ o.live = true ∧ w.l[n]? = some a
/-- what stands at a and is changed by no one -/
def Fz (w : Wd) (a : Addr) (o : HO) : Prop := w.H a = some o ∧ ¬ w.live a ∧ a ∉ w.x
structure Ext (w w' : Wd) : Prop where
  pre : ∃ more, w'.l = w.l ++ more
  keep : ∀ a o, Fz w a o → Fz w' a o
structure Step (w w' : Wd) : Prop extends Ext w w' where
  trk : ∀ a o, w.H a = some o → ∃ o', w'.H a = some o'
  ex : w'.x = w.x
  priv : ∀ a ∈ w.x, w'.H a = w.H a
theorem Ext.refl (w : Wd) : Ext w w := ⟨⟨[], by simp⟩, fun _ _ h => h⟩
theorem Ext.trans {a b c : Wd} (x : Ext a b) (y : Ext b c) : Ext a c :=
  ⟨by
    obtain ⟨m1, e1⟩ := x.pre
    obtain ⟨m2, e2⟩ := y.pre
    exact ⟨m1 ++ m2, by rw [e2, e1, List.append_assoc]⟩, fun p o h => y.keep p o (x.keep p o h)⟩
theorem Step.refl (w : Wd) : Step w w := ⟨Ext.refl w, fun _ o h => ⟨o, h⟩, rfl, fun _ _ => rfl⟩
theorem Step.trans {a b c : Wd} (x : Step a b) (y : Step b c) : Step a c :=
  ⟨x.toExt.trans y.toExt, fun p o h => let ⟨o', e⟩ := x.trk p o h; y.trk p o' e, y.ex.trans x.ex, fun p h => (y.priv p (by rw [x.ex]; exact h)).trans (x.priv p h)⟩
theorem Step.fresh {a b : Wd} (x : Step a b) {p : Addr} (h : b.H p = none) : a.H p = none := by
  cases q : a.H p with
  | none => rfl
  | some o =>
    obtain ⟨o', e⟩ := x.trk p o q
    rw [h] at e
    cases e
theorem Ext.get {a b : Wd} (x : Ext a b) {n : Nat} {p : Addr} (h : a.l[n]? = some p) : b.l[n]? = some p := by
  obtain ⟨m, e⟩ := x.pre
  obtain ⟨hl, e2⟩ := List.getElem?_eq_some_iff.mp h
  rw [e, List.getElem?_append_left hl, h]
/-- the text's addresses -/
structure Tx where
  K : PySem.W.Frag
  cls : Nat → Addr
  nm : Nat → Str
  n : Nat
  inj : ∀ f g, f < n → g < n → nm f = nm g → f = g
variable (t : Tx)
/-- a list that is read -/
def QL (w : Wd) (a : Addr) (vs : List V) : Prop := Fz w a (.lst vs) ∨ (∃ ob, Fz w a (.frz ob (.lst vs))) ∨
    ∃ (o : Obj) (its : Array Value) (n : Nat), t.K.lookup a = some o ∧ o.cls = .type "list" ∧ o.dict = none ∧ o.data = .seq its n ∧ its.size ≤ sizeLine ∧ Vals vs its.toList
mutual
def R (w : Wd) : D → V → Prop
  | .non, v => v = .non
  | .bl b, v => v = .bl b
  | .int i, v => v = .int i
  | .str s, v => v = .str s
  | .ref n, v => ∃ a, v = .ref a ∧ w.l[n]? = some a
  | .tup ds, v => ∃ a vs, v = .ref a ∧ Fz w a (.tup vs) ∧ ds.length ≤ sizeLine ∧ RL w ds vs
  | .lst ds, v => ∃ a vs, v = .ref a ∧ Fz w a (.lst vs) ∧ ds.length ≤ sizeLine ∧ RL w ds vs
  | .rl ds, v => ∃ a vs, v = .ref a ∧ QL t w a vs ∧ ds.length ≤ sizeLine ∧ RL w ds vs
  | .ins c fs, v => ∃ a dx vs, v = .ref a ∧ Fz w a (.ins (t.cls c) dx vs) ∧ RF w fs vs
def RL (w : Wd) : List D → List V → Prop
  | [], vs => vs = []
  | d :: ds, vs => ∃ v r, vs = v :: r ∧ R w d v ∧ RL w ds r
def RF (w : Wd) : List (Nat × D) → List (Str × V) → Prop
  | [], vs => vs = []
  | (f, d) :: fs, vs => ∃ v r, vs = (t.nm f, v) :: r ∧ f < t.n ∧ R w d v ∧ RF w fs r
end
theorem QL.mono {w w' : Wd} {a : Addr} {vs : List V} (s : Ext w w') (h : QL t w a vs) : QL t w' a vs := by
  rcases h with h | ⟨ob, h⟩ | h
  · exact .inl (s.keep _ _ h)
  · exact .inr (.inl ⟨ob, s.keep _ _ h⟩)
  · exact .inr (.inr h)
theorem QL.sq {w : Wd} {a : Addr} {vs : List V} (h : QL t w a vs) : SqL t.K w.H a vs := by
  rcases h with h | ⟨ob, h⟩ | h
  · exact .inl (.inl h.1)
  · exact .inl (.inr ⟨ob, h.1⟩)
  · exact .inr h
mutual
theorem R.mono {w w' : Wd} (s : Ext w w') : ∀ (d : D) (v : V), R t w d v → R t w' d v
  | .non, _, h => h
  | .bl _, _, h => h
  | .int _, _, h => h
  | .str _, _, h => h
  | .ref n, v, h => by
    obtain ⟨a, e, q⟩ := (show ∃ a, v = .ref a ∧ w.l[n]? = some a from h)
    exact ⟨a, e, s.get q⟩
  | .tup ds, v, h => by
    obtain ⟨a, vs, e, q, z, r⟩ := (show ∃ a vs, v = .ref a ∧ Fz w a (.tup vs) ∧ ds.length ≤ sizeLine ∧ RL t w ds vs from h)
    exact ⟨a, vs, e, s.keep _ _ q, z, RL.mono s ds vs r⟩
  | .lst ds, v, h => by
    obtain ⟨a, vs, e, q, z, r⟩ := (show ∃ a vs, v = .ref a ∧ Fz w a (.lst vs) ∧ ds.length ≤ sizeLine ∧ RL t w ds vs from h)
    exact ⟨a, vs, e, s.keep _ _ q, z, RL.mono s ds vs r⟩
  | .rl ds, v, h => by
    obtain ⟨a, vs, e, q, z, r⟩ := (show ∃ a vs, v = .ref a ∧ QL t w a vs ∧ ds.length ≤ sizeLine ∧ RL t w ds vs from h)
    exact ⟨a, vs, e, q.mono t s, z, RL.mono s ds vs r⟩
  | .ins c fs, v, h => by
    obtain ⟨a, dx, vs, e, q, r⟩ := (show ∃ a dx vs, v = .ref a ∧ Fz w a (.ins (t.cls c) dx vs) ∧ RF t w fs vs from h)
    exact ⟨a, dx, vs, e, s.keep _ _ q, RF.mono s fs vs r⟩
theorem RL.mono {w w' : Wd} (s : Ext w w') : ∀ (ds : List D) (vs : List V), RL t w ds vs → RL t w' ds vs
  | [], _, h => h
  | d :: ds, vs, h => by
    obtain ⟨v, r, e, h1, h2⟩ := (show ∃ v r, vs = v :: r ∧ R t w d v ∧ RL t w ds r from h)
    exact ⟨v, r, e, R.mono s d v h1, RL.mono s ds r h2⟩
theorem RF.mono {w w' : Wd} (s : Ext w w') : ∀ (fs : List (Nat × D)) (vs : List (Str × V)), RF t w fs vs → RF t w' fs vs
  | [], _, h => h
  | (f, d) :: fs, vs, h => by
    obtain ⟨v, r, e, h0, h1, h2⟩ := (show ∃ v r, vs = (t.nm f, v) :: r ∧ f < t.n ∧ R t w d v ∧ RF t w fs r from h)
    exact ⟨v, r, e, h0, R.mono s d v h1, RF.mono s fs r h2⟩
end
variable {t}
theorem RL.cons {w : Wd} {d : D} {ds : List D} {v : V} {vs : List V} (a : R t w d v) (b : RL t w ds vs) : RL t w (d :: ds) (v :: vs) := ⟨v, vs, rfl, a, b⟩
theorem RL.length {w : Wd} : ∀ {ds : List D} {vs : List V}, RL t w ds vs → ds.length = vs.length
  | [], _, h => by
    rw [show _ = [] from h]
    rfl
  | d :: ds, vs, h => by
    obtain ⟨v, r, e, _, h2⟩ := (show ∃ v r, vs = v :: r ∧ R t w d v ∧ RL t w ds r from h)
    rw [e]
    exact congrArg Nat.succ (RL.length h2)
theorem RL.get {w : Wd} : ∀ {ds : List D} {vs : List V} {i : Nat} {d : D}, RL t w ds vs → ds[i]? = some d → ∃ v, vs[i]? = some v ∧ R t w d v
  | [], _, _, _, _, e => by simp at e
  | d :: ds, vs, i, x, h, e => by
    obtain ⟨v, r, rfl, h1, h2⟩ := (show ∃ v r, vs = v :: r ∧ R t w d v ∧ RL t w ds r from h)
    cases i with
    | zero =>
      simp at e
      subst e
      exact ⟨v, rfl, h1⟩
    | succ i =>
      simp at e
      obtain ⟨u, e1, e2⟩ := RL.get h2 e
      exact ⟨u, by simpa using e1, e2⟩
theorem RL.app {w : Wd} : ∀ {ds es : List D} {vs us : List V}, RL t w ds vs → RL t w es us → RL t w (ds ++ es) (vs ++ us)
  | [], _, _, _, h, k => by
    rw [show _ = [] from h]
    exact k
  | d :: ds, es, vs, us, h, k => by
    obtain ⟨v, r, rfl, h1, h2⟩ := (show ∃ v r, vs = v :: r ∧ R t w d v ∧ RL t w ds r from h)
    exact ⟨v, r ++ us, rfl, h1, RL.app h2 k⟩
theorem RL.snoc {w : Wd} {ds : List D} {vs : List V} {d : D} {v : V} (h : RL t w ds vs) (k : R t w d v) : RL t w (ds ++ [d]) (vs ++ [v]) := h.app ⟨v, [], rfl, k, rfl⟩
theorem RL.set {w : Wd} {d : D} {v : V} (k : R t w d v) : ∀ {ds : List D} {vs : List V} (i : Nat), RL t w ds vs → RL t w (ds.set i d) (vs.set i v)
  | [], _, _, h => by
    rw [show _ = [] from h]
    rfl
  | x :: ds, vs, i, h => by
    obtain ⟨u, r, rfl, h1, h2⟩ := (show ∃ v r, vs = v :: r ∧ R t w x v ∧ RL t w ds r from h)
    cases i with
    | zero => exact ⟨v, r, rfl, k, h2⟩
    | succ i => exact ⟨u, r.set i v, rfl, h1, RL.set k i h2⟩
theorem RL.erase {w : Wd} : ∀ {ds : List D} {vs : List V} (i : Nat), RL t w ds vs → RL t w (ds.eraseIdx i) (vs.eraseIdx i)
  | [], _, _, h => by
    rw [show _ = [] from h]
    rfl
  | x :: ds, vs, i, h => by
    obtain ⟨u, r, rfl, h1, h2⟩ := (show ∃ v r, vs = v :: r ∧ R t w x v ∧ RL t w ds r from h)
    cases i with
    | zero => exact h2
    | succ i => exact ⟨u, r.eraseIdx i, rfl, h1, RL.erase i h2⟩
theorem RL.dropLast {w : Wd} : ∀ {ds : List D} {vs : List V}, RL t w ds vs → RL t w ds.dropLast vs.dropLast
  | [], _, h => by
    rw [show _ = [] from h]
    rfl
  | [x], vs, h => by
    obtain ⟨u, r, rfl, h1, h2⟩ := (show ∃ v r, vs = v :: r ∧ R t w x v ∧ RL t w [] r from h)
    rw [show r = [] from h2]
    rfl
  | x :: y :: ds, vs, h => by
    obtain ⟨u, r, rfl, h1, h2⟩ := (show ∃ v r, vs = v :: r ∧ R t w x v ∧ RL t w (y :: ds) r from h)
    have ih := RL.dropLast h2
    obtain ⟨u2, r2, rfl, h3, h4⟩ := (show ∃ v r', r = v :: r' ∧ R t w y v ∧ RL t w ds r' from h2)
    exact ⟨u, (u2 :: r2).dropLast, rfl, h1, ih⟩
theorem RL.ints {w : Wd} : ∀ {ns : List Int} {vs : List V}, RL t w (ns.map D.int) vs → vs = ns.map V.int
  | [], _, h => h
  | n :: ns, vs, h => by
    obtain ⟨u, r, rfl, h1, h2⟩ := (show ∃ v r, vs = v :: r ∧ R t w (.int n) v ∧ RL t w (ns.map D.int) r from h)
    rw [show u = .int n from h1, RL.ints h2]
    rfl
theorem RL.of_ints {w : Wd} : ∀ (ns : List Int), RL t w (ns.map D.int) (ns.map V.int)
  | [] => rfl
  | n :: ns => ⟨.int n, ns.map V.int, rfl, rfl, RL.of_ints ns⟩
theorem RF.length {w : Wd} : ∀ {fs : List (Nat × D)} {vs : List (Str × V)}, RF t w fs vs → fs.length = vs.length
  | [], _, h => by
    rw [show _ = [] from h]
    rfl
  | (f, d) :: fs, vs, h => by
    obtain ⟨v, r, e, _, _, h2⟩ := (show ∃ v r, vs = (t.nm f, v) :: r ∧ f < t.n ∧ R t w d v ∧ RF t w fs r from h)
    rw [e]
    exact congrArg Nat.succ (RF.length h2)
theorem lookup_cons' {α β : Type} [DecidableEq α] (k : α) (p : α × β) (r : List (α × β)) [BEq α] [LawfulBEq α] : List.lookup k (p :: r) = if k = p.1 then some p.2 else List.lookup k r := by
  obtain ⟨a, b⟩ := p
  show (match k == a with | true => some b | false => List.lookup k r) = _
  by_cases e : k = a
  · rw [beq_iff_eq.mpr e, if_pos e]
  · rw [beq_eq_false_iff_ne.mpr e, if_neg e]
theorem RF.look {w : Wd} {g : Nat} (hg : g < t.n) : ∀ {fs : List (Nat × D)} {vs : List (Str × V)}, RF t w fs vs → (fs.lookup g = none ∧ vs.lookup (t.nm g) = none) ∨ ∃ d v, fs.lookup g = some d ∧ vs.lookup (t.nm g) = some v ∧ R t w d v
  | [], _, h => by
    rw [show _ = [] from h]
    exact .inl ⟨rfl, rfl⟩
  | (f, d) :: fs, vs, h => by
    obtain ⟨v, r, rfl, h0, h1, h2⟩ := (show ∃ v r, vs = (t.nm f, v) :: r ∧ f < t.n ∧ R t w d v ∧ RF t w fs r from h)
    rw [lookup_cons', lookup_cons']
    by_cases e : g = f
    · rw [if_pos e, if_pos (show t.nm g = t.nm f by rw [e])]
      exact .inr ⟨d, v, rfl, rfl, h1⟩
    · rw [if_neg e, if_neg (show ¬ t.nm g = t.nm f from fun q => e (t.inj _ _ hg h0 q))]
      exact RF.look hg h2
theorem RF.put {w : Wd} {g : Nat} {d : D} {v : V} (hg : g < t.n) (k : R t w d v) : ∀ {fs : List (Nat × D)} {vs : List (Str × V)}, RF t w fs vs → RF t w (putN g d fs) (putF (t.nm g) v vs)
  | [], _, h => by
    rw [show _ = [] from h]
    exact ⟨v, [], rfl, hg, k, rfl⟩
  | (f, e) :: fs, vs, h => by
    obtain ⟨u, r, rfl, h0, h1, h2⟩ := (show ∃ v r, vs = (t.nm f, v) :: r ∧ f < t.n ∧ R t w e v ∧ RF t w fs r from h)
    show RF t w (if f = g then (g, d) :: fs else (f, e) :: putN g d fs) (if t.nm f = t.nm g then (t.nm f, v) :: r else (t.nm f, u) :: putF (t.nm g) v r)
    by_cases q : f = g
    · subst q
      rw [if_pos rfl, if_pos rfl]
      exact ⟨v, r, rfl, hg, k, h2⟩
    · rw [if_neg q, if_neg (fun z => q (t.inj _ _ h0 hg z))]
      exact ⟨u, _, rfl, h0, h1, RF.put hg k h2⟩
theorem length_putN (g : Nat) (d : D) : ∀ fs : List (Nat × D), (putN g d fs).length ≤ fs.length + 1
  | [] => Nat.le_refl _
  | (f, e) :: fs => by
    show (if f = g then (g, d) :: fs else (f, e) :: putN g d fs).length ≤ _
    split
    · simp
    · simp only [List.length_cons]
      have := length_putN g d fs
      omega
/-- a dict's pairs -/
def RK {κ : Type} (t : Tx) (w : Wd) : List (κ × D) → List (κ × V) → Prop
  | [], vs => vs = []
  | (k, d) :: ks, vs => ∃ v r, vs = (k, v) :: r ∧ R t w d v ∧ RK t w ks r
theorem RK.mono {κ : Type} {w w' : Wd} (s : Ext w w') : ∀ (ks : List (κ × D)) (vs : List (κ × V)), RK t w ks vs → RK t w' ks vs
  | [], _, h => h
  | (k, d) :: ks, vs, h => by
    obtain ⟨v, r, e, h1, h2⟩ := (show ∃ v r, vs = (k, v) :: r ∧ R t w d v ∧ RK t w ks r from h)
    exact ⟨v, r, e, R.mono t s d v h1, RK.mono s ks r h2⟩
theorem RK.length {κ : Type} {w : Wd} : ∀ {ks : List (κ × D)} {vs : List (κ × V)}, RK t w ks vs → ks.length = vs.length
  | [], _, h => by
    rw [show _ = [] from h]
    rfl
  | (k, d) :: ks, vs, h => by
    obtain ⟨v, r, e, h1, h2⟩ := (show ∃ v r, vs = (k, v) :: r ∧ R t w d v ∧ RK t w ks r from h)
    rw [e]
    exact congrArg Nat.succ (RK.length h2)
/-- an object of the machine's heap as it lies -/
def ObR (t : Tx) (w : Wd) (a : Addr) : Ob → Prop
  | .dead => True
  | .lst ds => ∃ vs, w.H a = some (.lst vs) ∧ ds.length ≤ sizeLine ∧ RL t w ds vs
  | .ins c fs => ∃ dx vs, w.H a = some (.ins (t.cls c) dx vs) ∧ fs.length ≤ 1000 ∧ RF t w fs vs
  | .dK kvs => ∃ vs, w.H a = some (.dK vs) ∧ kvs.length ≤ sizeLine ∧ RK t w kvs vs
  | .dT kvs => ∃ vs, w.H a = some (.dT vs) ∧ kvs.length ≤ sizeLine ∧ RK t w kvs vs
theorem ObR.of {w w' : Wd} (s : Ext w w') {a : Addr} (e : w'.H a = w.H a) : ∀ {o : Ob}, ObR t w a o → ObR t w' a o
  | .dead, _ => trivial
  | .lst ds, h => by
    obtain ⟨vs, h1, h2, h3⟩ := h
    exact ⟨vs, e.trans h1, h2, h3.mono t s⟩
  | .ins c fs, h => by
    obtain ⟨dx, vs, h1, h2, h3⟩ := h
    exact ⟨dx, vs, e.trans h1, h2, h3.mono t s⟩
  | .dK kvs, h => by
    obtain ⟨vs, h1, h2, h3⟩ := h
    exact ⟨vs, e.trans h1, h2, h3.mono s⟩
  | .dT kvs, h => by
    obtain ⟨vs, h1, h2, h3⟩ := h
    exact ⟨vs, e.trans h1, h2, h3.mono s⟩
structure Wd.Ok (t : Tx) (w : Wd) : Prop where
  len : w.h.length = w.l.length
  nd : w.l.Nodup
  trk : ∀ a ∈ w.l, ∃ o, w.H a = some o
  obj : ∀ (n : Nat) (o : Ob) (a : Addr), w.h[n]? = some o → w.l[n]? = some a → ObR t w a o
  prv : ∀ a ∈ w.x, a ∉ w.l ∧ ∃ o, w.H a = some o
section
variable {w : Wd}
theorem Wd.Ok.new_l (k : w.Ok t) {p : Addr} (h : w.H p = none) : p ∉ w.l := fun m => by
  obtain ⟨o, e⟩ := k.trk p m
  rw [h] at e
  cases e
theorem Wd.Ok.new_x (k : w.Ok t) {p : Addr} (h : w.H p = none) : p ∉ w.x := fun m => by
  obtain ⟨_, o, e⟩ := k.prv p m
  rw [h] at e
  cases e
theorem Wd.live_mem {a : Addr} (h : w.live a) : a ∈ w.l := by
  obtain ⟨n, o, _, _, e⟩ := h
  exact List.mem_of_getElem? e
theorem Wd.Ok.inj (k : w.Ok t) {m n : Nat} {a : Addr} (h : w.l[m]? = some a) (h' : w.l[n]? = some a) : m = n := by
  obtain ⟨h1, e1⟩ := List.getElem?_eq_some_iff.mp h
  obtain ⟨h2, e2⟩ := List.getElem?_eq_some_iff.mp h'
  exact (List.getElem_inj k.nd).mp (e1.trans e2.symm)
/-- something new that no one changes -/
abbrev Wd.put (w : Wd) (p : Addr) (o : HO) : Wd := ⟨w.h, w.l, upd w.H p o, w.x⟩
theorem step_frz (k : w.Ok t) {p : Addr} {o : HO} (h : w.H p = none) : Step w (w.put p o) :=
  ⟨⟨⟨[], by simp⟩, fun a u q => ⟨by
    show upd w.H p o a = some u
    rw [upd_ne (ne_of_none q.1 h)]
    exact q.1, q.2⟩⟩, fun a u q => ⟨u, by
    show upd w.H p o a = some u
    rw [upd_ne (ne_of_none q h)]
    exact q⟩, rfl, fun a m => upd_ne fun e => k.new_x h (e ▸ m)⟩
theorem ok_frz (k : w.Ok t) {p : Addr} {o : HO} (h : w.H p = none) : Wd.Ok t (w.put p o) :=
  ⟨k.len, k.nd, fun a m => by
    obtain ⟨u, e⟩ := k.trk a m
    exact (step_frz (o := o) k h).trk a u e, fun n u a h1 h2 => by
    obtain ⟨u2, e⟩ := k.trk a (List.mem_of_getElem? h2)
    exact (k.obj n u a h1 h2).of (step_frz (o := o) k h).toExt (upd_ne (ne_of_none e h)), fun a m => ⟨(k.prv a m).1, by
    obtain ⟨u, e⟩ := (k.prv a m).2
    exact (step_frz (o := o) k h).trk a u e⟩⟩
theorem fz_new (k : w.Ok t) {p : Addr} {o : HO} (h : w.H p = none) : Fz (w.put p o) p o := ⟨upd_same, fun m => k.new_l h (Wd.live_mem (w := w.put p o) m), k.new_x h⟩
/-- a new object of the machine's heap -/
abbrev Wd.new (w : Wd) (p : Addr) (ob : Ob) (o : HO) : Wd := ⟨w.h ++ [ob], w.l ++ [p], upd w.H p o, w.x⟩
theorem Wd.Ok.at_new (k : w.Ok t) {p a : Addr} {ob u : Ob} {n : Nat} (h1 : (w.h ++ [ob])[n]? = some u) (h2 : (w.l ++ [p])[n]? = some a) : (w.h[n]? = some u ∧ w.l[n]? = some a) ∨ (n = w.h.length ∧ u = ob ∧ a = p) := by
  by_cases hn : n < w.h.length
  · rw [List.getElem?_append_left hn] at h1
    rw [List.getElem?_append_left (by rw [← k.len]; exact hn)] at h2
    exact .inl ⟨h1, h2⟩
  · have en : n = w.h.length := by
      have := (List.getElem?_eq_some_iff.mp h1).1
      rw [List.length_append, List.length_singleton] at this
      omega
    rw [en, List.getElem?_append_right (Nat.le_refl _), Nat.sub_self] at h1
    rw [en, k.len, List.getElem?_append_right (Nat.le_refl _), Nat.sub_self] at h2
    exact .inr ⟨en, (by simpa using h1.symm), by simpa using h2.symm⟩
theorem step_new (k : w.Ok t) {p : Addr} {ob : Ob} {o : HO} (h : w.H p = none) : Step w (w.new p ob o) :=
  ⟨⟨⟨[p], rfl⟩, fun a u q => ⟨by
    show upd w.H p o a = some u
    rw [upd_ne (ne_of_none q.1 h)]
    exact q.1, (fun ⟨n, o2, h1, h2, h3⟩ => by
    rcases k.at_new h1 h3 with ⟨z1, z2⟩ | ⟨_, _, z⟩
    · exact q.2.1 ⟨n, o2, z1, h2, z2⟩
    · have q1 := q.1
      rw [z, h] at q1
      cases q1), q.2.2⟩⟩, fun a u q => ⟨u, by
    show upd w.H p o a = some u
    rw [upd_ne (ne_of_none q h)]
    exact q⟩, rfl, fun a m => upd_ne fun e => k.new_x h (e ▸ m)⟩
theorem ok_new (k : w.Ok t) {p : Addr} {ob : Ob} {o : HO} (h : w.H p = none) (ho : ObR t (w.new p ob o) p ob) : Wd.Ok t (w.new p ob o) := by
  refine ⟨by show (w.h ++ [ob]).length = (w.l ++ [p]).length; rw [List.length_append, List.length_append, k.len]; rfl, List.nodup_append.mpr ⟨k.nd, by simp, fun a m b hb => by
    rw [List.mem_singleton.mp hb]
    exact fun q => k.new_l h (q ▸ m)⟩, fun a m => ?_, fun n u a h1 h2 => ?_, fun a m => ⟨fun q => ?_, ?_⟩⟩
  · rcases List.mem_append.mp m with m | m
    · obtain ⟨u, e⟩ := k.trk a m
      exact (step_new (ob := ob) (o := o) k h).trk a u e
    · rw [List.mem_singleton.mp m]
      exact ⟨o, upd_same⟩
  · rcases k.at_new h1 h2 with ⟨z1, z2⟩ | ⟨_, z1, z2⟩
    · obtain ⟨u2, e⟩ := k.trk a (List.mem_of_getElem? z2)
      exact (k.obj n u a z1 z2).of (step_new (ob := ob) (o := o) k h).toExt (upd_ne (ne_of_none e h))
    · rw [z1, z2]
      exact ho
  · rcases List.mem_append.mp q with q | q
    · exact (k.prv a m).1 q
    · rw [List.mem_singleton.mp q] at m
      exact k.new_x h m
  · obtain ⟨u, e⟩ := (k.prv a m).2
    exact (step_new (ob := ob) (o := o) k h).trk a u e
/-- an object of the machine's heap is changed -/
abbrev Wd.set (w : Wd) (n : Nat) (a : Addr) (ob : Ob) (o : HO) : Wd := ⟨w.h.set n ob, w.l, upd w.H a o, w.x⟩
theorem live_set {n : Nat} {a b : Addr} {ob : Ob} {H' : Hp} {u : Ob} (hn : w.h[n]? = some u) (hu : u.live = true) (ha : w.l[n]? = some a) (hb : Wd.live ⟨w.h.set n ob, w.l, H', w.x⟩ b) : w.live b := by
  obtain ⟨m, o, h1, h2, h3⟩ := hb
  by_cases e : m = n
  · subst e
    exact ⟨m, u, hn, hu, h3⟩
  · have h1' : (w.h.set n ob)[m]? = some o := h1
    rw [List.getElem?_set_ne (Ne.symm e)] at h1'
    exact ⟨m, o, h1', h2, h3⟩
theorem step_set (k : w.Ok t) {n : Nat} {a : Addr} {ob u : Ob} {o : HO} (hn : w.h[n]? = some u) (hu : u.live = true) (ha : w.l[n]? = some a) : Step w (w.set n a ob o) :=
  ⟨⟨⟨[], by simp⟩, fun b z q => ⟨by
    show upd w.H a o b = some z
    rw [upd_ne fun e => q.2.1 ⟨n, u, hn, hu, by rw [e]; exact ha⟩]
    exact q.1, fun m => q.2.1 (live_set hn hu ha m), q.2.2⟩⟩, fun b z q => by
    by_cases e : b = a
    · exact ⟨o, by rw [e]; exact upd_same⟩
    · exact ⟨z, (upd_ne e).trans q⟩, rfl, fun b m => upd_ne fun e => (k.prv b m).1 (by rw [e]; exact List.mem_of_getElem? ha)⟩
theorem ok_set (k : w.Ok t) {n : Nat} {a : Addr} {ob u : Ob} {o : HO} (hn : w.h[n]? = some u) (hu : u.live = true) (ha : w.l[n]? = some a) (ho : ObR t (w.set n a ob o) a ob) : Wd.Ok t (w.set n a ob o) := by
  have st := step_set (ob := ob) (o := o) k hn hu ha
  refine ⟨by show (w.h.set n ob).length = w.l.length; rw [List.length_set, k.len], k.nd, fun b m => ?_, fun m z b h1 h2 => ?_, fun b m => ⟨(k.prv b m).1, ?_⟩⟩
  · obtain ⟨z, e⟩ := k.trk b m
    exact st.trk b z e
  · by_cases e : m = n
    · subst e
      have eb : b = a := Option.some.inj (h2.symm.trans ha)
      have h1' : (w.h.set m ob)[m]? = some z := h1
      rw [List.getElem?_set_self (List.getElem?_eq_some_iff.mp hn).1] at h1'
      rw [← Option.some.inj h1', eb]
      exact ho
    · have h1' : (w.h.set n ob)[m]? = some z := h1
      rw [List.getElem?_set_ne (Ne.symm e)] at h1'
      refine (k.obj m z b h1' h2).of st.toExt (upd_ne fun q => e ?_)
      rw [q] at h2
      exact k.inj h2 ha
  · obtain ⟨z, e⟩ := (k.prv b m).2
    exact st.trk b z e
/-- an object of the machine's heap is changed no more -/
abbrev Wd.kill (w : Wd) (n : Nat) : Wd := ⟨w.h.set n .dead, w.l, w.H, w.x⟩
theorem step_kill (k : w.Ok t) {n : Nat} {a : Addr} {u : Ob} (hn : w.h[n]? = some u) (hu : u.live = true) (ha : w.l[n]? = some a) : Step w (w.kill n) :=
  ⟨⟨⟨[], by simp⟩, fun b z q => ⟨q.1, fun m => q.2.1 (live_set hn hu ha m), q.2.2⟩⟩, fun b z q => ⟨z, q⟩, rfl, fun b m => rfl⟩
theorem ok_kill (k : w.Ok t) {n : Nat} {a : Addr} {u : Ob} (hn : w.h[n]? = some u) (hu : u.live = true) (ha : w.l[n]? = some a) : Wd.Ok t (w.kill n) := by
  have st := step_kill k hn hu ha
  refine ⟨by show (w.h.set n .dead).length = w.l.length; rw [List.length_set, k.len], k.nd, k.trk, fun m z b h1 h2 => ?_, k.prv⟩
  by_cases e : m = n
  · subst e
    have h1' : (w.h.set m .dead)[m]? = some z := h1
    rw [List.getElem?_set_self (List.getElem?_eq_some_iff.mp hn).1] at h1'
    rw [← Option.some.inj h1']
    trivial
  · have h1' : (w.h.set n .dead)[m]? = some z := h1
    rw [List.getElem?_set_ne (Ne.symm e)] at h1'
    exact (k.obj m z b h1' h2).of st.toExt rfl
theorem fz_kill (k : w.Ok t) {n : Nat} {a : Addr} {u : Ob} {o : HO} (hn : w.h[n]? = some u) (ha : w.l[n]? = some a) (ho : w.H a = some o) : Fz (w.kill n) a o :=
  ⟨ho, (fun ⟨m, z, h1, h2, h3⟩ => by
    have e : m = n := k.inj h3 ha
    subst e
    have h1' : (w.h.set m .dead)[m]? = some z := h1
    rw [List.getElem?_set_self (List.getElem?_eq_some_iff.mp hn).1] at h1'
    rw [← Option.some.inj h1'] at h2
    cases h2), fun m => (k.prv a m).1 (List.mem_of_getElem? ha)⟩
/-! ### what is wanted of a step -/
def RX (t : Tx) (w : Wd) (x : Xc) (c : Value) (d : Option Addr) : Prop := c = .ref (t.cls x.cls) ∧ ((x.fs = [] ∧ d = none) ∨ ∃ a vs, d = some a ∧ Fz w a (.xd vs) ∧ RF t w x.fs vs)
def Post {α β : Type} (t : Tx) (Wx : WX) (σ : L2.St) (w : Wd) (RR : Wd → α → β → Prop) (Q : β → Hp → Prop) : Res α → Prop
  | .ok d h => ∀ w' v, w'.Ok t → Step w w' → w'.h = h → RR w' d v → Q v w'.H
  | .ex x h => ∀ w' c d, w'.Ok t → Step w w' → w'.h = h → RX t w' x c d → Wx c d σ w'.H
  | .bad => False
theorem Post.to {α β : Type} {Wx : WX} {σ : L2.St} {w w1 : Wd} {RR : Wd → α → β → Prop} {Q : β → Hp → Prop} {r : Res α} (s : Step w w1) (h : Post t Wx σ w RR Q r) : Post t Wx σ w1 RR Q r := by
  cases r with
  | ok d h' => exact fun w' v k st e rr => h w' v k (s.trans st) e rr
  | ex x h' => exact fun w' c d k st e rr => h w' c d k (s.trans st) e rr
  | bad => exact h
/-- the middle of two steps -/
def Mid {α β γ : Type} (t : Tx) (Wx : WX) (σ : L2.St) (w : Wd) (RA : Wd → α → β → Prop) (P : Wd → α → Prop) (v : β) (H : Hp) : Prop := ∃ w1 d, w1.H = H ∧ w1.Ok t ∧ Step w w1 ∧ RA w1 d v ∧ P w1 d
theorem Post.bind {α β γ δ : Type} {Wx : WX} {σ : L2.St} {w : Wd} {RA : Wd → α → β → Prop} {RR : Wd → γ → δ → Prop} {Q : δ → Hp → Prop} {r : Res α} {f : α → Hs → Res γ} (h : Post t Wx σ w RR Q (r.bind f)) :
    Post t Wx σ w RA (fun v H1 => ∃ w1 d, w1.H = H1 ∧ w1.Ok t ∧ Step w w1 ∧ RA w1 d v ∧ Post t Wx σ w1 RR Q (f d w1.h)) r := by
  cases r with
  | ok d h' =>
    intro w' v k st e rr
    refine ⟨w', d, rfl, k, st, rr, ?_⟩
    rw [e]
    exact Post.to st h
  | ex x h' => exact h
  | bad => exact h
theorem Post.orBad {α β γ : Type} {Wx : WX} {σ : L2.St} {w : Wd} {RR : Wd → β → γ → Prop} {Q : γ → Hp → Prop} {o : Option α} {f : α → Res β} (h : Post t Wx σ w RR Q (orBad o f)) : ∃ a, o = some a ∧ Post t Wx σ w RR Q (f a) := by
  cases o with
  | some a => exact ⟨a, rfl, h⟩
  | none => exact h.elim
/-- the slots -/
structure Good (t : Tx) (w : Wd) (σd : Sl) (σ : L2.St) : Prop where
  len : σd.length = σ.length
  at_ : ∀ i d, getSl σd i = some d → ∃ v, σ[i]? = some (some v) ∧ R t w d v
theorem Good.mono {w w' : Wd} {σd : Sl} {σ : L2.St} (s : Ext w w') (g : Good t w σd σ) : Good t w' σd σ := ⟨g.len, fun i d e => let ⟨v, a, b⟩ := g.at_ i d e; ⟨v, a, b.mono t s⟩⟩
theorem getSl_set {σ : Sl} {i j : Nat} {d : D} (hi : i < σ.length) : getSl (σ.set i (some d)) j = if i = j then some d else getSl σ j := by
  unfold getSl
  by_cases e : i = j
  · subst e
    rw [List.getElem?_set_self hi, if_pos rfl]
    rfl
  · rw [List.getElem?_set_ne e, if_neg e]
theorem Good.set {w : Wd} {σd : Sl} {σ : L2.St} {i : Nat} {d : D} {v : V} (g : Good t w σd σ) (r : R t w d v) : Good t w (σd.set i (some d)) (σ.set i (some v)) := by
  refine ⟨by rw [List.length_set, List.length_set, g.len], fun j e h => ?_⟩
  by_cases hi : i < σd.length
  · rw [getSl_set hi] at h
    by_cases q : i = j
    · subst q
      rw [if_pos rfl] at h
      cases h
      exact ⟨v, List.getElem?_set_self (by rw [← g.len]; exact hi), r⟩
    · rw [if_neg q] at h
      rw [List.getElem?_set_ne q]
      exact g.at_ j e h
  · rw [List.set_eq_of_length_le (by omega)] at h
    rw [List.set_eq_of_length_le (by rw [← g.len]; omega)]
    exact g.at_ j e h
end
end VM

set_option Elab.async false
set_option linter.all false
set_option maxRecDepth 100000
set_option maxHeartbeats 4000000
/-! VmC: what is a code of which text; operations on values. -/
namespace VM
open PySem L2
section
variable {t : Tx} {w : Wd}
/-! ### data that are compared -/
mutual
theorem dp_of {g : Nat → Option PyData} (hg : ∀ n p a, g n = some p → w.l[n]? = some a → Dp t.K w.H (.ref a) p) : ∀ (d : D) (v : V) (p : PyData), R t w d v → toPy g d = some p → Dp t.K w.H v p
  | .non, v, p, h, e => by
    rw [show v = .non from h, ← Option.some.inj (show some PyData.none = some p from e)]
    exact .non
  | .bl b, v, p, h, e => by
    rw [show v = .bl b from h, ← Option.some.inj (show some (PyData.bool b) = some p from e)]
    exact .bl b
  | .int i, v, p, h, e => by
    rw [show v = .int i from h, ← Option.some.inj (show some (PyData.int i) = some p from e)]
    exact .int i
  | .str s, v, p, h, e => by
    rw [show v = .str s from h, ← Option.some.inj (show some (PyData.str s) = some p from e)]
    exact .str s
  | .ref n, v, p, h, e => by
    obtain ⟨a, e1, q⟩ := (show ∃ a, v = .ref a ∧ w.l[n]? = some a from h)
    rw [e1]
    exact hg n p a e q
  | .tup ds, v, p, h, e => by
    obtain ⟨a, vs, e1, q, z, r⟩ := (show ∃ a vs, v = .ref a ∧ Fz w a (.tup vs) ∧ ds.length ≤ sizeLine ∧ RL t w ds vs from h)
    have e2 : (toPys g ds).map PyData.tuple = some p := e
    cases hp : toPys g ds with
    | none =>
      rw [hp] at e2
      cases e2
    | some ps =>
      rw [hp] at e2
      rw [e1, ← Option.some.inj (show some (PyData.tuple ps) = some p from e2)]
      exact .tup (SqT.of q.1) (dpa_of hg ds vs ps r hp)
  | .lst ds, v, p, h, e => by
    obtain ⟨a, vs, e1, q, z, r⟩ := (show ∃ a vs, v = .ref a ∧ Fz w a (.lst vs) ∧ ds.length ≤ sizeLine ∧ RL t w ds vs from h)
    have e2 : (toPys g ds).map PyData.list = some p := e
    cases hp : toPys g ds with
    | none =>
      rw [hp] at e2
      cases e2
    | some ps =>
      rw [hp] at e2
      rw [e1, ← Option.some.inj (show some (PyData.list ps) = some p from e2)]
      exact .lst (SqL.of q.1) (dpa_of hg ds vs ps r hp)
  | .rl ds, v, p, h, e => by
    obtain ⟨a, vs, e1, q, z, r⟩ := (show ∃ a vs, v = .ref a ∧ QL t w a vs ∧ ds.length ≤ sizeLine ∧ RL t w ds vs from h)
    have e2 : (toPys g ds).map PyData.list = some p := e
    cases hp : toPys g ds with
    | none =>
      rw [hp] at e2
      cases e2
    | some ps =>
      rw [hp] at e2
      rw [e1, ← Option.some.inj (show some (PyData.list ps) = some p from e2)]
      exact .lst q.sq (dpa_of hg ds vs ps r hp)
  | .ins _ _, _, p, _, e => nomatch (show (none : Option PyData) = some p from e)
theorem dpa_of {g : Nat → Option PyData} (hg : ∀ n p a, g n = some p → w.l[n]? = some a → Dp t.K w.H (.ref a) p) : ∀ (ds : List D) (vs : List V) (ps : List PyData), RL t w ds vs → toPys g ds = some ps → DpAll t.K w.H vs ps
  | [], vs, ps, h, e => by
    rw [show vs = [] from h, ← Option.some.inj (show some [] = some ps from e)]
    exact .nil
  | d :: ds, vs, ps, h, e => by
    obtain ⟨v, r, e1, h1, h2⟩ := (show ∃ v r, vs = v :: r ∧ R t w d v ∧ RL t w ds r from h)
    have e2 : (toPy g d).bind (fun p => (toPys g ds).map fun ps => p :: ps) = some ps := e
    cases hp : toPy g d with
    | none =>
      rw [hp] at e2
      cases e2
    | some p =>
      rw [hp] at e2
      cases hq : toPys g ds with
      | none =>
        rw [hq] at e2
        cases e2
      | some qs =>
        rw [hq] at e2
        rw [e1, ← Option.some.inj (show some (p :: qs) = some ps from e2)]
        exact .cons (dp_of hg d v p h1 hp) (dpa_of hg ds r qs h2 hq)
end
theorem dp_h (k : w.Ok t) : ∀ (m n : Nat) (p : PyData) (a : Addr), pyH w.h m n = some p → w.l[n]? = some a → Dp t.K w.H (.ref a) p
  | 0, _, _, _, e, _ => nomatch e
  | m + 1, n, p, a, e, ha => by
    unfold pyH at e
    cases ho : w.h[n]? with
    | none =>
      rw [ho] at e
      cases e
    | some o =>
      rw [ho] at e
      cases o with
      | lst ds =>
        have e2 : (toPys (pyH w.h m) ds).map PyData.list = some p := e
        obtain ⟨vs, h1, _, h2⟩ := (show ∃ vs, w.H a = some (.lst vs) ∧ ds.length ≤ sizeLine ∧ RL t w ds vs from k.obj n _ a ho ha)
        cases hp : toPys (pyH w.h m) ds with
        | none =>
          rw [hp] at e2
          cases e2
        | some ps =>
          rw [hp] at e2
          rw [← Option.some.inj (show some (PyData.list ps) = some p from e2)]
          exact .lst (SqL.of h1) (dpa_of (fun n p a => dp_h k m n p a) ds vs ps h2 hp)
      | _ => cases e
theorem py_of (k : w.Ok t) {d : D} {v : V} {p : PyData} (h : R t w d v) (e : py w.h d = some p) : Dp t.K w.H v p ∧ SeqAt.shaped p = true := by
  unfold py at e
  cases hq : toPy (pyH w.h 6) d with
  | none =>
    rw [hq] at e
    cases e
  | some q =>
    rw [hq] at e
    have e2 : (if SeqAt.shaped q = true then some q else none) = some p := e
    by_cases c : SeqAt.shaped q = true
    · rw [if_pos c] at e2
      rw [← Option.some.inj e2]
      exact ⟨dp_of (fun n p a => dp_h k 6 n p a) d v q h hq, c⟩
    · rw [if_neg c] at e2
      cases e2
/-! ### sequences -/
theorem seq_of (k : w.Ok t) {d : D} {v : V} {ds : List D} (h : R t w d v) (e : items w.h d = some ds) : ∃ a vs, v = .ref a ∧ (SqL t.K w.H a vs ∨ SqT t.K w.H a vs) ∧ ds.length ≤ sizeLine ∧ RL t w ds vs := by
  cases d with
  | tup xs =>
    cases (show some xs = some ds from e)
    obtain ⟨a, vs, e1, q, z, r⟩ := (show ∃ a vs, v = .ref a ∧ Fz w a (.tup vs) ∧ ds.length ≤ sizeLine ∧ RL t w ds vs from h)
    exact ⟨a, vs, e1, .inr (SqT.of q.1), z, r⟩
  | lst xs =>
    cases (show some xs = some ds from e)
    obtain ⟨a, vs, e1, q, z, r⟩ := (show ∃ a vs, v = .ref a ∧ Fz w a (.lst vs) ∧ ds.length ≤ sizeLine ∧ RL t w ds vs from h)
    exact ⟨a, vs, e1, .inl (SqL.of q.1), z, r⟩
  | rl xs =>
    cases (show some xs = some ds from e)
    obtain ⟨a, vs, e1, q, z, r⟩ := (show ∃ a vs, v = .ref a ∧ QL t w a vs ∧ ds.length ≤ sizeLine ∧ RL t w ds vs from h)
    exact ⟨a, vs, e1, .inl q.sq, z, r⟩
  | ref n =>
    obtain ⟨a, e1, q⟩ := (show ∃ a, v = .ref a ∧ w.l[n]? = some a from h)
    have e2 : (match w.h[n]? with | some (.lst ds) => some ds | _ => none) = some ds := e
    cases ho : w.h[n]? with
    | none =>
      rw [ho] at e2
      cases e2
    | some o =>
      rw [ho] at e2
      cases o with
      | lst xs =>
        cases (show some xs = some ds from e2)
        obtain ⟨vs, h1, h2, h3⟩ := (show ∃ vs, w.H a = some (.lst vs) ∧ ds.length ≤ sizeLine ∧ RL t w ds vs from k.obj n _ a ho q)
        exact ⟨a, vs, e1, .inl (SqL.of h1), h2, h3⟩
      | _ => cases e2
  | _ => cases e
theorem lim_le : lim ≤ sizeLine := by rw [sizeLine_eq]; decide
theorem lim_lt : lim < sizeLine := by rw [sizeLine_eq]; decide
theorem isE {α β : Type} {f : α → β → Prop} : True := trivial
theorem emptyRL {ds : List D} {vs : List V} (h : RL t w ds vs) : (!ds.isEmpty) = !vs.isEmpty := by
  have := h.length
  cases ds <;> cases vs <;> first | rfl | simp at this
theorem truth_of (k : w.Ok t) {d : D} {v : V} {b : Bool} (h : R t w d v) (e : truth w.h d = some b) : TruV t.K v w.H b := by
  have seq : ∀ ds, items w.h d = some ds → b = !ds.isEmpty → TruV t.K v w.H b := fun ds e1 e2 => by
    obtain ⟨a, vs, rfl, q, _, r⟩ := seq_of k h e1
    rcases q with q | q
    · exact .inl ⟨vs, q, e2.trans (emptyRL r)⟩
    · exact .inr (.inl ⟨vs, q, e2.trans (emptyRL r)⟩)
  cases d with
  | non =>
    rw [show v = .non from h]
    exact (Option.some.inj (show some false = some b from e)).symm
  | bl c =>
    rw [show v = .bl c from h]
    exact (Option.some.inj (show some c = some b from e)).symm
  | int i =>
    rw [show v = .int i from h]
    exact (Option.some.inj (show some (i != 0) = some b from e)).symm
  | str s =>
    rw [show v = .str s from h]
    have e2 : (if s.length ≤ lim then some (s.length != 0) else none) = some b := e
    by_cases c : s.length ≤ lim
    · rw [if_pos c] at e2
      refine ⟨Nat.le_trans c lim_le, ?_⟩
      rw [← Option.some.inj e2]
      cases s.length <;> rfl
    · rw [if_neg c] at e2
      cases e2
  | tup ds => exact seq ds rfl (Option.some.inj (show some (!ds.isEmpty) = some b from e)).symm
  | lst ds => exact seq ds rfl (Option.some.inj (show some (!ds.isEmpty) = some b from e)).symm
  | rl ds => exact seq ds rfl (Option.some.inj (show some (!ds.isEmpty) = some b from e)).symm
  | ref n =>
    have e2 : (match w.h[n]? with | some (.lst ds) => some (!ds.isEmpty) | _ => none) = some b := e
    cases ho : w.h[n]? with
    | none =>
      rw [ho] at e2
      cases e2
    | some o =>
      rw [ho] at e2
      cases o with
      | lst xs => exact seq xs (by show (match w.h[n]? with | some (.lst ds) => some ds | _ => none) = some xs; rw [ho]) (Option.some.inj (show some (!xs.isEmpty) = some b from e2)).symm
      | _ => cases e2
  | ins c fs => cases e
/-! ### dicts -/
theorem key_of' {d : D} {v : V} {k : Key} (h : R t w d v) (e : keyOf d = some k) : v = kV k := by
  cases d with
  | int i =>
    rw [show v = .int i from h, ← Option.some.inj (show some (Sum.inl i : Key) = some k from e)]
    rfl
  | str s =>
    rw [show v = .str s from h, ← Option.some.inj (show some (Sum.inr s : Key) = some k from e)]
    rfl
  | _ => cases e
theorem keys_of' : ∀ {ds : List D} {vs : List V} {ks : List Key}, RL t w ds vs → keysOf ds = some ks → vs = ks.map kV
  | [], vs, ks, h, e => by
    rw [show vs = [] from h, ← Option.some.inj (show some [] = some ks from e)]
    rfl
  | d :: ds, vs, ks, h, e => by
    obtain ⟨v, r, e1, h1, h2⟩ := (show ∃ v r, vs = v :: r ∧ R t w d v ∧ RL t w ds r from h)
    have e2 : (keyOf d).bind (fun k => (keysOf ds).map fun ks => k :: ks) = some ks := e
    cases hp : keyOf d with
    | none =>
      rw [hp] at e2
      cases e2
    | some k =>
      rw [hp] at e2
      cases hq : keysOf ds with
      | none =>
        rw [hq] at e2
        cases e2
      | some qs =>
        rw [hq] at e2
        rw [e1, ← Option.some.inj (show some (k :: qs) = some ks from e2), key_of' h1 hp, keys_of' h2 hq]
        rfl
theorem RK.val {κ : Type} [DecidableEq κ] {k : κ} : ∀ {kvs : List (κ × D)} {vs : List (κ × V)}, RK t w kvs vs → (valD kvs k = none ∧ valV vs k = none) ∨ ∃ d v, valD kvs k = some d ∧ valV vs k = some v ∧ R t w d v
  | [], vs, h => by
    rw [show vs = [] from h]
    exact .inl ⟨rfl, rfl⟩
  | (j, d) :: r, vs, h => by
    obtain ⟨v, s, rfl, h1, h2⟩ := (show ∃ v s, vs = (j, v) :: s ∧ R t w d v ∧ RK t w r s from h)
    by_cases e : j = k
    · exact .inr ⟨d, v, by simp [valD, List.find?_cons, e], by simp [valV, List.find?_cons, e], h1⟩
    · have e1 : valD ((j, d) :: r) k = valD r k := by simp [valD, List.find?_cons, e]
      have e2 : valV ((j, v) :: s) k = valV s k := by simp [valV, List.find?_cons, e]
      rw [e1, e2]
      exact RK.val h2
theorem RK.any {κ : Type} [DecidableEq κ] {k : κ} : ∀ {kvs : List (κ × D)} {vs : List (κ × V)}, RK t w kvs vs → (kvs.any fun kv => decide (kv.1 = k)) = vs.any fun kv => decide (kv.1 = k)
  | [], vs, h => by
    rw [show vs = [] from h]
    rfl
  | (j, d) :: r, vs, h => by
    obtain ⟨v, s, rfl, h1, h2⟩ := (show ∃ v s, vs = (j, v) :: s ∧ R t w d v ∧ RK t w r s from h)
    rw [List.any_cons, List.any_cons, RK.any h2]
theorem RK.app {κ : Type} : ∀ {kvs es : List (κ × D)} {vs us : List (κ × V)}, RK t w kvs vs → RK t w es us → RK t w (kvs ++ es) (vs ++ us)
  | [], _, _, _, h, k => by
    rw [show _ = [] from h]
    exact k
  | (j, d) :: r, es, vs, us, h, k => by
    obtain ⟨v, s, rfl, h1, h2⟩ := (show ∃ v s, vs = (j, v) :: s ∧ R t w d v ∧ RK t w r s from h)
    exact ⟨v, s ++ us, rfl, h1, RK.app h2 k⟩
theorem RK.repl {κ : Type} [DecidableEq κ] {k : κ} {d : D} {v : V} (rv : R t w d v) : ∀ {kvs : List (κ × D)} {vs : List (κ × V)}, RK t w kvs vs →
    RK t w (kvs.map fun kv => if kv.1 = k then (kv.1, d) else kv) (vs.map fun kv => if kv.1 = k then (kv.1, v) else kv)
  | [], vs, h => by
    rw [show vs = [] from h]
    rfl
  | (j, e) :: r, vs, h => by
    obtain ⟨u, s, rfl, h1, h2⟩ := (show ∃ v s, vs = (j, v) :: s ∧ R t w e v ∧ RK t w r s from h)
    rw [List.map_cons, List.map_cons]
    by_cases q : j = k
    · rw [if_pos q, if_pos q]
      exact ⟨v, _, rfl, rv, RK.repl rv h2⟩
    · rw [if_neg q, if_neg q]
      exact ⟨u, _, rfl, h1, RK.repl rv h2⟩
theorem RK.put {κ : Type} [DecidableEq κ] {k : κ} {d : D} {v : V} (rv : R t w d v) {kvs : List (κ × D)} {vs : List (κ × V)} (h : RK t w kvs vs) : RK t w (putD kvs k d) (putK vs k v) := by
  unfold putD putK
  rw [h.any]
  split
  · exact h.repl rv
  · exact h.app ⟨v, [], rfl, rv, rfl⟩
theorem RK.drop {κ : Type} [DecidableEq κ] {k : κ} : ∀ {kvs : List (κ × D)} {vs : List (κ × V)}, RK t w kvs vs → RK t w (dropD kvs k) (dropK vs k)
  | [], vs, h => by
    rw [show vs = [] from h]
    rfl
  | (j, e) :: r, vs, h => by
    obtain ⟨u, s, rfl, h1, h2⟩ := (show ∃ v s, vs = (j, v) :: s ∧ R t w e v ∧ RK t w r s from h)
    have ih := RK.drop (k := k) h2
    by_cases q : j = k
    · rw [show dropD ((j, e) :: r) k = dropD r k by simp [dropD, q], show dropK ((j, u) :: s) k = dropK s k by simp [dropK, q]]
      exact ih
    · rw [show dropD ((j, e) :: r) k = (j, e) :: dropD r k by simp [dropD, q], show dropK ((j, u) :: s) k = (j, u) :: dropK s k by simp [dropK, q]]
      exact ⟨u, _, rfl, h1, ih⟩
theorem length_putD {κ : Type} [DecidableEq κ] (kvs : List (κ × D)) (k : κ) (d : D) : (putD kvs k d).length ≤ kvs.length + 1 := by
  unfold putD
  split
  · simp
  · simp
/-- d[k] as it lies -/
theorem dget_of (k : w.Ok t) {n : Nat} {a : Addr} {d : D} {v : V} {o : Option D} (ha : w.l[n]? = some a) (h : R t w d v) (e : dlook w.h n d = some o) : ∃ u, DGet w.H a v u ∧ ((o = none ∧ u = none) ∨ ∃ x y, o = some x ∧ u = some y ∧ R t w x y) := by
  unfold dlook at e
  cases ho : w.h[n]? with
  | none =>
    rw [ho] at e
    cases e
  | some ob =>
    rw [ho] at e
    cases ob with
    | dK kvs =>
      obtain ⟨vs, h1, _, h3⟩ := (show ∃ vs, w.H a = some (.dK vs) ∧ kvs.length ≤ sizeLine ∧ RK t w kvs vs from k.obj n _ a ho ha)
      have e2 : (keyOf d).map (fun q => valD kvs q) = some o := e
      cases hk : keyOf d with
      | none =>
        rw [hk] at e2
        cases e2
      | some q =>
        rw [hk] at e2
        have e3 : valD kvs q = o := Option.some.inj e2
        refine ⟨valV vs q, .inl ⟨vs, q, .inl h1, key_of' h hk, rfl⟩, ?_⟩
        rcases h3.val (k := q) with ⟨z1, z2⟩ | ⟨x, y, z1, z2, z3⟩
        · exact .inl ⟨e3.symm.trans z1, z2⟩
        · exact .inr ⟨x, y, e3.symm.trans z1, z2, z3⟩
    | dT kvs =>
      obtain ⟨vs, h1, _, h3⟩ := (show ∃ vs, w.H a = some (.dT vs) ∧ kvs.length ≤ sizeLine ∧ RK t w kvs vs from k.obj n _ a ho ha)
      cases d with
      | tup ds =>
        have e2 : (keysOf ds).map (fun q => valD kvs q) = some o := e
        cases hk : keysOf ds with
        | none =>
          rw [hk] at e2
          cases e2
        | some q =>
          rw [hk] at e2
          have e3 : valD kvs q = o := Option.some.inj e2
          obtain ⟨b, us, e4, z, _, r⟩ := (show ∃ a vs, v = .ref a ∧ Fz w a (.tup vs) ∧ ds.length ≤ sizeLine ∧ RL t w ds vs from h)
          have e5 := keys_of' r hk
          refine ⟨valV vs q, .inr ⟨vs, q, b, .inl h1, e4, by rw [z.1, e5], rfl⟩, ?_⟩
          rcases h3.val (k := q) with ⟨z1, z2⟩ | ⟨x, y, z1, z2, z3⟩
          · exact .inl ⟨e3.symm.trans z1, z2⟩
          · exact .inr ⟨x, y, e3.symm.trans z1, z2, z3⟩
      | _ => cases e
    | _ => cases e
/-- a[k] = v -/
theorem dput_of (k : w.Ok t) {n : Nat} {a : Addr} {ob ob' : Ob} {d e : D} {v u : V} (ho : w.h[n]? = some ob) (ha : w.l[n]? = some a) (h : R t w d v) (r : R t w e u) (q : dputO ob d e = some ob') :
    ∃ o', DPut w.H a v u (upd w.H a o') ∧ (∀ w', Step w w' → w'.H a = some o' → ObR t w' a ob') ∧ ob.live = true := by
  unfold dputO at q
  cases ob with
  | dK kvs =>
    obtain ⟨vs, h1, _, h3⟩ := (show ∃ vs, w.H a = some (.dK vs) ∧ kvs.length ≤ sizeLine ∧ RK t w kvs vs from k.obj n _ a ho ha)
    have q2 : (keyOf d).bind (fun z => if kvs.length < lim then some (Ob.dK (putD kvs z e)) else none) = some ob' := q
    cases hk : keyOf d with
    | none =>
      rw [hk] at q2
      cases q2
    | some z =>
      rw [hk] at q2
      have q3 : (if kvs.length < lim then some (Ob.dK (putD kvs z e)) else none) = some ob' := q2
      by_cases c : kvs.length < lim
      · rw [if_pos c] at q3
        rw [← Option.some.inj q3, key_of' h hk]
        have lt : vs.length < sizeLine := by rw [← h3.length]; exact Nat.lt_trans c lim_lt
        refine ⟨_, DPut.k h1 lt, fun w' s e' => ⟨_, e', ?_, RK.mono s.toExt _ _ (h3.put r)⟩, rfl⟩
        have := length_putD kvs z e
        have := lim_lt
        omega
      · rw [if_neg c] at q3
        cases q3
  | dT kvs =>
    obtain ⟨vs, h1, _, h3⟩ := (show ∃ vs, w.H a = some (.dT vs) ∧ kvs.length ≤ sizeLine ∧ RK t w kvs vs from k.obj n _ a ho ha)
    cases d with
    | tup ds =>
      have q2 : (keysOf ds).bind (fun z => if kvs.length < lim then some (Ob.dT (putD kvs z e)) else none) = some ob' := q
      cases hk : keysOf ds with
      | none =>
        rw [hk] at q2
        cases q2
      | some z =>
        rw [hk] at q2
        have q3 : (if kvs.length < lim then some (Ob.dT (putD kvs z e)) else none) = some ob' := q2
        by_cases c : kvs.length < lim
        · rw [if_pos c] at q3
          obtain ⟨b, us, e4, zz, _, rr⟩ := (show ∃ a vs, v = .ref a ∧ Fz w a (.tup vs) ∧ ds.length ≤ sizeLine ∧ RL t w ds vs from h)
          have e5 := keys_of' rr hk
          rw [← Option.some.inj q3, e4]
          have lt : vs.length < sizeLine := by rw [← h3.length]; exact Nat.lt_trans c lim_lt
          refine ⟨_, DPut.t (k := z) h1 (by rw [zz.1, e5]) lt, fun w' s e' => ⟨_, e', ?_, RK.mono s.toExt _ _ (h3.put r)⟩, rfl⟩
          have := length_putD kvs z e
          have := lim_lt
          omega
        · rw [if_neg c] at q3
          cases q3
    | _ => cases q
  | _ => cases q
end
end VM

set_option Elab.async false
set_option linter.all false
set_option maxRecDepth 100000
set_option maxHeartbeats 4000000
/-! VmD: operations on values keep what the machine says. -/
namespace VM
open PySem L2
section
variable {t : Tx} {X : Cx} {w : Wd}
/-- a value is given back, nothing else is turned -/
def Ret (t : Tx) (w : Wd) (z : D) (Q : VK) : Prop := ∀ w' v, w'.Ok t → Step w w' → w'.h = w.h → R t w' z v → Q v w'.H
theorem Ret.now {w : Wd} {z : D} {Q : VK} {v : V} (q : Ret t w z Q) (k : w.Ok t) (r : R t w z v) : Q v w.H := q w v k (Step.refl w) rfl r
/-- a new tuple -/
theorem Ret.tup {w : Wd} {ds : List D} {vs : List V} {Q : VK} (q : Ret t w (.tup ds) Q) (k : w.Ok t) (hl : ds.length ≤ sizeLine) (r : RL t w ds vs) {p : Addr} (hp : w.H p = none) : Q (.ref p) (upd w.H p (.tup vs)) :=
  q (w.put p (.tup vs)) (.ref p) (ok_frz k hp) (step_frz k hp) rfl ⟨p, vs, rfl, fz_new k hp, hl, r.mono t (step_frz k hp).toExt⟩
/-- two values with what is wanted of an operation on them -/
def rB (t : Tx) (g : Hs → D → D → Option D) : R2 := fun x y H Q => ∃ w a b z, w.H = H ∧ w.Ok t ∧ R t w a x ∧ R t w b y ∧ g w.h a b = some z ∧ Ret t w z Q
theorem big_ok {i : Int} (h : big i = true) : -(2 ^ 64) < i ∧ i < 2 ^ 64 := by
  obtain ⟨a, b⟩ := Bool.and_eq_true_iff.mp h
  exact ⟨of_decide_eq_true a, of_decide_eq_true b⟩
theorem op_bin (hK : X.K = t.K) (op : Operator) : OpR X (binaryOp op) (rB t (binV op)) := by
  intro pins s σ H x y v u Q I rx ry h
  obtain ⟨w, a, b, z, rfl, k, ra, rb, e, q⟩ := h
  cases a with
  | int i =>
    cases b with
    | int j =>
      cases (show x = .int i from ra)
      cases (show y = .int j from rb)
      have e2 : (binI op i j).map D.int = some z := e
      cases hb : binI op i j with
      | none =>
        rw [hb] at e2
        cases e2
      | some m =>
        rw [hb] at e2
        rw [← Option.some.inj (show some (D.int m) = some z from e2)] at q
        have qq : Q (.int m) w.H := q.now k rfl
        cases op with
        | Add =>
          cases (show some (i + j) = some m from hb)
          exact op_add pins s σ w.H _ _ v u Q I rx ry ⟨i, j, rfl, rfl, qq⟩
        | Sub =>
          cases (show some (i - j) = some m from hb)
          exact op_sub pins s σ w.H _ _ v u Q I rx ry ⟨i, j, rfl, rfl, qq⟩
        | Mult =>
          have hb2 : (if big i || big j then some (i * j) else none) = some m := hb
          by_cases c : (big i || big j) = true
          · rw [if_pos c] at hb2
            cases hb2
            refine op_mul pins s σ w.H _ _ v u Q I rx ry ⟨i, j, rfl, rfl, ?_, qq⟩
            rcases Bool.or_eq_true_iff.mp c with c | c
            · exact .inl (big_ok c)
            · exact .inr (big_ok c)
          · rw [if_neg c] at hb2
            cases hb2
        | FloorDiv =>
          have hb2 : (if 0 < j ∧ j < 1073741824 then some (i / j) else none) = some m := hb
          by_cases c : 0 < j ∧ j < 1073741824
          · rw [if_pos c] at hb2
            cases hb2
            exact op_fdiv pins s σ w.H _ _ v u Q I rx ry ⟨i, j, rfl, rfl, c, qq⟩
          · rw [if_neg c] at hb2
            cases hb2
        | Mod =>
          have hb2 : (if 0 < j then some (i % j) else none) = some m := hb
          by_cases c : 0 < j
          · rw [if_pos c] at hb2
            cases hb2
            exact op_mod pins s σ w.H _ _ v u Q I rx ry ⟨i, j, rfl, rfl, c, qq⟩
          · rw [if_neg c] at hb2
            cases hb2
        | Pow =>
          have hb2 : (if 0 ≤ j ∧ j ≤ 1000000 ∧ i.natAbs < 2 ^ 64 then some (i ^ j.toNat) else none) = some m := hb
          by_cases c : 0 ≤ j ∧ j ≤ 1000000 ∧ i.natAbs < 2 ^ 64
          · rw [if_pos c] at hb2
            cases hb2
            exact op_pow pins s σ w.H _ _ v u Q I rx ry ⟨i, j, rfl, rfl, c, qq⟩
          · rw [if_neg c] at hb2
            cases hb2
        | _ => cases hb
    | _ => cases e
  | str i =>
    cases b with
    | str j =>
      cases (show x = .str i from ra)
      cases (show y = .str j from rb)
      cases op with
      | Add =>
        have e2 : (if i.length + j.length ≤ lim then some (D.str (i ++ j)) else none) = some z := e
        by_cases c : i.length + j.length ≤ lim
        · rw [if_pos c] at e2
          rw [← Option.some.inj e2] at q
          exact op_add_str pins s σ w.H _ _ v u Q I rx ry ⟨i, j, rfl, rfl, Nat.le_trans c lim_le, q.now k rfl⟩
        · rw [if_neg c] at e2
          cases e2
      | _ => cases e
    | _ => cases e
  | tup xs =>
    cases b with
    | tup ys =>
      cases op with
      | Add =>
        have e2 : (if xs.isEmpty then none else if xs.length + ys.length ≤ lim then some (D.tup (xs ++ ys)) else none) = some z := e
        by_cases c0 : xs.isEmpty = true
        · rw [if_pos c0] at e2
          cases e2
        · rw [if_neg c0] at e2
          by_cases c : xs.length + ys.length ≤ lim
          · rw [if_pos c] at e2
            rw [← Option.some.inj e2] at q
            obtain ⟨pa, vs, rfl, za, _, r1⟩ := (show ∃ a vs, x = .ref a ∧ Fz w a (.tup vs) ∧ xs.length ≤ sizeLine ∧ RL t w xs vs from ra)
            obtain ⟨pb, us, rfl, zb, _, r2⟩ := (show ∃ a vs, y = .ref a ∧ Fz w a (.tup vs) ∧ ys.length ≤ sizeLine ∧ RL t w ys vs from rb)
            have hne : xs ≠ [] := fun z => c0 (by rw [z]; rfl)
            have hvn : vs ≠ [] := fun z => by
              have := r1.length
              rw [z] at this
              exact hne (List.length_eq_zero_iff.mp this)
            have hl : (xs ++ ys).length ≤ sizeLine := by
              rw [List.length_append]
              exact Nat.le_trans c lim_le
            refine op_catT pins s σ w.H _ _ v u Q I rx ry ⟨pa, pb, vs, us, rfl, rfl, SqT.of za.1, SqT.of zb.1, hvn, by rw [← r1.length, ← r2.length]; exact Nat.le_trans c lim_le, ?_⟩
            refine ⟨fun hz => ?_, fun _ p hp => q.tup k hl (r1.app r2) hp⟩
            have hys : ys = [] := List.length_eq_zero_iff.mp (by rw [r2.length, hz]; rfl)
            rw [hys, List.append_nil] at q
            exact q.now k ra
          · rw [if_neg c] at e2
            cases e2
      | _ => cases e
    | _ => cases e
  | _ => cases e
theorem py_list (k : w.Ok t) {d : D} {v : V} {ps : List PyData} (h : R t w d v) (e : py w.h d = some (.list ps)) : Dp t.K w.H v (.list ps) ∧ SeqAt.shaped (.list ps) = true := py_of k h e
/-- two values with a truth -/
def rC (t : Tx) (g : Hs → D → D → Option Bool) : R2 := fun x y H Q => ∃ w a b z, w.H = H ∧ w.Ok t ∧ R t w a x ∧ R t w b y ∧ g w.h a b = some z ∧ Ret t w (.bl z) Q
theorem str_of_list {s : Str} {c : Nat} (h : s.cps.toList = [c]) : s = ⟨#[c]⟩ := by
  obtain ⟨a⟩ := s
  have h2 : a.toList = [c] := h
  rw [show a = #[c] from Array.toList_inj.mp h2]
/-- x in a list by deep comparing -/
theorem in_py (k : w.Ok t) {a c : D} {x y : V} {z : Bool} (ra : R t w a x) (rc : R t w c y) (e : (py w.h a).bind (fun p => match py w.h c with | some (.list ps) => some (pyAny p ps) | _ => none) = some z) :
    ∃ d ds, Dp t.K w.H x d ∧ Dp t.K w.H y (.list ds) ∧ SeqAt.shaped d = true ∧ SeqAt.shaped (.list ds) = true ∧ z = ds.any fun q => PyData.eqv q d := by
  cases hp : py w.h a with
  | none =>
    rw [hp] at e
    cases e
  | some p =>
    rw [hp] at e
    have e2 : (match py w.h c with | some (.list ps) => some (pyAny p ps) | _ => none) = some z := e
    cases hq : py w.h c with
    | none =>
      rw [hq] at e2
      cases e2
    | some q =>
      rw [hq] at e2
      cases q with
      | list ps => exact ⟨p, ps, (py_of k ra hp).1, (py_of k rc hq).1, (py_of k ra hp).2, (py_of k rc hq).2, (Option.some.inj (show some (pyAny p ps) = some z from e2)).symm⟩
      | _ => cases e2
/-- the three ways of in -/
theorem in_ways (k : w.Ok t) {a c : D} {x y : V} {z : Bool} (ra : R t w a x) (rc : R t w c y) (e : inD w.h a c = some z) :
    (∃ d ds, Dp t.K w.H x d ∧ Dp t.K w.H y (.list ds) ∧ SeqAt.shaped d = true ∧ SeqAt.shaped (.list ds) = true ∧ z = ds.any fun q => PyData.eqv q d) ∨
    (∃ p o, y = .ref p ∧ DGet w.H p x o ∧ z = o.isSome) ∨ ∃ (m : Nat) (s : Str), x = .str ⟨#[m]⟩ ∧ y = .str s ∧ z = decide (m ∈ s.cps.toList) := by
  cases c with
  | ref n =>
    obtain ⟨p, rfl, hn⟩ := (show ∃ a, y = .ref a ∧ w.l[n]? = some a from rc)
    have dd : ∀ {ob}, w.h[n]? = some ob → (dlook w.h n a).map (·.isSome) = some z → ∃ o, DGet w.H p x o ∧ z = o.isSome := fun {ob} ho e => by
      cases hl : dlook w.h n a with
      | none =>
        rw [hl] at e
        cases e
      | some o =>
        rw [hl] at e
        have e3 : o.isSome = z := Option.some.inj e
        obtain ⟨u, g, q⟩ := dget_of k hn ra hl
        refine ⟨u, g, ?_⟩
        rcases q with ⟨q1, q2⟩ | ⟨x', y', q1, q2, _⟩
        · rw [← e3, q1, q2] <;> rfl
        · rw [← e3, q1, q2] <;> rfl
    have e2 : (match w.h[n]? with
      | some (.lst _) => (py w.h a).bind fun p => match py w.h (.ref n) with
        | some (.list ps) => some (pyAny p ps)
        | _ => none
      | some (.dK _) => (dlook w.h n a).map (·.isSome)
      | some (.dT _) => (dlook w.h n a).map (·.isSome)
      | _ => none) = some z := e
    cases ho : w.h[n]? with
    | none =>
      rw [ho] at e2
      cases e2
    | some ob =>
      rw [ho] at e2
      cases ob with
      | lst ds => exact .inl (in_py k ra rc e2)
      | dK kvs => exact .inr (.inl (let ⟨o, g, q⟩ := dd ho e2; ⟨p, o, rfl, g, q⟩))
      | dT kvs => exact .inr (.inl (let ⟨o, g, q⟩ := dd ho e2; ⟨p, o, rfl, g, q⟩))
      | _ => cases e2
  | str s =>
    cases (show y = .str s from rc)
    cases a with
    | str i =>
      cases (show x = .str i from ra)
      have e2 : (match i.cps.toList with | [c] => some (decide (c ∈ s.cps.toList)) | _ => none) = some z := e
      cases hc : i.cps.toList with
      | nil =>
        rw [hc] at e2
        cases e2
      | cons m r =>
        rw [hc] at e2
        cases r with
        | nil => exact .inr (.inr ⟨m, s, by rw [str_of_list hc], rfl, (Option.some.inj (show some (decide (m ∈ s.cps.toList)) = some z from e2)).symm⟩)
        | cons _ _ => cases e2
    | _ => cases e
  | tup _ => cases e
  | lst ds => exact .inl (in_py k ra rc e)
  | rl ds => exact .inl (in_py k ra rc e)
  | non => exact .inl (in_py k ra rc e)
  | bl _ => exact .inl (in_py k ra rc e)
  | int _ => exact .inl (in_py k ra rc e)
  | ins _ _ => exact .inl (in_py k ra rc e)
theorem op_din {X : Cx} (hu : X.A.units + 1 < cLine) : OpR X (compareOp .In) (fun x y H Q => ∃ a o, y = .ref a ∧ DGet H a x o ∧ Q (.bl o.isSome) H) := by
  intro pins s σ H x y v u Q I rx ry h
  obtain ⟨a, o, rfl, g, q⟩ := h
  cases ry
  exact d_in hu I g rx fun s' I' => ⟨.bl _, H, I', rfl, q⟩
theorem op_dnotin {X : Cx} (hu : X.A.units + 1 < cLine) : OpR X (compareOp .NotIn) (fun x y H Q => ∃ a o, y = .ref a ∧ DGet H a x o ∧ Q (.bl (!o.isSome)) H) := by
  intro pins s σ H x y v u Q I rx ry h
  obtain ⟨a, o, rfl, g, q⟩ := h
  cases ry
  exact d_notIn hu I g rx fun s' I' => ⟨.bl _, H, I', rfl, q⟩
theorem non_iff {d : D} {v : V} (r : R t w d v) : decide (v = V.non) = isNon d := by
  cases d with
  | non =>
    rw [show v = .non from r]
    rfl
  | bl b =>
    rw [show v = .bl b from r]
    rfl
  | int b =>
    rw [show v = .int b from r]
    rfl
  | str b =>
    rw [show v = .str b from r]
    rfl
  | ref n =>
    obtain ⟨a, e, _⟩ := (show ∃ a, v = .ref a ∧ w.l[n]? = some a from r)
    rw [e]
    rfl
  | tup ds =>
    obtain ⟨a, _, e, _⟩ := (show ∃ a vs, v = .ref a ∧ Fz w a (.tup vs) ∧ ds.length ≤ sizeLine ∧ RL t w ds vs from r)
    rw [e]
    rfl
  | lst ds =>
    obtain ⟨a, _, e, _⟩ := (show ∃ a vs, v = .ref a ∧ Fz w a (.lst vs) ∧ ds.length ≤ sizeLine ∧ RL t w ds vs from r)
    rw [e]
    rfl
  | rl ds =>
    obtain ⟨a, _, e, _⟩ := (show ∃ a vs, v = .ref a ∧ QL t w a vs ∧ ds.length ≤ sizeLine ∧ RL t w ds vs from r)
    rw [e]
    rfl
  | ins c fs =>
    obtain ⟨a, _, _, e, _⟩ := (show ∃ a dx vs, v = .ref a ∧ Fz w a (.ins (t.cls c) dx vs) ∧ RF t w fs vs from r)
    rw [e]
    rfl
theorem eq_py {h : Hs} {a b : D} {z : Bool} (e : eqD h a b = some z) : ∃ p q, py h a = some p ∧ py h b = some q ∧ z = PyData.eqv p q := by
  unfold eqD at e
  cases hp : py h a with
  | none =>
    rw [hp] at e
    cases e
  | some p =>
    rw [hp] at e
    cases hq : py h b with
    | none =>
      rw [hq] at e
      cases e
    | some q =>
      rw [hq] at e
      exact ⟨p, q, rfl, rfl, (Option.some.inj (show some (PyData.eqv p q) = some z from e)).symm⟩
theorem map_not {o : Option Bool} {z : Bool} (h : o.map (!·) = some z) : ∃ y, o = some y ∧ z = !y := by
  cases o with
  | none => cases h
  | some y => exact ⟨y, rfl, (Option.some.inj h).symm⟩
theorem op_cmp (hK : X.K = t.K) (hu : X.A.units + 65 < cLine) (op : CmpOp) : OpR X (compareOp op) (rC t (cmpV op)) := by
  intro pins s σ H x y v u Q I rx ry h
  obtain ⟨w, a, b, z, rfl, k, ra, rb, e, q⟩ := h
  have qq : Q (.bl z) w.H := q.now k rfl
  have iways : ∀ {i j : Int}, a = .int i → b = .int j → cmpI op i j = some z → wpAny (model X.prog X.w) X.A (compareOp op v u) (EP X pins σ Q) X.xe s := fun {i j} ea eb ec => by
    rw [ea] at ra
    rw [eb] at rb
    cases (show x = .int i from ra)
    cases (show y = .int j from rb)
    cases op with
    | Lt =>
      cases (show some (decide (i < j)) = some z from ec)
      exact op_lt pins s σ w.H _ _ v u Q I rx ry ⟨i, j, rfl, rfl, qq⟩
    | LtE =>
      cases (show some (decide (i ≤ j)) = some z from ec)
      exact op_le pins s σ w.H _ _ v u Q I rx ry ⟨i, j, rfl, rfl, qq⟩
    | Gt =>
      cases (show some (decide (j < i)) = some z from ec)
      exact op_gt pins s σ w.H _ _ v u Q I rx ry ⟨i, j, rfl, rfl, qq⟩
    | GtE =>
      cases (show some (decide (j ≤ i)) = some z from ec)
      exact op_ge pins s σ w.H _ _ v u Q I rx ry ⟨i, j, rfl, rfl, qq⟩
    | _ => cases ec
  have ord : cmpI2 op a b = some z → wpAny (model X.prog X.w) X.A (compareOp op v u) (EP X pins σ Q) X.xe s := fun e2 => by
    cases ha : a with
    | int i =>
      cases hb : b with
      | int j =>
        rw [ha, hb] at e2
        exact iways ha hb e2
      | _ =>
        rw [ha, hb] at e2
        cases e2
    | _ =>
      rw [ha] at e2
      cases e2
  cases op with
  | Eq =>
    obtain ⟨p, r, e1, e2, e3⟩ := eq_py (show eqD w.h a b = some z from e)
    rw [e3] at qq
    refine op_eqD (by omega) pins s σ w.H _ _ v u Q I rx ry ⟨p, r, ?_, ?_, (py_of k ra e1).2, (py_of k rb e2).2, qq⟩
    · rw [hK]
      exact (py_of k ra e1).1
    · rw [hK]
      exact (py_of k rb e2).1
  | NotEq =>
    obtain ⟨z', e0, ez⟩ := map_not (show (eqD w.h a b).map (!·) = some z from e)
    obtain ⟨p, r, e1, e2, e3⟩ := eq_py e0
    rw [ez, e3] at qq
    refine op_neD (by omega) pins s σ w.H _ _ v u Q I rx ry ⟨p, r, ?_, ?_, (py_of k ra e1).2, (py_of k rb e2).2, qq⟩
    · rw [hK]
      exact (py_of k ra e1).1
    · rw [hK]
      exact (py_of k rb e2).1
  | In =>
    rcases in_ways k ra rb (show inD w.h a b = some z from e) with ⟨d, ds, h1, h2, h3, h4, h5⟩ | ⟨p, o, rfl, g, h5⟩ | ⟨m, r, rfl, rfl, h5⟩
    · rw [h5] at qq
      exact op_inD hu pins s σ w.H _ _ v u Q I rx ry ⟨d, ds, by rw [hK]; exact h1, by rw [hK]; exact h2, h3, h4, qq⟩
    · rw [h5] at qq
      exact op_din (by omega) pins s σ w.H _ _ v u Q I rx ry ⟨p, o, rfl, g, qq⟩
    · rw [h5] at qq
      exact op_in_sign pins s σ w.H _ _ v u Q I rx ry ⟨m, r, rfl, rfl, qq⟩
  | NotIn =>
    obtain ⟨z', e0, ez⟩ := map_not (show (inD w.h a b).map (!·) = some z from e)
    rcases in_ways k ra rb e0 with ⟨d, ds, h1, h2, h3, h4, h5⟩ | ⟨p, o, rfl, g, h5⟩ | ⟨m, r, rfl, rfl, h5⟩
    · rw [ez, h5] at qq
      exact op_notInD hu pins s σ w.H _ _ v u Q I rx ry ⟨d, ds, by rw [hK]; exact h1, by rw [hK]; exact h2, h3, h4, qq⟩
    · rw [ez, h5] at qq
      exact op_dnotin (by omega) pins s σ w.H _ _ v u Q I rx ry ⟨p, o, rfl, g, qq⟩
    · rw [ez, h5] at qq
      exact op_notIn_sign pins s σ w.H _ _ v u Q I rx ry ⟨m, r, rfl, rfl, qq⟩
  | Is =>
    cases b with
    | non =>
      cases (show y = .non from rb)
      rw [← Option.some.inj (show some (isNon a) = some z from e), ← non_iff ra] at qq
      exact op_isN pins s σ w.H _ _ v u Q I rx ry ⟨rfl, qq⟩
    | _ => cases e
  | IsNot =>
    cases b with
    | non =>
      cases (show y = .non from rb)
      rw [← Option.some.inj (show some (!isNon a) = some z from e), ← non_iff ra] at qq
      exact op_notN pins s σ w.H _ _ v u Q I rx ry ⟨rfl, qq⟩
    | _ => cases e
  | Lt => exact ord e
  | LtE => exact ord e
  | Gt => exact ord e
  | GtE => exact ord e
end
end VM

set_option Elab.async false
set_option linter.all false
set_option maxRecDepth 100000
set_option maxHeartbeats 4000000
/-! VmE: which code is which text. -/
namespace VM
open PySem L2
/-! ### scopes -/
def visB (sc : Scope) (x : Str) : Bool := match sc.names.lookup x with
  | some .local => true
  | some .cell => true
  | some .free => true
  | _ => false
def glB (sc : Scope) (x : Str) : Bool := match sc.names.lookup x with
  | some .globalImplicit => true
  | _ => false
def locB (sc : Scope) (x : Str) : Bool := match sc.names.lookup x with
  | some .local => true
  | some .cell => true
  | _ => false
def lclB (sc : Scope) (x : Str) : Bool := match sc.names.lookup x with
  | some .local => true
  | _ => false
structure ScOk (X : Cx) (sc : Scope) : Prop where
  fre : ∀ x, (sc.names.lookup x = some .cell ∨ sc.names.lookup x = some .free) → (X.env.scope.names.lookup x = some .cell ∨ X.env.scope.names.lookup x = some .free)
  vis : ∀ x, visB sc x = true → Vis X.env.scope x
  gl : ∀ x, glB sc x = true → Gl X x
  lcl : ∀ x, lclB sc x = true → X.env.scope.names.lookup x = some .local
  loc : ∀ x, locB sc x = true → Loc X.env.scope x ∧ (X.fn x = true ∨ X.env.scope.names.lookup x = some .local)
def dbg (x : Str) : Bool := (x == ("__debug__" : Str)) || (x == ("__classdict__" : Str))
theorem dbg1 {x : Str} (h : dbg x = false) : (x == ("__debug__" : Str)) = false := (Bool.or_eq_false_iff.mp h).1
theorem dbg2 {x : Str} (h : dbg x = false) : (x == ("__classdict__" : Str)) = false := (Bool.or_eq_false_iff.mp h).2
/-- no call of a name without arguments stands ahead of the dot -/
def noSup : Expr → Bool
  | .Call _ [] [] _ => false
  | _ => true
theorem base_ok {o : Expr} (h : noSup o = true) (m : Str) (env : Env) (wh : Sem Value) : attributeBase o m env wh = wh := by
  unfold attributeBase
  split
  · cases h
  · rfl
mutual
/-- the names that a target stores -/
def G.names : G → List Nat
  | .name i => [i]
  | .tup gs => gs.names
  | .sub _ _ => []
  | .fld _ _ => []
def Gs.names : Gs → List Nat
  | .nil => []
  | .cons g gs => g.names ++ gs.names
end
def G.within (g : G) (own : List Nat) : Bool := g.names.all fun i => own.contains i
section
variable (T : Tab) (N : List Str)
/-- a form that is a test by its value's truth -/
def plainT : Expr → Bool
  | .UnaryOp .Not _ _ => false
  | .BoolOp _ _ _ => false
  | .IfExp _ _ _ _ => false
  | .Compare _ _ _ _ => false
  | _ => true
theorem plainT_ok {e : Expr} (h : plainT e = true) (env : Env) (wh : Sem Value) : isTrue e env wh = (do let v ← wh; standAt e.pos; holding [v] (truthy v)) := by
  cases e with
  | UnaryOp op x p => cases op <;> first | rfl | cases h
  | BoolOp _ _ _ => cases h
  | IfExp _ _ _ _ => cases h
  | Compare _ _ _ _ => cases h
  | _ => rfl
/-- a type's name -/
def tyChk (sc : Scope) : Ty → Expr → Bool
  | .own c, .Name x _ => decide ((T.cls[c]?).map (·.name) = some x) && (glB sc x && !dbg x)
  | .int, .Name x _ => decide (x = "int") && glB sc x
  | .bool, .Name x _ => decide (x = "bool") && glB sc x
  | .str, .Name x _ => decide (x = "str") && glB sc x
  | .list, .Name x _ => decide (x = "list") && glB sc x
  | .tuple, .Name x _ => decide (x = "tuple") && glB sc x
  | .dict, .Name x _ => decide (x = "dict") && glB sc x
  | _, _ => false
def tysChk (sc : Scope) : List Ty → List Expr → Bool
  | [], [] => true
  | t :: ts, e :: es => tyChk T sc t e && tysChk sc ts es
  | _, _ => false
/-- all arguments are keywords of these names -/
def kwNames : List Keyword → Option (List Str)
  | [] => some []
  | k :: ks => match k.arg with
    | some x => (kwNames ks).map (x :: ·)
    | none => none
def isNonE : E → Bool
  | .non => true
  | _ => false
def isG (sc : Scope) (x y : Str) : Bool := decide (x = y) && glB sc x
mutual
def chkE (sc : Scope) : E → Expr → Bool
  | .var i, .Name x _ => decide (N[i]? = some x) && (visB sc x && !dbg x)
  | .int i, .Constant (.int j) _ _ => decide (i = j)
  | .bl i, .Constant (.bool j) _ _ => decide (i = j)
  | .non, .Constant .none _ _ => true
  | .str i, .Constant (.str j) _ _ => decide (i = j)
  | .bin op a b, .BinOp x op' y _ => decide (op = op') && (chkE sc a x && chkE sc b y)
  | .neg a, .UnaryOp .USub x _ => chkE sc a x
  | .cmp op a b, .Compare x [op'] [y] _ => decide (op = op') && (chkE sc a x && chkE sc b y)
  | .chain op op2 a b c, .Compare x [op', op2'] [y, z] _ => decide (op = op') && (decide (op2 = op2') && (chkE sc a x && (chkE sc b y && chkE sc c z)))
  | .and_ a b, .BoolOp .And (x :: y :: r) pos => chkE sc a x && (match r with
    | [] => chkE sc b y
    | _ => chkE sc b (.BoolOp .And (y :: r) pos))
  | .or_ a b, .BoolOp .Or (x :: y :: r) pos => chkE sc a x && (match r with
    | [] => chkE sc b y
    | _ => chkE sc b (.BoolOp .Or (y :: r) pos))
  | .not_ a, .UnaryOp .Not x _ => chkE sc a x
  | .ife c a b, .IfExp x y z _ => chkE sc c x && (chkE sc a y && chkE sc b z)
  | .tup as, .Tuple es _ _ => chkA sc as es
  | .frz f, e => plainT e && chkF sc f e
  | .heap f, e => plainT e && chkF sc f e
  | .frzr c, e => plainT e && chkE sc c e
  | .ix a b, .Subscript x y _ => chkE sc a x && chkE sc b y
  | .fld a f, .Attribute x nm _ => decide (T.nm[f]? = some nm) && (noSup x && chkE sc a x)
  | .call f as, .Call (.Name x _) es [] _ => decide ((T.fns[f]?).map (·.at_) = some (x, none)) && (glB sc x && (!dbg x && chkA sc as es))
  | .meth o m as, .Call (.Attribute x nm apos) es [] pos => decide (T.nm[m]? = some nm) && (noSup x && ((apos.endLine == pos.line) && (decide (es.length < 29) && (chkE sc o x && chkA sc as es))))
  | .mk c as, .Call (.Name x _) es [] _ => decide ((T.cls[c]?).map (·.name) = some x) && (((T.cls[c]?).bind fun ct => T.fns[ct.init]?).isSome && (glB sc x && (!dbg x && chkA sc as es)))
  | .len a, .Call (.Name x _) [y] [] _ => isG sc x "len" && chkE sc a y
  | .abs a, .Call (.Name x _) [y] [] _ => isG sc x "abs" && chkE sc a y
  | .sum a, .Call (.Name x _) [y] [] _ => isG sc x "sum" && chkE sc a y
  | .append o e, .Call (.Attribute x nm apos) [y] [] pos => decide (nm = "append") && (noSup x && ((apos.endLine == pos.line) && (chkE sc o x && chkE sc e y)))
  | .pop o, .Call (.Attribute x nm apos) [] [] pos => decide (nm = "pop") && (noSup x && ((apos.endLine == pos.line) && chkE sc o x))
  | .popAt o e, .Call (.Attribute x nm apos) [y] [] pos => decide (nm = "pop") && (noSup x && ((apos.endLine == pos.line) && (chkE sc o x && chkE sc e y)))
  | .dget2 o k d, .Call (.Attribute x nm apos) [y, z] [] pos => decide (nm = "get") && (noSup x && ((apos.endLine == pos.line) && (chkE sc o x && (chkE sc k y && chkE sc d z))))
  | .dnew _, .Dict [] [] _ => true
  | .slice fl fh a lo hi, .Subscript x (.Slice l u none _) _ => chkE sc a x && ((match l with
    | none => !fl && isNonE lo
    | some y => fl && chkE sc lo y) && (match u with
      | none => !fh && isNonE hi
      | some y => fh && chkE sc hi y))
  | .isi a t, .Call (.Name x _) [y, z] [] _ => isG sc x "isinstance" && (chkE sc a y && tyChk T sc t z)
  | .isiT a ts, .Call (.Name x _) [y, .Tuple zs _ _] [] _ => isG sc x "isinstance" && (chkE sc a y && (tysChk T sc ts zs && decide (0 < ts.length ∧ ts.length ≤ 100)))
  | .all a, .Call (.Name x _) [y] [] _ => isG sc x "all" && chkE sc a y
  | .any a, .Call (.Name x _) [y] [] _ => isG sc x "any" && chkE sc a y
  | .mkK c k as ks, .Call (.Name x _) es kws _ => decide ((T.cls[c]?).map (·.name) = some x) && (((T.cls[c]?).bind fun ct => T.fns[ct.init]?).isSome && (glB sc x && (!dbg x && (chkA sc as es && (chkA sc ks (kws.map (·.value)) && ((T.kws[k]?).isSome && decide ((T.kws[k]?).map (·.names) = kwNames kws)))))))
  | .back a k, .Subscript x (.Slice none (some (.Constant (.int j) _ _)) (some (.UnaryOp .USub (.Constant (.int 1) _ _) _)) _) _ => decide (j = (k : Int)) && chkE sc a x
  | .glo k, .Name x _ => decide ((T.gls[k]?).map (·.1) = some x) && (glB sc x && !dbg x)
  | .eqI ng m a b, .Compare x [op] [y] _ => decide (op = if ng then .NotEq else .Eq) && (decide (T.nm[m]? = some "__eq__") && (chkE sc a x && chkE sc b y))
  | _, _ => false
def chkA (sc : Scope) : A → List Expr → Bool
  | .nil, [] => true
  | .cons c as, e :: es => chkE sc c e && chkA sc as es
  | _, _ => false
def chkF (sc : Scope) : F → Expr → Bool
  | .disp as, .List es _ => chkA sc as es
  | .list c, .Call (.Name x _) [y] [] _ => isG sc x "list" && chkE sc c y
  | .rep a b, .BinOp x .Mult y _ => chkE sc a x && chkE sc b y
  | .slice fl fh a lo hi, .Subscript x (.Slice l u none _) _ => chkE sc a x && ((match l with
    | none => !fl && isNonE lo
    | some y => fl && chkE sc lo y) && (match u with
      | none => !fh && isNonE hi
      | some y => fh && chkE sc hi y))
  | .comp own g it test c, .ListComp elt [⟨tg, iter, ifs, k⟩] scope _ => decide (k = 0) && (chkI sc it tg iter && blkC N sc scope (own.map fun i => (N.getD i Str.empty, i)) && ((chkG scope g tg && g.within own) && (chkE scope c elt && (decide (ifs.length ≤ 1) && chkA scope test ifs))))
  | _, _ => false
/-- a walk: the target's form, what is walked -/
def chkI (sc : Scope) : I → Expr → Expr → Bool
  | .seq c, _, e => chkE sc c e
  | .range c, _, .Call (.Name x _) [y] [] _ => isG sc x "range" && chkE sc c y
  | .range2 c d, _, .Call (.Name x _) [y, z] [] _ => isG sc x "range" && (chkE sc c y && chkE sc d z)
  | .enum c, .Tuple _ _ _, .Call (.Name x _) [y] [] _ => isG sc x "enumerate" && chkE sc c y
  | _, _, _ => false
def chkG (sc : Scope) : G → Expr → Bool
  | .name i, .Name x _ => decide (N[i]? = some x) && locB sc x
  | .tup gs, .Tuple es _ _ => chkGs sc gs es
  | .sub o i, .Subscript x y _ => chkE sc o x && chkE sc i y
  | .fld o f, .Attribute x nm _ => decide (T.nm[f]? = some nm) && chkE sc o x
  | _, _ => false
def chkGs (sc : Scope) : Gs → List Expr → Bool
  | .nil, [] => true
  | .cons g gs, e :: es => chkG sc g e && chkGs sc gs es
  | _, _ => false
end
/-! no starred item, no slice -/
mutual
theorem notStar {sc : Scope} {x : Expr} {p : Pos} : ∀ c : E, chkE T N sc c (.Starred x p) = false
  | .frz f => (Bool.and_eq_false_iff).mpr (.inr (notStarF f))
  | .heap f => (Bool.and_eq_false_iff).mpr (.inr (notStarF f))
  | .frzr c => (Bool.and_eq_false_iff).mpr (.inr (notStar c))
  | .var _ | .int _ | .bl _ | .non | .str _ | .bin _ _ _ | .neg _ | .cmp _ _ _ | .chain _ _ _ _ _ | .and_ _ _ | .or_ _ _ | .not_ _ | .ife _ _ _ | .tup _ | .ix _ _ | .fld _ _ | .call _ _ | .meth _ _ _ | .mk _ _
  | .len _ | .abs _ | .sum _ | .isi _ _ | .append _ _ | .pop _ | .popAt _ _ | .dget2 _ _ _ | .dnew _
  | .slice _ _ _ _ _ | .isiT _ _ | .all _ | .any _ | .mkK _ _ _ _ | .eqI _ _ _ _ | .glo _ | .back _ _ => rfl
theorem notStarF {sc : Scope} {x : Expr} {p : Pos} : ∀ f : F, chkF T N sc f (.Starred x p) = false
  | .disp _ | .comp _ _ _ _ _ | .list _ | .cat _ _ | .sorted _ | .rep _ _ | .slice _ _ _ _ _ => rfl
end
mutual
theorem notSlice {sc : Scope} {x y z : Option Expr} {p : Pos} : ∀ c : E, chkE T N sc c (.Slice x y z p) = false
  | .frz f => (Bool.and_eq_false_iff).mpr (.inr (notSliceF f))
  | .heap f => (Bool.and_eq_false_iff).mpr (.inr (notSliceF f))
  | .frzr c => (Bool.and_eq_false_iff).mpr (.inr (notSlice c))
  | .var _ | .int _ | .bl _ | .non | .str _ | .bin _ _ _ | .neg _ | .cmp _ _ _ | .chain _ _ _ _ _ | .and_ _ _ | .or_ _ _ | .not_ _ | .ife _ _ _ | .tup _ | .ix _ _ | .fld _ _ | .call _ _ | .meth _ _ _ | .mk _ _
  | .len _ | .abs _ | .sum _ | .isi _ _ | .append _ _ | .pop _ | .popAt _ _ | .dget2 _ _ _ | .dnew _
  | .slice _ _ _ _ _ | .isiT _ _ | .all _ | .any _ | .mkK _ _ _ _ | .eqI _ _ _ _ | .glo _ | .back _ _ => rfl
theorem notSliceF {sc : Scope} {x y z : Option Expr} {p : Pos} : ∀ f : F, chkF T N sc f (.Slice x y z p) = false
  | .disp _ | .comp _ _ _ _ _ | .list _ | .cat _ _ | .sorted _ | .rep _ _ | .slice _ _ _ _ _ => rfl
end
mutual
theorem notSet {sc : Scope} {x : List Expr} {k : Nat} {p : Pos} : ∀ c : E, chkE T N sc c (.Set x k p) = false
  | .frz f => (Bool.and_eq_false_iff).mpr (.inr (notSetF f))
  | .heap f => (Bool.and_eq_false_iff).mpr (.inr (notSetF f))
  | .frzr c => (Bool.and_eq_false_iff).mpr (.inr (notSet c))
  | .var _ | .int _ | .bl _ | .non | .str _ | .bin _ _ _ | .neg _ | .cmp _ _ _ | .chain _ _ _ _ _ | .and_ _ _ | .or_ _ _ | .not_ _ | .ife _ _ _ | .tup _ | .ix _ _ | .fld _ _ | .call _ _ | .meth _ _ _ | .mk _ _
  | .len _ | .abs _ | .sum _ | .isi _ _ | .append _ _ | .pop _ | .popAt _ _ | .dget2 _ _ _ | .dnew _
  | .slice _ _ _ _ _ | .isiT _ _ | .all _ | .any _ | .mkK _ _ _ _ | .eqI _ _ _ _ | .glo _ | .back _ _ => rfl
theorem notSetF {sc : Scope} {x : List Expr} {k : Nat} {p : Pos} : ∀ f : F, chkF T N sc f (.Set x k p) = false
  | .disp _ | .comp _ _ _ _ _ | .list _ | .cat _ _ | .sorted _ | .rep _ _ | .slice _ _ _ _ _ => rfl
end
variable {T N}
theorem star1 {sc : Scope} {c : E} {e : Expr} (h : chkE T N sc c e = true) (es : List Expr) (env : Env) : starEach (e :: es) env = (false, eval e env) :: starEach es env := by
  cases e with
  | Starred x p =>
    rw [notStar] at h
    cases h
  | _ => rfl
theorem starA {sc : Scope} : ∀ {as : A} {es : List Expr} (env : Env), chkA T N sc as es = true → starEach es env = es.map fun e => (false, eval e env)
  | .nil, [], _, _ => rfl
  | .cons c as, e :: es, env, h => by
    obtain ⟨h1, h2⟩ := Bool.and_eq_true_iff.mp (show (chkE T N sc c e && chkA T N sc as es) = true from h)
    rw [star1 h1, starA env h2]
    rfl
  | .nil, _ :: _, _, h => nomatch h
  | .cons _ _, [], _, h => nomatch h
theorem plainA {sc : Scope} {as : A} {es : List Expr} (env : Env) (pos : Pos) (h : chkA T N sc as es = true) : (backTo pos (starEach es env)).any (·.1) = false := by
  rw [starA env h]
  unfold backTo
  rw [List.map_map, List.any_map]
  induction es with
  | nil => rfl
  | cons e es ih => simp [List.any_eq_false]
theorem fewA {sc : Scope} {as : A} {es : List Expr} (env : Env) (pos : Pos) (h : chkA T N sc as es = true) (hn : es.length < 29) :
    ((backTo pos (starEach es env)).all (fun x => !x.1) && (backToKw pos (keywordEach [] env)).all (fun x => x.1.isSome) && decide (es.length + ([] : List Keyword).length + (if ([] : List Keyword).isEmpty then 0 else 1) < 30)) = true := by
  rw [starA env h]
  have h1 : (backTo pos (es.map fun e => (false, eval e env))).all (fun x => !x.1) = true := by
    unfold backTo
    rw [List.map_map, List.all_map]
    simp [List.all_eq_true]
  have h2 : decide (es.length + ([] : List Keyword).length + (if ([] : List Keyword).isEmpty then 0 else 1) < 30) = true := decide_eq_true (by simp; omega)
  rw [h1, h2]
  rfl
theorem plainIx {sc : Scope} {c : E} {e : Expr} (h : chkE T N sc c e = true) : PlainIx e := by
  intro o i
  cases e with
  | Slice x y z p =>
    rw [notSlice] at h
    cases h
  | _ => rfl
theorem noMark {sc : Scope} {c : E} {e : Expr} (h : chkE T N sc c e = true) (op : CmpOp) : behindInMarks op e = false := by
  cases e with
  | Set x k p =>
    rw [notSet] at h
    cases h
  | _ => rfl
/-- codes that are tests of their own -/
def ownT : E → Bool
  | .eqI _ _ _ _ => true
  | .cmp _ _ _ => true
  | .chain _ _ _ _ _ => true
  | .and_ _ _ => true
  | .or_ _ _ => true
  | .not_ _ => true
  | .ife _ _ _ => true
  | _ => false
theorem plainE {sc : Scope} {c : E} {e : Expr} (hc : ownT c = false) (h : chkE T N sc c e = true) : plainT e = true := by
  have fr : ∀ {b : Bool}, (plainT e && b) = true → plainT e = true := fun q => (Bool.and_eq_true_iff.mp q).1
  cases c with
  | frz f => exact fr h
  | heap f => exact fr h
  | frzr c => exact fr h
  | eqI _ _ _ _ => cases hc
  | cmp _ _ _ => cases hc
  | chain _ _ _ _ _ => cases hc
  | and_ _ _ => cases hc
  | or_ _ _ => cases hc
  | not_ _ => cases hc
  | ife _ _ _ => cases hc
  | _ =>
    cases e with
    | UnaryOp op x p => cases op <;> first | rfl | cases h
    | BoolOp _ _ _ => cases h
    | IfExp _ _ _ _ => cases h
    | Compare _ _ _ _ => cases h
    | _ => rfl
/-! targets are no starred ones -/
theorem notStarG {sc : Scope} {x : Expr} {p : Pos} : ∀ g : G, chkG T N sc g (.Starred x p) = false
  | .name _ | .tup _ | .sub _ _ | .fld _ _ => rfl
theorem starG {sc : Scope} {g : G} {e : Expr} (h : chkG T N sc g e = true) (es : List Expr) (env : Env) : assignEach (e :: es) env = (false, assign e env) :: assignEach es env := by
  cases e with
  | Starred x p =>
    rw [notStarG] at h
    cases h
  | _ => rfl
theorem starGs {sc : Scope} : ∀ {gs : Gs} {es : List Expr} (env : Env), chkGs T N sc gs es = true → assignEach es env = es.map (fun e => (false, assign e env)) ∧ es.length = gs.len
  | .nil, [], _, _ => ⟨rfl, rfl⟩
  | .cons g gs, e :: es, env, h => by
    obtain ⟨h1, h2⟩ := Bool.and_eq_true_iff.mp (show (chkG T N sc g e && chkGs T N sc gs es) = true from h)
    obtain ⟨i1, i2⟩ := starGs env h2
    rw [starG h1, i1]
    exact ⟨rfl, congrArg Nat.succ i2⟩
  | .nil, _ :: _, _, h => nomatch h
  | .cons _ _, [], _, h => nomatch h
theorem notSetI {sc : Scope} {it : I} {tg iter : Expr} (h : chkI T N sc it tg iter = true) (env : Env) (x : Value) : foldedSetIterable iter env x = pure x := by
  cases iter with
  | Set l k p =>
    cases it with
    | seq c =>
      have h2 : chkE T N sc c (.Set l k p) = true := h
      rw [notSet] at h2
      cases h2
    | _ =>
      cases tg <;> cases h
  | _ => rfl
end
end VM

set_option Elab.async false
set_option linter.all false
set_option maxRecDepth 100000
set_option maxHeartbeats 4000000
/-! VmF: the machine's steps are the text's: expressions. -/
namespace VM
open PySem L2
/-- what a def promises: what the machine's call says -/
def spF (t : Tx) (cl : Call) (f : Nat) : Sp := fun vs H Q E => ∃ w ds, w.H = H ∧ w.Ok t ∧ RL t w ds vs ∧ Post t (fun c d _ H' => E c d H') [] w (R t) Q (cl f ds w.h)
def bltNames : List Str := ["len", "abs", "sum", "list", "range", "enumerate", "sorted", "isinstance", "min", "max", "set", "all", "any", "int", "tuple", "dict", "zip", "repr", "str", "bool"]

/-- built-in types that are asked for; all that a value may have -/
def tyNs : List String := ["int", "bool", "str", "list", "tuple", "dict"]
def tyAll : List String := ["NoneType", "int", "bool", "str", "list", "tuple", "dict"]
structure KitOk (T : Tab) (K : PySem.W.Frag) (cls : Nat → Addr) : Prop where
  own : ∀ (c k : Nat) (ct kt : ClsT), T.cls[c]? = some ct → T.cls[k]? = some kt → PySem.W.kitOne K (.ref (cls c)) (.ref (cls k)) = some (decide (k ∈ ct.anc))
  ownB : ∀ (c : Nat) (ct : ClsT) (n : String), T.cls[c]? = some ct → n ∈ tyNs → PySem.W.kitOne K (.ref (cls c)) (.type n) = some false
  bOwn : ∀ (n : String) (k : Nat) (kt : ClsT), n ∈ tyAll → T.cls[k]? = some kt → PySem.W.kitOne K (.type n) (.ref (cls k)) = some false
  ha : ∀ (c : Nat) (ct : ClsT), T.cls[c]? = some ct → PySem.W.findIn K (.ref (cls c)) "__class__" = some (some (.builtin "object.__class__"))
  hn : ∀ (c : Nat) (ct : ClsT), T.cls[c]? = some ct → PySem.W.specialIn K (.builtin "object.__class__") "__get__" = some (some (.builtin "getset_descriptor.__get__"))
  htk : ∀ (c : Nat) (ct : ClsT), T.cls[c]? = some ct → PySem.W.takesIn K (.builtin "object.__class__") = some true
  hm : ∀ (c : Nat) (ct : ClsT), T.cls[c]? = some ct → PySem.W.mroIn K (cls c) (.type "object") = some true
  ne : ∀ (c : Nat) (ct : ClsT), T.cls[c]? = some ct → PySem.W.findIn K (.ref (cls c)) "__ne__" = some (some (.builtin "object.__ne__"))
/-- the calls with keywords that the table tells of f -/
def KwAll (T : Tab) (K : PySem.W.Frag) (f : Nat) (fd : FuncData) (ps : List Str) : Prop := ∀ (k : Nat) (kd : KwT), T.kws[k]? = some kd → kd.f = f → KBn K fd ps kd.n kd.names (fun us ws => us ++ pick kd.perm ws) (fun vs zs => vs ++ pick kd.perm zs)
/-- the text's facts where a code runs -/
structure Txt (t : Tx) (T : Tab) (cl : Call) (lv : Nat) (X : Cx) : Prop where
  K : X.K = t.K
  calm : X.calm = true
  nd : X.N.Nodup
  room : Room (lv + 2) X.A
  fn : ∀ f ft x, T.fns[f]? = some ft → ft.at_ = (x, none) → ∃ a fd ps, FnOk X.prog X.w X.K X.mg X.base (L2.CX X.prog X.w) lv a fd ps (spF t cl f) ∧ Binds X.K fd ps [] ∧ PySem.W.keepIn X.K (.ref a) = true ∧ X.mg x = some (.ref a) ∧ KwAll T X.K f fd ps
  me : ∀ c ct m f, T.cls[c]? = some ct → ct.meths.lookup m = some f → ∃ a fd ps, FnOk X.prog X.w X.K X.mg X.base (L2.CX X.prog X.w) lv a fd ps (spF t cl f) ∧ Binds X.K fd ps [] ∧ Meth X.K (t.cls c) (t.nm m) a ∧ KwAll T X.K f fd ps
  mkr : ∀ c ct ft, T.cls[c]? = some ct → T.fns[ct.init]? = some ft → ∃ a fd ps, FnOk X.prog X.w X.K X.mg X.base (L2.CX X.prog X.w) lv a fd ps (spF t cl ct.init) ∧ Binds X.K fd ps [] ∧ Mk X.K (t.cls c) a ∧ X.mg ct.name = some (.ref (t.cls c)) ∧ KwAll T X.K ct.init fd ps
  cls : ∀ c ct, T.cls[c]? = some ct → Cls X.K (t.cls c)
  noat : ∀ c f, hasF T c f = true → NoAttr X.K (t.cls c) (t.nm f) ∧ f < t.n
  nm : ∀ f x, T.nm[f]? = some x → t.nm f = x ∧ f < t.n
  blt : ∀ x ∈ bltNames, X.mg x = none
  cgl : ∀ c ct, T.cls[c]? = some ct → X.mg ct.name = some (.ref (t.cls c))
  kit : KitOk T X.K t.cls
  gl : ∀ (k : Nat) (x : Str) (d : D), T.gls[k]? = some (x, d) → ∃ u v, X.mg x = some u ∧ RelV v u ∧ ∀ w, R t w d v
section
variable (t : Tx) (T : Tab) (cl : Call)
def tE (Wx : WX) (c : E) : TE := fun σ H Q => ∃ w σd, w.H = H ∧ w.Ok t ∧ Good t w σd σ ∧ Post t Wx σ w (R t) Q (ev T cl c σd w.h)
def tA (Wx : WX) (c : A) : TA := fun σ H Q => ∃ w σd, w.H = H ∧ w.Ok t ∧ Good t w σd σ ∧ Post t Wx σ w (RL t) Q (evA T cl c σd w.h)
def tT (Wx : WX) (c : E) : TT := fun σ H Q => ∃ w σd, w.H = H ∧ w.Ok t ∧ Good t w σd σ ∧ Post t Wx σ w (fun _ (a b : Bool) => a = b) Q (evT T cl c σd w.h)
/-- a new list: p new in the heap behind all items -/
def PostF (Wx : WX) (σ : L2.St) (w : Wd) (Q : VK) : Res (List D) → Prop
  | .ok ds h => ∀ w' p vs, w'.Ok t → Step w w' → w'.h = h → w'.H p = none → ds.length ≤ sizeLine → RL t w' ds vs → Q (.ref p) (upd w'.H p (.lst vs))
  | .ex x h => ∀ w' c d, w'.Ok t → Step w w' → w'.h = h → RX t w' x c d → Wx c d σ w'.H
  | .bad => False
def tF (Wx : WX) (c : F) : TE := fun σ H Q => ∃ w σd, w.H = H ∧ w.Ok t ∧ Good t w σd σ ∧ PostF t Wx σ w Q (evF T cl c σd w.h)
end
section
variable {t : Tx} {T : Tab} {cl : Call} {lv : Nat} {N : List Str} {X : Cx} {sc : Scope} {Wx : WX} {e : Expr}
theorem PEimp {t1 t2 : TE} (h : PE X e t1) (i : ∀ σ H Q, t2 σ H Q → t1 σ H Q) : PE X e t2 := ⟨fun pins s σ H Q I q => h.run pins s σ H Q I (i σ H Q q)⟩
theorem PTimp {t1 t2 : TT} (h : PT X e t1) (i : ∀ σ H Q, t2 σ H Q → t1 σ H Q) : PT X e t2 := ⟨fun pins s σ H Q I q => h.run pins s σ H Q I (i σ H Q q)⟩
theorem PWimp {t1 t2 : TT} (h : PW X e t1) (i : ∀ σ H Q, t2 σ H Q → t1 σ H Q) : PW X e t2 := ⟨fun wh pins s σ H Q I q => h.run wh pins s σ H Q I (i σ H Q q)⟩
theorem PAimp {es : List Expr} {t1 t2 : TA} (h : PA X es t1) (i : ∀ σ H Q, t2 σ H Q → t1 σ H Q) : PA X es t2 := ⟨fun pos pins s σ H Q I q => h.run pos pins s σ H Q I (i σ H Q q)⟩
theorem Post.imp {α β : Type} {σ : L2.St} {w : Wd} {RR : Wd → α → β → Prop} {Q Q' : β → Hp → Prop} {r : Res α} (h : Post t Wx σ w RR Q r) (i : ∀ v H, Q v H → Q' v H) : Post t Wx σ w RR Q' r := by
  cases r with
  | ok d h' => exact fun w' v k st e rr => i _ _ (h w' v k st e rr)
  | ex x h' => exact h
  | bad => exact h
theorem Res.assoc {α β γ : Type} (r : Res α) (f : α → Hs → Res β) (g : β → Hs → Res γ) : (r.bind f).bind g = r.bind fun a h => (f a h).bind g := by cases r <;> rfl
theorem orBad_bind {α β γ : Type} (o : Option α) (f : α → Res β) (g : β → Hs → Res γ) : (orBad o f).bind g = orBad o fun a => (f a).bind g := by cases o <;> rfl
theorem evT_cmp (op : CmpOp) (a b : E) (σ : Sl) (h : Hs) : evT T cl (.cmp op a b) σ h = (ev T cl a σ h).bind fun x h1 => (ev T cl b σ h1).bind fun y h2 => orBad (cmpV op h2 x y) fun z => .ok z h2 := by
  show ((ev T cl a σ h).bind fun x h1 => (ev T cl b σ h1).bind fun y h2 => orBad (cmpV op h2 x y) fun z => .ok (D.bl z) h2).bind _ = _
  rw [Res.assoc]
  congr 1
  funext x h1
  rw [Res.assoc]
  congr 1
  funext y h2
  rw [orBad_bind]
  rfl
theorem evT_and (a b : E) (σ : Sl) (h : Hs) : evT T cl (.and_ a b) σ h = (evT T cl a σ h).bind fun x h1 => if x then evT T cl b σ h1 else .ok false h1 := by
  show ((ev T cl a σ h).bind fun x h1 => orBad (truth h1 x) fun t => if t then ev T cl b σ h1 else .ok x h1).bind _ = ((ev T cl a σ h).bind _).bind _
  rw [Res.assoc, Res.assoc]
  congr 1
  funext x h1
  rw [orBad_bind, orBad_bind]
  cases e : truth h1 x with
  | none => rfl
  | some b =>
    cases b with
    | true => rfl
    | false =>
      show orBad (truth h1 x) _ = _
      rw [e]
      rfl
theorem evT_or (a b : E) (σ : Sl) (h : Hs) : evT T cl (.or_ a b) σ h = (evT T cl a σ h).bind fun x h1 => if x then .ok true h1 else evT T cl b σ h1 := by
  show ((ev T cl a σ h).bind fun x h1 => orBad (truth h1 x) fun t => if t then .ok x h1 else ev T cl b σ h1).bind _ = ((ev T cl a σ h).bind _).bind _
  rw [Res.assoc, Res.assoc]
  congr 1
  funext x h1
  rw [orBad_bind, orBad_bind]
  cases e : truth h1 x with
  | none => rfl
  | some b =>
    cases b with
    | false => rfl
    | true =>
      show orBad (truth h1 x) _ = _
      rw [e]
      rfl
theorem evT_not (a : E) (σ : Sl) (h : Hs) : evT T cl (.not_ a) σ h = (evT T cl a σ h).bind fun x h1 => .ok (!x) h1 := by
  show ((ev T cl a σ h).bind fun x h1 => orBad (truth h1 x) fun t => .ok (D.bl (!t)) h1).bind _ = ((ev T cl a σ h).bind _).bind _
  rw [Res.assoc, Res.assoc]
  congr 1
  funext x h1
  rw [orBad_bind, orBad_bind]
  rfl
theorem evT_ife (c a b : E) (σ : Sl) (h : Hs) : evT T cl (.ife c a b) σ h = (evT T cl c σ h).bind fun x h1 => if x then evT T cl a σ h1 else evT T cl b σ h1 := by
  show ((ev T cl c σ h).bind fun x h1 => orBad (truth h1 x) fun t => if t then ev T cl a σ h1 else ev T cl b σ h1).bind _ = ((ev T cl c σ h).bind _).bind _
  rw [Res.assoc, Res.assoc]
  congr 1
  funext x h1
  rw [orBad_bind, orBad_bind]
  congr 1
  funext t
  cases t <;> rfl
theorem evT_chain (op op2 : CmpOp) (a b c : E) (σ : Sl) (h : Hs) : evT T cl (.chain op op2 a b c) σ h = (ev T cl a σ h).bind fun x h1 => (ev T cl b σ h1).bind fun y h2 => orBad (cmpV op h2 x y) fun t =>
      if t then (ev T cl c σ h2).bind fun z h3 => orBad (cmpV op2 h3 y z) fun u => .ok u h3 else .ok false h2 := by
  show ((ev T cl a σ h).bind fun x h1 => (ev T cl b σ h1).bind fun y h2 => orBad (cmpV op h2 x y) fun t => if t then (ev T cl c σ h2).bind fun z h3 => orBad (cmpV op2 h3 y z) fun u => .ok (D.bl u) h3 else .ok (D.bl false) h2).bind _ = _
  rw [Res.assoc]
  congr 1
  funext x h1
  rw [Res.assoc]
  congr 1
  funext y h2
  rw [orBad_bind]
  congr 1
  funext t
  cases t with
  | false => rfl
  | true =>
    show ((ev T cl c σ h2).bind fun z h3 => orBad (cmpV op2 h3 y z) fun u => .ok (D.bl u) h3).bind _ = _
    rw [Res.assoc]
    congr 1
    funext z h3
    rw [orBad_bind]
    rfl
/-! ### rules by codes -/
theorem r_var {i : Nat} {x : Str} {pos : Pos} (hN : X.N[i]? = some x) (hv : Vis X.env.scope x) (hd : dbg x = false) : PE X (.Name x pos) (tE t T cl Wx (.var i)) :=
  PEimp (pe_var hN hv (dbg1 hd) (dbg2 hd)) fun σ H Q ⟨w, σd, e, k, g, p⟩ => by
    obtain ⟨d, e1, p1⟩ := Post.orBad (show Post t Wx σ w (R t) Q (orBad (getSl σd i) fun d => .ok d w.h) from p)
    obtain ⟨v, e2, r⟩ := g.at_ i d e1
    exact ⟨v, e2, e ▸ p1 w v k (Step.refl w) rfl r⟩
theorem now {σ : L2.St} {w : Wd} {Q : VK} {d : D} {v : V} (p : Post t Wx σ w (R t) Q (.ok d w.h)) (k : w.Ok t) (r : R t w d v) : Q v w.H := p w v k (Step.refl w) rfl r
theorem r_int {i : Int} {j pos} : PE X (.Constant (.int i) j pos) (tE t T cl Wx (.int i)) := PEimp pe_int fun σ H Q ⟨w, σd, e, k, g, p⟩ => e ▸ now p k rfl
theorem r_bl {i : Bool} {j pos} : PE X (.Constant (.bool i) j pos) (tE t T cl Wx (.bl i)) := PEimp pe_bl fun σ H Q ⟨w, σd, e, k, g, p⟩ => e ▸ now p k rfl
theorem r_non {j pos} : PE X (.Constant .none j pos) (tE t T cl Wx .non) := PEimp pe_non fun σ H Q ⟨w, σd, e, k, g, p⟩ => e ▸ now p k rfl
theorem r_str {i : Str} {j pos} : PE X (.Constant (.str i) j pos) (tE t T cl Wx (.str i)) := PEimp pe_str fun σ H Q ⟨w, σd, e, k, g, p⟩ => e ▸ now p k rfl
variable {a b c : E} {x y z : Expr} {pos : Pos}
theorem r_bin {op : Operator} (hK : X.K = t.K) (ha : PE X x (tE t T cl Wx a)) (hb : PE X y (tE t T cl Wx b)) : PE X (.BinOp x op y pos) (tE t T cl Wx (.bin op a b)) :=
  PEimp (pe_op (op_bin hK op) ha hb) fun σ H Q ⟨w, σd, e, k, g, p⟩ => by
    refine ⟨w, σd, e, k, g, (Post.bind p).imp ?_⟩
    rintro v1 H1 ⟨w1, d1, rfl, k1, s1, r1, p1⟩
    refine ⟨w1, σd, rfl, k1, g.mono s1.toExt, (Post.bind p1).imp ?_⟩
    rintro v2 H2 ⟨w2, d2, rfl, k2, s2, r2, p2⟩
    obtain ⟨z, e, p3⟩ := p2.orBad
    exact ⟨w2, d1, d2, z, rfl, k2, r1.mono t s2.toExt, r2, e, p3⟩
theorem r_cmp {op : CmpOp} (hK : X.K = t.K) (hu : X.A.units + 65 < cLine) (ha : PE X x (tE t T cl Wx a)) (hb : PE X y (tE t T cl Wx b)) (hm : behindInMarks op y = false) : PE X (.Compare x [op] [y] pos) (tE t T cl Wx (.cmp op a b)) :=
  PEimp (pe_cmpR (op_cmp hK hu op) ha hb hm) fun σ H Q ⟨w, σd, e, k, g, p⟩ => by
    refine ⟨w, σd, e, k, g, (Post.bind p).imp ?_⟩
    rintro v1 H1 ⟨w1, d1, rfl, k1, s1, r1, p1⟩
    refine ⟨w1, σd, rfl, k1, g.mono s1.toExt, (Post.bind p1).imp ?_⟩
    rintro v2 H2 ⟨w2, d2, rfl, k2, s2, r2, p2⟩
    obtain ⟨z, e, p3⟩ := p2.orBad
    exact ⟨w2, d1, d2, z, rfl, k2, r1.mono t s2.toExt, r2, e, p3⟩
theorem rt_cmp {op : CmpOp} (hK : X.K = t.K) (hu : X.A.units + 65 < cLine) (ha : PE X x (tE t T cl Wx a)) (hb : PE X y (tE t T cl Wx b)) (hm : behindInMarks op y = false) : PT X (.Compare x [op] [y] pos) (tT t T cl Wx (.cmp op a b)) :=
  PTimp (pt_cmpR (op_cmp hK hu op) ha hb hm) fun σ H Q ⟨w, σd, e, k, g, p⟩ => by
    rw [evT_cmp] at p
    refine ⟨w, σd, e, k, g, (Post.bind p).imp ?_⟩
    rintro v1 H1 ⟨w1, d1, rfl, k1, s1, r1, p1⟩
    refine ⟨w1, σd, rfl, k1, g.mono s1.toExt, (Post.bind p1).imp ?_⟩
    rintro v2 H2 ⟨w2, d2, rfl, k2, s2, r2, p2⟩
    obtain ⟨z, e, p3⟩ := p2.orBad
    refine ⟨w2, d1, d2, z, rfl, k2, r1.mono t s2.toExt, r2, e, fun w' v' k' s' e' r' => ⟨z, r', p3 w' z k' s' e' rfl⟩⟩
theorem r_chain {op op2 : CmpOp} (hK : X.K = t.K) (hu : X.A.units + 65 < cLine) (ha : PE X x (tE t T cl Wx a)) (hb : PE X y (tE t T cl Wx b)) (hc : PE X z (tE t T cl Wx c)) (hm : lastMarks [op, op2] [y, z] = false) :
    PE X (.Compare x [op, op2] [y, z] pos) (tE t T cl Wx (.chain op op2 a b c)) :=
  PEimp (pe_chain (op_cmp hK hu op) (op_cmp hK hu op2) ha hb hc hm) fun σ H Q ⟨w, σd, e, k, g, p⟩ => by
    refine ⟨w, σd, e, k, g, (Post.bind p).imp ?_⟩
    rintro v1 H1 ⟨w1, d1, rfl, k1, s1, r1, p1⟩
    refine ⟨w1, σd, rfl, k1, g.mono s1.toExt, (Post.bind p1).imp ?_⟩
    rintro v2 H2 ⟨w2, d2, rfl, k2, s2, r2, p2⟩
    obtain ⟨z, e, p3⟩ := p2.orBad
    refine ⟨w2, d1, d2, z, rfl, k2, r1.mono t s2.toExt, r2, e, fun w' v' k' s' e' r' => ⟨z, r', ?_⟩⟩
    cases z with
    | false =>
      rw [if_neg Bool.false_ne_true]
      exact p3 w' _ k' s' e' rfl
    | true =>
      rw [if_pos rfl]
      have p4 := Post.to s' (show Post t Wx σ w2 (R t) Q ((ev T cl c σd w2.h).bind fun z h3 => orBad (cmpV op2 h3 d2 z) fun u => .ok (.bl u) h3) from p3)
      rw [← e'] at p4
      refine ⟨w', σd, rfl, k', g.mono ((s1.trans s2).trans s').toExt, (Post.bind p4).imp ?_⟩
      rintro v3 H3 ⟨w3, d3, rfl, k3, s3, r3, p5⟩
      obtain ⟨z, e, p6⟩ := p5.orBad
      exact ⟨w3, d2, d3, z, rfl, k3, r2.mono t (s'.trans s3).toExt, r3, e, p6⟩
theorem rt_chain {op op2 : CmpOp} (hK : X.K = t.K) (hu : X.A.units + 65 < cLine) (ha : PE X x (tE t T cl Wx a)) (hb : PE X y (tE t T cl Wx b)) (hc : PE X z (tE t T cl Wx c)) (hm : lastMarks [op, op2] [y, z] = false) :
    PT X (.Compare x [op, op2] [y, z] pos) (tT t T cl Wx (.chain op op2 a b c)) :=
  PTimp (pt_chain (op_cmp hK hu op) (op_cmp hK hu op2) ha hb hc hm) fun σ H Q ⟨w, σd, e, k, g, p⟩ => by
    rw [evT_chain] at p
    refine ⟨w, σd, e, k, g, (Post.bind p).imp ?_⟩
    rintro v1 H1 ⟨w1, d1, rfl, k1, s1, r1, p1⟩
    refine ⟨w1, σd, rfl, k1, g.mono s1.toExt, (Post.bind p1).imp ?_⟩
    rintro v2 H2 ⟨w2, d2, rfl, k2, s2, r2, p2⟩
    obtain ⟨z, e, p3⟩ := p2.orBad
    refine ⟨w2, d1, d2, z, rfl, k2, r1.mono t s2.toExt, r2, e, fun w' v' k' s' e' r' => ⟨z, r', ?_⟩⟩
    cases z with
    | false =>
      rw [if_neg Bool.false_ne_true]
      exact ⟨false, rfl, p3 w' _ k' s' e' rfl⟩
    | true =>
      rw [if_pos rfl]
      have p4 := Post.to s' (show Post t Wx σ w2 (fun _ (a b : Bool) => a = b) Q ((ev T cl c σd w2.h).bind fun z h3 => orBad (cmpV op2 h3 d2 z) fun u => .ok u h3) from p3)
      rw [← e'] at p4
      refine ⟨w', σd, rfl, k', g.mono ((s1.trans s2).trans s').toExt, (Post.bind p4).imp ?_⟩
      rintro v3 H3 ⟨w3, d3, rfl, k3, s3, r3, p5⟩
      obtain ⟨z, e, p6⟩ := p5.orBad
      exact ⟨w3, d2, d3, z, rfl, k3, r2.mono t (s'.trans s3).toExt, r3, e, fun w' v' k' s' e' r' => ⟨z, r', p6 w' z k' s' e' rfl⟩⟩
/-- a value's truth -/
theorem r_truth (hK : X.K = t.K) (ha : PE X x (tE t T cl Wx a)) (he : plainT x = true) : PT X x (tT t T cl Wx a) :=
  PTimp (pt_truth ha (plainT_ok he X.env)) fun σ H Q ⟨w, σd, e, k, g, p⟩ => by
    refine ⟨w, σd, e, k, g, (Post.bind p).imp ?_⟩
    rintro v1 H1 ⟨w1, d1, rfl, k1, s1, r1, p1⟩
    obtain ⟨b, e, p2⟩ := p1.orBad
    exact ⟨b, by rw [hK]; exact truth_of k1 r1 e, p2 w1 b k1 (Step.refl _) rfl rfl⟩
theorem rt_and {rest : List Expr} (ha : PT X x (tT t T cl Wx a)) (hb : PW X (.BoolOp .And (y :: rest) pos) (tT t T cl Wx b)) : PW X (.BoolOp .And (x :: y :: rest) pos) (tT t T cl Wx (.and_ a b)) :=
  PWimp (pw_and ha hb) fun σ H Q ⟨w, σd, e, k, g, p⟩ => by
    rw [evT_and] at p
    refine ⟨w, σd, e, k, g, (Post.bind p).imp ?_⟩
    rintro v1 H1 ⟨w1, d1, rfl, k1, s1, r1, p1⟩
    have e1 : d1 = v1 := r1
    subst e1
    cases d1 with
    | true =>
      rw [if_pos rfl]
      exact ⟨w1, σd, rfl, k1, g.mono s1.toExt, p1⟩
    | false =>
      rw [if_neg Bool.false_ne_true]
      exact p1 w1 _ k1 (Step.refl _) rfl rfl
theorem rt_or {rest : List Expr} (ha : PT X x (tT t T cl Wx a)) (hb : PW X (.BoolOp .Or (y :: rest) pos) (tT t T cl Wx b)) : PW X (.BoolOp .Or (x :: y :: rest) pos) (tT t T cl Wx (.or_ a b)) :=
  PWimp (pw_or ha hb) fun σ H Q ⟨w, σd, e, k, g, p⟩ => by
    rw [evT_or] at p
    refine ⟨w, σd, e, k, g, (Post.bind p).imp ?_⟩
    rintro v1 H1 ⟨w1, d1, rfl, k1, s1, r1, p1⟩
    have e1 : d1 = v1 := r1
    subst e1
    cases d1 with
    | true =>
      rw [if_pos rfl]
      exact p1 w1 _ k1 (Step.refl _) rfl rfl
    | false =>
      rw [if_neg Bool.false_ne_true]
      exact ⟨w1, σd, rfl, k1, g.mono s1.toExt, p1⟩
theorem rt_not (ha : PT X x (tT t T cl Wx a)) : PT X (.UnaryOp .Not x pos) (tT t T cl Wx (.not_ a)) :=
  PTimp (pt_not ha) fun σ H Q ⟨w, σd, e, k, g, p⟩ => by
    rw [evT_not] at p
    refine ⟨w, σd, e, k, g, (Post.bind p).imp ?_⟩
    rintro v1 H1 ⟨w1, d1, rfl, k1, s1, r1, p1⟩
    have e1 : d1 = v1 := r1
    subst e1
    exact p1 w1 _ k1 (Step.refl _) rfl rfl
theorem pt_ifExp {tc ta tb : TT} (hc : PT X x tc) (ha : PT X y ta) (hb : PT X z tb) : PT X (.IfExp x y z pos) (fun σ H Q => tc σ H fun k H1 => if k = true then ta σ H1 Q else tb σ H1 Q) := by
  refine ⟨fun pins s σ H Q I h => ?_⟩
  rw [arm_isTrue_IfExp]
  refine wpAny_bind (thn (hc.run pins s σ H _ I h) fun c s1 ⟨H1, I1, q1⟩ => ?_)
  cases c with
  | true => exact ha.run pins s1 σ H1 Q I1 q1
  | false => exact hb.run pins s1 σ H1 Q I1 q1
theorem rt_ife (hc : PT X x (tT t T cl Wx c)) (ha : PT X y (tT t T cl Wx a)) (hb : PT X z (tT t T cl Wx b)) : PT X (.IfExp x y z pos) (tT t T cl Wx (.ife c a b)) :=
  PTimp (pt_ifExp hc ha hb) fun σ H Q ⟨w, σd, e, k, g, p⟩ => by
    rw [evT_ife] at p
    refine ⟨w, σd, e, k, g, (Post.bind p).imp ?_⟩
    rintro v1 H1 ⟨w1, d1, rfl, k1, s1, r1, p1⟩
    have e1 : d1 = v1 := r1
    subst e1
    cases d1 with
    | true =>
      rw [if_pos rfl]
      exact ⟨w1, σd, rfl, k1, g.mono s1.toExt, p1⟩
    | false =>
      rw [if_neg Bool.false_ne_true]
      exact ⟨w1, σd, rfl, k1, g.mono s1.toExt, p1⟩
theorem r_ife (hc : PT X x (tT t T cl Wx c)) (ha : PE X y (tE t T cl Wx a)) (hb : PE X z (tE t T cl Wx b)) : PE X (.IfExp x y z pos) (tE t T cl Wx (.ife c a b)) :=
  PEimp (pe_ifExp hc ha hb) fun σ H Q ⟨w, σd, e, k, g, p⟩ => by
    have p' : Post t Wx σ w (R t) Q ((evT T cl c σd w.h).bind fun t h1 => if t then ev T cl a σd h1 else ev T cl b σd h1) := by
      unfold evT
      rw [Res.assoc]
      have e2 : (fun x h1 => (orBad (truth h1 x) fun t => Res.ok t h1).bind fun t h1 => if t then ev T cl a σd h1 else ev T cl b σd h1) = fun x h1 => orBad (truth h1 x) fun t => if t then ev T cl a σd h1 else ev T cl b σd h1 := by
        funext x h1
        rw [orBad_bind]
        rfl
      rw [e2]
      exact p
    refine ⟨w, σd, e, k, g, (Post.bind p').imp ?_⟩
    rintro v1 H1 ⟨w1, d1, rfl, k1, s1, r1, p1⟩
    have e1 : d1 = v1 := r1
    subst e1
    cases d1 with
    | true =>
      rw [if_pos rfl]
      exact ⟨w1, σd, rfl, k1, g.mono s1.toExt, p1⟩
    | false =>
      rw [if_neg Bool.false_ne_true]
      exact ⟨w1, σd, rfl, k1, g.mono s1.toExt, p1⟩
theorem r_and {rest : List Expr} (hK : X.K = t.K) (ha : PE X x (tE t T cl Wx a)) (hb : PE X (.BoolOp .And (y :: rest) pos) (tE t T cl Wx b)) : PE X (.BoolOp .And (x :: y :: rest) pos) (tE t T cl Wx (.and_ a b)) :=
  PEimp (pe_andT ha hb) fun σ H Q ⟨w, σd, e, k, g, p⟩ => by
    refine ⟨w, σd, e, k, g, (Post.bind p).imp ?_⟩
    rintro v1 H1 ⟨w1, d1, rfl, k1, s1, r1, p1⟩
    obtain ⟨u, e, p2⟩ := p1.orBad
    refine ⟨u, by rw [hK]; exact truth_of k1 r1 e, ?_⟩
    cases u with
    | true =>
      rw [if_pos rfl]
      exact ⟨w1, σd, rfl, k1, g.mono s1.toExt, p2⟩
    | false =>
      rw [if_neg Bool.false_ne_true]
      exact now p2 k1 r1
theorem r_or {rest : List Expr} (hK : X.K = t.K) (ha : PE X x (tE t T cl Wx a)) (hb : PE X (.BoolOp .Or (y :: rest) pos) (tE t T cl Wx b)) : PE X (.BoolOp .Or (x :: y :: rest) pos) (tE t T cl Wx (.or_ a b)) :=
  PEimp (pe_orT ha hb) fun σ H Q ⟨w, σd, e, k, g, p⟩ => by
    refine ⟨w, σd, e, k, g, (Post.bind p).imp ?_⟩
    rintro v1 H1 ⟨w1, d1, rfl, k1, s1, r1, p1⟩
    obtain ⟨u, e, p2⟩ := p1.orBad
    refine ⟨u, by rw [hK]; exact truth_of k1 r1 e, ?_⟩
    cases u with
    | true =>
      rw [if_pos rfl]
      exact now p2 k1 r1
    | false =>
      rw [if_neg Bool.false_ne_true]
      exact ⟨w1, σd, rfl, k1, g.mono s1.toExt, p2⟩
theorem r_not (hK : X.K = t.K) (ha : PE X x (tE t T cl Wx a)) : PE X (.UnaryOp .Not x pos) (tE t T cl Wx (.not_ a)) :=
  PEimp (pe_notT ha) fun σ H Q ⟨w, σd, e, k, g, p⟩ => by
    refine ⟨w, σd, e, k, g, (Post.bind p).imp ?_⟩
    rintro v1 H1 ⟨w1, d1, rfl, k1, s1, r1, p1⟩
    obtain ⟨u, e, p2⟩ := p1.orBad
    exact ⟨u, by rw [hK]; exact truth_of k1 r1 e, now p2 k1 rfl⟩
end
end VM

set_option Elab.async false
set_option linter.all false
set_option maxRecDepth 100000
set_option maxHeartbeats 4000000
/-! VmG: more rules of expressions: displays, places, fields, calls, methods of lists and dicts. -/
namespace VM
open PySem L2 PyProof.Rows
section
variable {t : Tx} {T : Tab} {cl : Call} {lv : Nat} {N : List Str} {X : Cx} {sc : Scope} {Wx : WX} {e : Expr} {a b c : E} {x y z : Expr} {pos : Pos} {as : A} {es : List Expr}
/-! ### arguments -/
theorem r_anil : PA X [] (tA t T cl Wx .nil) := PAimp pa_nil fun σ H Q ⟨w, σd, e, k, g, p⟩ => e ▸ p w [] k (Step.refl w) rfl rfl
theorem r_acons (ha : PE X x (tE t T cl Wx a)) (hr : PA X es (tA t T cl Wx as)) (hs : starEach (x :: es) X.env = (false, eval x X.env) :: starEach es X.env) : PA X (x :: es) (tA t T cl Wx (.cons a as)) :=
  PAimp (pa_cons ha hr hs) fun σ H Q ⟨w, σd, e, k, g, p⟩ => by
    refine ⟨w, σd, e, k, g, (Post.bind p).imp ?_⟩
    rintro v1 H1 ⟨w1, d1, rfl, k1, s1, r1, p1⟩
    refine ⟨w1, σd, rfl, k1, g.mono s1.toExt, (Post.bind p1).imp ?_⟩
    rintro v2 H2 ⟨w2, d2, rfl, k2, s2, r2, p2⟩
    exact p2 w2 (v1 :: v2) k2 (Step.refl _) rfl ⟨v1, v2, rfl, r1.mono t s2.toExt, r2⟩
theorem r_tup {k : Nat} (h : PA X es (tA t T cl Wx as)) : PE X (.Tuple es k pos) (tE t T cl Wx (.tup as)) :=
  PEimp (pe_tup h) fun σ H Q ⟨w, σd, e, k, g, p⟩ => by
    refine ⟨w, σd, e, k, g, (Post.bind p).imp ?_⟩
    rintro v1 H1 ⟨w1, ds, rfl, k1, s1, r1, p1⟩
    by_cases hl : ds.length ≤ lim
    · rw [if_pos hl] at p1
      refine ⟨by rw [← r1.length]; exact Nat.le_trans hl lim_le, fun q hq => ?_⟩
      exact Ret.tup p1 k1 (Nat.le_trans hl lim_le) r1 hq
    · rw [if_neg hl] at p1
      exact p1.elim
/-! ### new lists -/
theorem PostF.of {σ : L2.St} {w : Wd} {Q : VK} {α β : Type} {RA : Wd → α → β → Prop} {r : Res α} {f : α → Hs → Res (List D)} (h : PostF t Wx σ w Q (r.bind f)) :
    Post t Wx σ w RA (fun v H1 => ∃ w1 d, w1.H = H1 ∧ w1.Ok t ∧ Step w w1 ∧ RA w1 d v ∧ PostF t Wx σ w1 Q (f d w1.h)) r := by
  cases r with
  | ok d h' =>
    intro w' v k st e rr
    refine ⟨w', d, rfl, k, st, rr, ?_⟩
    rw [e]
    cases q : f d h' with
    | ok ds h2 =>
      have h3 : PostF t Wx σ w Q (f d h') := h
      rw [q] at h3
      exact fun w2 p vs k2 s2 e2 n2 l2 r2 => h3 w2 p vs k2 (st.trans s2) e2 n2 l2 r2
    | ex x h2 =>
      have h3 : PostF t Wx σ w Q (f d h') := h
      rw [q] at h3
      exact fun w2 c d k2 s2 e2 r2 => h3 w2 c d k2 (st.trans s2) e2 r2
    | bad =>
      have h3 : PostF t Wx σ w Q (f d h') := h
      rw [q] at h3
      exact h3
  | ex x h' => exact h
  | bad => exact h
theorem PostF.orBad {σ : L2.St} {w : Wd} {Q : VK} {α : Type} {o : Option α} {f : α → Res (List D)} (h : PostF t Wx σ w Q (VM.orBad o f)) : ∃ a, o = some a ∧ PostF t Wx σ w Q (f a) := by
  cases o with
  | some a => exact ⟨a, rfl, h⟩
  | none => exact h.elim
theorem r_disp (h : PA X es (tA t T cl Wx as)) : PE X (.List es pos) (tF t T cl Wx (.disp as)) :=
  PEimp (pe_lst h) fun σ H Q ⟨w, σd, e, k, g, p⟩ => by
    refine ⟨w, σd, e, k, g, (PostF.of p).imp ?_⟩
    rintro v1 H1 ⟨w1, ds, rfl, k1, s1, r1, p1⟩
    by_cases hl : ds.length ≤ lim
    · rw [if_pos hl] at p1
      exact ⟨by rw [← r1.length]; exact Nat.le_trans hl lim_le, fun q hq => p1 w1 q v1 k1 (Step.refl _) rfl hq (Nat.le_trans hl lim_le) r1⟩
    · rw [if_neg hl] at p1
      exact p1.elim
theorem r_list {p : Pos} (hK : X.K = t.K) (hg : Gl X "list") (hm : X.mg "list" = none) (hs : starEach [x] X.env = (false, eval x X.env) :: starEach [] X.env) (ha : PE X x (tE t T cl Wx a)) : PE X (.Call (.Name "list" p) [x] [] pos) (tF t T cl Wx (.list a)) :=
  PEimp (pe_callTy call_list_of hg hm (by decide +kernel) (pa_cons ha pa_nil hs) (by decide) (by decide) hs) fun σ H Q ⟨w, σd, e, k, g, p⟩ => by
    refine ⟨w, σd, e, k, g, (PostF.of p).imp ?_⟩
    rintro v1 H1 ⟨w1, d, rfl, k1, s1, r1, p1⟩
    obtain ⟨ds, e1, p2⟩ := p1.orBad
    obtain ⟨q, vs, rfl, hq, hl, rl⟩ := seq_of k1 r1 e1
    exact ⟨q, vs, rfl, by rw [hK]; exact hq, fun l hl' => p2 w1 l vs k1 (Step.refl _) rfl hl' hl rl⟩
theorem c_frz {f : F} : ∀ (σ : L2.St) (H : Hp) (Q : VK), tE t T cl Wx (.frz f) σ H Q → tF t T cl Wx f σ H Q := fun σ H Q ⟨w, σd, e, k, g, p⟩ => by
    refine ⟨w, σd, e, k, g, ?_⟩
    have p1 : Post t Wx σ w (R t) Q ((evF T cl f σd w.h).bind fun ds h1 => .ok (.lst ds) h1) := p
    cases q : evF T cl f σd w.h with
    | ok ds h2 =>
      rw [q] at p1
      exact fun w' p vs k' s' e' n' l' r' => p1 (w'.put p (.lst vs)) (.ref p) (ok_frz k' n') (s'.trans (step_frz k' n')) e' ⟨p, vs, rfl, fz_new k' n', l', r'.mono t (step_frz k' n').toExt⟩
    | ex x h2 =>
      rw [q] at p1
      exact p1
    | bad =>
      rw [q] at p1
      exact p1
theorem c_heap {f : F} : ∀ (σ : L2.St) (H : Hp) (Q : VK), tE t T cl Wx (.heap f) σ H Q → tF t T cl Wx f σ H Q := fun σ H Q ⟨w, σd, e, k, g, p⟩ => by
    refine ⟨w, σd, e, k, g, ?_⟩
    have p1 : Post t Wx σ w (R t) Q ((evF T cl f σd w.h).bind fun ds h1 => .ok (.ref h1.length) (h1 ++ [.lst ds])) := p
    cases q : evF T cl f σd w.h with
    | ok ds h2 =>
      rw [q] at p1
      intro w' p vs k' s' e' n' l' r'
      have st := step_new (ob := .lst ds) (o := .lst vs) k' n'
      refine p1 (w'.new p (.lst ds) (.lst vs)) (.ref p) (ok_new k' n' ⟨vs, upd_same, l', r'.mono t st.toExt⟩) (s'.trans st) (by show w'.h ++ _ = _; rw [e']) ⟨p, rfl, ?_⟩
      show (w'.l ++ [p])[h2.length]? = some p
      rw [← e', k'.len, List.getElem?_append_right (Nat.le_refl _), Nat.sub_self]
      rfl
    | ex x h2 =>
      rw [q] at p1
      exact p1
    | bad =>
      rw [q] at p1
      exact p1
theorem r_frz {f : F} (h : PE X e (tF t T cl Wx f)) : PE X e (tE t T cl Wx (.frz f)) := PEimp h c_frz
theorem r_heap {f : F} (h : PE X e (tF t T cl Wx f)) : PE X e (tE t T cl Wx (.heap f)) := PEimp h c_heap
theorem Post.kill {σ : L2.St} {w : Wd} {Q : VK} {d : D} {v : V} (k : w.Ok t) (r : R t w d v) (p : Post t Wx σ w (R t) Q (killD d w.h)) : Q v w.H := by
  cases d with
  | ref n =>
    obtain ⟨q, rfl, hn⟩ := (show ∃ a, v = .ref a ∧ w.l[n]? = some a from r)
    have p2 : Post t Wx σ w (R t) Q (match w.h[n]? with
      | some (.lst ds) => .ok (.lst ds) (w.h.set n .dead)
      | some (.ins c fs) => .ok (.ins c fs) (w.h.set n .dead)
      | _ => .bad) := p
    cases ho : w.h[n]? with
    | none =>
      rw [ho] at p2
      exact p2.elim
    | some ob =>
      rw [ho] at p2
      cases ob with
      | lst ds =>
        obtain ⟨vs, h1, h2, h3⟩ := (show ∃ vs, w.H q = some (.lst vs) ∧ ds.length ≤ sizeLine ∧ RL t w ds vs from k.obj n _ q ho hn)
        have st := step_kill k ho rfl hn
        exact p2 (w.kill n) (.ref q) (ok_kill k ho rfl hn) st rfl ⟨q, vs, rfl, fz_kill k ho hn h1, h2, h3.mono t st.toExt⟩
      | ins c fs =>
        obtain ⟨dx, vs, h1, _, h3⟩ := (show ∃ dx vs, w.H q = some (.ins (t.cls c) dx vs) ∧ fs.length ≤ 1000 ∧ RF t w fs vs from k.obj n _ q ho hn)
        have st := step_kill k ho rfl hn
        exact p2 (w.kill n) (.ref q) (ok_kill k ho rfl hn) st rfl ⟨q, dx, vs, rfl, fz_kill k ho hn h1, h3.mono t st.toExt⟩
      | dead => exact p2.elim
      | dK _ => exact p2.elim
      | dT _ => exact p2.elim
  | _ => exact p.elim
theorem r_frzr (h : PE X e (tE t T cl Wx a)) : PE X e (tE t T cl Wx (.frzr a)) :=
  PEimp h fun σ H Q ⟨w, σd, e, k, g, p⟩ => by
    refine ⟨w, σd, e, k, g, (Post.bind p).imp ?_⟩
    rintro v1 H1 ⟨w1, d, rfl, k1, s1, r1, p1⟩
    exact Post.kill k1 r1 p1
/-! ### numbers, places, fields -/
theorem r_neg (ha : PE X x (tE t T cl Wx a)) : PE X (.UnaryOp .USub x pos) (tE t T cl Wx (.neg a)) :=
  PEimp (pe_un un_neg ha) fun σ H Q ⟨w, σd, e, k, g, p⟩ => by
    refine ⟨w, σd, e, k, g, (Post.bind p).imp ?_⟩
    rintro v1 H1 ⟨w1, d, rfl, k1, s1, r1, p1⟩
    cases d with
    | int i => exact ⟨i, r1, now p1 k1 rfl⟩
    | _ => exact p1.elim
theorem ix_dict (hu : X.A.units + 1 < cLine) : IxR X (fun o i H Q => ∃ a v, o = .ref a ∧ DGet H a i (some v) ∧ Q v H) := by
  intro value slice pins s σ H x y v u Q I rx ry h hs
  obtain ⟨a, z, rfl, g, q⟩ := h
  obtain rfl : v = Value.ref a := rx
  have hT := dict_typeIs I g
  unfold subscriptTail
  refine wpAny_bind ?_
  rw [getitemInPython_of_ne hT.not_modules]
  refine wpAny_bind (wpAny_specialOf hT PySem.F.slot_dict_getitem.lookup ?_)
  have fin : wpAny (model X.prog X.w) X.A (subscripted slice false (.ref a) u) (fun r s₃ => wpAny (model X.prog X.w) X.A (letTemporaryGo value (.ref a) r >>= fun _ => pure r) (EP X pins σ Q) X.xe s₃) X.xe s := by
    rw [hs]
    exact wpAny_operating (wpAny_mono (d_getItem hu I g ry fun w' s3 I3 rw' => (show EP X pins σ Q w' s3 from ⟨z, H, I3, rw', q⟩)) (fun r s₃ h₃ => wpAny_bind (wpAny_letTemporaryGo (wpAny_pure h₃))) fun _ _ x => x)
  first
    | exact wpAny_pure (wpAny_bind fin)
    | exact wpAny_bind fin
theorem atY_of {w : Wd} {ds : List D} {vs : List V} {d z : D} {v : V} (rl : RL t w ds vs) (r : R t w d v) (e : atY ds d = some z) : ∃ i u, v = .int i ∧ L2.atI vs i = some u ∧ R t w z u := by
  cases d with
  | int i =>
    obtain ⟨j, h1, h2⟩ := Option.bind_eq_some_iff.mp (show (L2.ixN ds.length i).bind (fun j => ds[j]?) = some z from e)
    obtain ⟨u, e1, e2⟩ := rl.get h2
    exact ⟨i, u, r, by show (L2.ixN vs.length i).bind (fun j => vs[j]?) = some u; rw [← rl.length, h1]; exact e1, e2⟩
  | _ => cases e
theorem op_ix (hK : X.K = t.K) (hu : X.A.units + 1 < cLine) : IxR X (rB t ixD) := by
  intro value slice pins s σ H x y v u Q I rx ry h hs
  obtain ⟨w, a, b, z, rfl, k, ra, rb, e, q⟩ := h
  have seq : ∀ ds, items w.h a = some ds → atY ds b = some z → wpAny (model X.prog X.w) X.A (subscriptTail value slice v u) (EP X pins σ Q) X.xe s := fun ds e1 e2 => by
    obtain ⟨p, vs, rfl, hq, _, rl⟩ := seq_of k ra e1
    obtain ⟨i, r, rfl, e3, rr⟩ := atY_of rl rb e2
    rcases hq with hq | hq
    · exact ix_list value slice pins s σ w.H _ _ v u Q I rx ry ⟨p, vs, i, r, rfl, rfl, by rw [hK]; exact hq, e3, q.now k rr⟩ hs
    · exact ix_tup value slice pins s σ w.H _ _ v u Q I rx ry ⟨p, vs, i, r, rfl, rfl, by rw [hK]; exact hq, e3, q.now k rr⟩ hs
  cases a with
  | ref n =>
    obtain ⟨p, rfl, hn⟩ := (show ∃ a, x = .ref a ∧ w.l[n]? = some a from ra)
    have dd : (dlook w.h n b).join = some z → wpAny (model X.prog X.w) X.A (subscriptTail value slice v u) (EP X pins σ Q) X.xe s := fun e2 => by
      cases hd : dlook w.h n b with
      | none =>
        rw [hd] at e2
        cases e2
      | some o =>
        rw [hd] at e2
        have e3 : o = some z := e2
        obtain ⟨o2, g, h2⟩ := dget_of k hn rb hd
        rcases h2 with ⟨h3, _⟩ | ⟨d1, v1, h3, h4, h5⟩
        · rw [h3] at e3
          cases e3
        · rw [h3] at e3
          rw [Option.some.inj e3] at h5
          rw [h4] at g
          exact ix_dict hu value slice pins s σ w.H _ _ v u Q I rx ry ⟨p, v1, rfl, g, q.now k h5⟩ hs
    have e2 : (match w.h[n]? with | some (.lst ds) => atY ds b | _ => (dlook w.h n b).join) = some z := e
    cases ho : w.h[n]? with
    | none =>
      rw [ho] at e2
      exact dd e2
    | some ob =>
      rw [ho] at e2
      cases ob with
      | lst ds => exact seq ds (by show (match w.h[n]? with | some (.lst ds) => some ds | _ => none) = some ds; rw [ho]) e2
      | dead => exact dd e2
      | ins _ _ => exact dd e2
      | dK _ => exact dd e2
      | dT _ => exact dd e2
  | str s' =>
    cases b with
    | int i =>
      have e2 : (if s'.length ≤ lim then (L2.atI s'.cps.toList i).map fun c => D.str ⟨#[c]⟩ else none) = some z := e
      by_cases hl : s'.length ≤ lim
      · rw [if_pos hl] at e2
        cases hc : L2.atI s'.cps.toList i with
        | none =>
          rw [hc] at e2
          cases e2
        | some c =>
          rw [hc] at e2
          rw [← Option.some.inj (show some (D.str ⟨#[c]⟩) = some z from e2)] at q
          exact ix_str value slice pins s σ w.H _ _ v u Q I rx ry ⟨s', i, c, ra, rb, Nat.le_trans hl lim_le, hc, q.now k rfl⟩ hs
      · rw [if_neg hl] at e2
        cases e2
    | _ => cases e
  | tup ds => exact seq ds rfl e
  | lst ds => exact seq ds rfl e
  | rl ds => exact seq ds rfl e
  | non => cases e
  | bl _ => cases e
  | int _ => cases e
  | ins _ _ => cases e
theorem r_ix (hK : X.K = t.K) (hu : X.A.units + 1 < cLine) (ha : PE X x (tE t T cl Wx a)) (hb : PE X y (tE t T cl Wx b)) (hs : PlainIx y) : PE X (.Subscript x y pos) (tE t T cl Wx (.ix a b)) :=
  PEimp (pe_ix (op_ix hK hu) ha hb hs) fun σ H Q ⟨w, σd, e, k, g, p⟩ => by
    refine ⟨w, σd, e, k, g, (Post.bind p).imp ?_⟩
    rintro v1 H1 ⟨w1, d1, rfl, k1, s1, r1, p1⟩
    refine ⟨w1, σd, rfl, k1, g.mono s1.toExt, (Post.bind p1).imp ?_⟩
    rintro v2 H2 ⟨w2, d2, rfl, k2, s2, r2, p2⟩
    obtain ⟨z, e, p3⟩ := p2.orBad
    exact ⟨w2, d1, d2, z, rfl, k2, r1.mono t s2.toExt, r2, e, p3⟩
/-- an instance as it lies -/
theorem ins_of {w : Wd} (k : w.Ok t) {d : D} {v : V} {c : Nat} {fs : List (Nat × D)} (r : R t w d v) (e : clsD w.h d = some (c, fs)) : ∃ q dx vs, v = .ref q ∧ w.H q = some (.ins (t.cls c) dx vs) ∧ RF t w fs vs := by
  cases d with
  | ins c' fs' =>
    cases (show some (c', fs') = some (c, fs) from e)
    obtain ⟨q, dx, vs, e1, z, rf⟩ := (show ∃ a dx vs, v = .ref a ∧ Fz w a (.ins (t.cls c) dx vs) ∧ RF t w fs vs from r)
    exact ⟨q, dx, vs, e1, z.1, rf⟩
  | ref n =>
    obtain ⟨q, rfl, hn⟩ := (show ∃ a, v = .ref a ∧ w.l[n]? = some a from r)
    have e2 : (match w.h[n]? with | some (.ins c fs) => some (c, fs) | _ => none) = some (c, fs) := e
    cases ho : w.h[n]? with
    | none =>
      rw [ho] at e2
      cases e2
    | some ob =>
      rw [ho] at e2
      cases ob with
      | ins c' fs' =>
        cases (show some (c', fs') = some (c, fs) from e2)
        obtain ⟨dx, vs, h1, _, h3⟩ := (show ∃ dx vs, w.H q = some (.ins (t.cls c) dx vs) ∧ fs.length ≤ 1000 ∧ RF t w fs vs from k.obj n _ q ho hn)
        exact ⟨q, dx, vs, rfl, h1, h3⟩
      | _ => cases e2
  | _ => cases e
theorem hasF_cls {c f : Nat} (h : hasF T c f = true) : ∃ ct, T.cls[c]? = some ct := by
  unfold hasF at h
  cases e : T.cls[c]? with
  | none =>
    rw [e] at h
    cases h
  | some ct => exact ⟨ct, rfl⟩
theorem r_fld {f : Nat} {nm : Str} (B : Txt t T cl lv X) (hf : t.nm f = nm) (ha : PE X x (tE t T cl Wx a)) (hb : attributeBase x nm X.env (eval x X.env) = eval x X.env) : PE X (.Attribute x nm pos) (tE t T cl Wx (.fld a f)) :=
  PEimp (pe_fld ha hb) fun σ H Q ⟨w, σd, e, k, g, p⟩ => by
    refine ⟨w, σd, e, k, g, (Post.bind p).imp ?_⟩
    rintro v1 H1 ⟨w1, d1, rfl, k1, s1, r1, p1⟩
    obtain ⟨z, e, p2⟩ := p1.orBad
    obtain ⟨⟨c, fs⟩, e1, e2⟩ := Option.bind_eq_some_iff.mp (show (clsD w1.h d1).bind _ = some z from e)
    obtain ⟨q, dx, vs, rfl, h1, rf⟩ := ins_of k1 r1 e1
    by_cases hc : hasF T c f = true
    · rw [if_pos hc] at e2
      obtain ⟨na, hn⟩ := B.noat c f hc
      obtain ⟨ct, hct⟩ := hasF_cls hc
      rcases rf.look hn with ⟨h3, _⟩ | ⟨d, v, h3, h4, h5⟩
      · rw [h3] at e2
        cases e2
      · rw [h3] at e2
        rw [Option.some.inj e2] at h5
        refine ⟨q, t.cls c, dx, vs, v, rfl, h1, B.cls c ct hct, hf ▸ na, hf ▸ h4, now p2 k1 h5⟩
    · rw [if_neg hc] at e2
      cases e2
/-! ### calls -/
theorem spF_of {f : Nat} {σ : L2.St} {w : Wd} {Q : VK} {ds : List D} {vs : List V} (k : w.Ok t) (r : RL t w ds vs) (p : Post t Wx σ w (R t) Q (cl f ds w.h)) : spF t cl f vs w.H Q (WE Wx σ) := by
  refine ⟨w, ds, rfl, k, r, ?_⟩
  cases q : cl f ds w.h with
  | ok d h =>
    rw [q] at p
    exact p
  | ex u h =>
    rw [q] at p
    exact p
  | bad =>
    rw [q] at p
    exact p
theorem r_call {f : Nat} {n : Str} {p : Pos} (B : Txt t T cl lv X) (tk : Takes X Wx) {ft : FnT} (hf : T.fns[f]? = some ft) (hn : ft.at_ = (n, none)) (hg : Gl X n) (hd : dbg n = false) (h : PA X (y :: es) (tA t T cl Wx as))
    (hs : starEach (y :: es) X.env = (false, eval y X.env) :: starEach es X.env) (hp : (backTo pos (starEach es X.env)).any (·.1) = false) : PE X (.Call (.Name n p) (y :: es) [] pos) (tE t T cl Wx (.call f as)) := by
  obtain ⟨q, fd, ps, F, hb, kp, hm, _⟩ := B.fn f ft n hf hn
  have hr : Room lv X.A := B.room.mono (by omega)
  exact PEimp (pe_callS F hr hg hm kp hb (fun σ => passAt tk σ) h (dbg1 hd) hs hp) fun σ H Q ⟨w, σd, e, k, g, p⟩ => by
    refine ⟨w, σd, e, k, g, (Post.bind p).imp ?_⟩
    rintro v1 H1 ⟨w1, ds, rfl, k1, s1, r1, p1⟩
    exact spF_of k1 r1 p1
theorem r_call0 {f : Nat} {n : Str} {p : Pos} (B : Txt t T cl lv X) (tk : Takes X Wx) {ft : FnT} (hf : T.fns[f]? = some ft) (hn : ft.at_ = (n, none)) (hg : Gl X n) (hd : dbg n = false) : PE X (.Call (.Name n p) [] [] pos) (tE t T cl Wx (.call f .nil)) := by
  obtain ⟨q, fd, ps, F, hb, kp, hm, _⟩ := B.fn f ft n hf hn
  have hr : Room lv X.A := B.room.mono (by omega)
  refine ⟨fun pins s σ H Q I ⟨w, σd, e, k, g, pp⟩ => ?_⟩
  subst e
  refine wpAny_Call_Name_kw (ld_glob I hg hm ?_ (dbg1 hd))
  exact PySem.W.callWith_K0 I.kIn kp (run_fnS (us := []) F hr hb (passAt tk σ) I .nil (spF_of (ds := []) (vs := []) k (show RL t w [] [] from rfl) pp))
/-- the tree of a method's call -/
theorem meth_tree {o : Expr} {m : Str} {apos : Pos} {args : List Expr} {env : Env} (hb : noSup o = true) (hl : (apos.endLine == pos.line) = true)
    (hf : methodCallForm (args.length + ([] : List Keyword).length) (backTo pos (starEach args env)) (backToKw pos (keywordEach [] env)) = true) :
    eval (.Call (.Attribute o m apos) args [] pos) env = (do
      let ov ← eval o env
      standAt apos.atName
      let (f, first) ← holding [ov] (getMethod ov m (do return (← importBound o env).getD true))
      callWith pos f first (backTo pos (starEach args env)) (backToKw pos (keywordEach [] env))) := by
  have e1 : eval (.Call (.Attribute o m apos) args [] pos) env = (do
      let ov ← attributeBase o m env (eval o env)
      standAt apos.atName
      methodCall o m apos pos env ov (args.length + ([] : List Keyword).length) (backTo pos (starEach args env)) (backToKw pos (keywordEach [] env))) := rfl
  rw [e1, base_ok hb]
  unfold methodCall calleeOf methodCallPos
  rw [hf, hl]
  rfl
theorem formA {as : A} (env : Env) (h : chkA T N sc as es = true) (hn : es.length < 29) : methodCallForm (es.length + ([] : List Keyword).length) (backTo pos (starEach es env)) (backToKw pos (keywordEach [] env)) = true := fewA env pos h hn
theorem r_meth {m : Nat} {nm : Str} {apos : Pos} {o : E} (B : Txt t T cl lv X) (tk : Takes X Wx) (hm : t.nm m = nm) (hmn : m < t.n) (ho : PE X x (tE t T cl Wx o)) (h : PA X es (tA t T cl Wx as)) (hcs : ∀ y ys, es = y :: ys → starEach es X.env = (false, eval y X.env) :: starEach ys X.env ∧ (backTo pos (starEach ys X.env)).any (·.1) = false)
    (hz : es = [] → as = .nil) (ht : eval (.Call (.Attribute x nm apos) es [] pos) X.env = (do
      let ov ← eval x X.env
      standAt apos.atName
      let (f, first) ← holding [ov] (getMethod ov nm (do return (← importBound x X.env).getD true))
      callWith pos f first (backTo pos (starEach es X.env)) (backToKw pos (keywordEach [] X.env)))) : PE X (.Call (.Attribute x nm apos) es [] pos) (tE t T cl Wx (.meth o m as)) := by
  refine ⟨fun pins s σ H Q I ⟨w, σd, e, k, g, pp⟩ => ?_⟩
  subst e
  have hr : Room lv X.A := B.room.mono (by omega)
  refine PySem.W.methodCall_KW (thn (ho.run pins s σ _ _ I ⟨w, σd, rfl, k, g, Post.bind (RA := R t) pp⟩) fun u s1 ⟨v1, H1, I1, rx, w1, d1, e1, k1, st1, r1, p1⟩ => ?_) ht
  subst e1
  obtain ⟨⟨c, fs⟩, ec, p2⟩ := p1.orBad
  obtain ⟨q, dx, vs, rfl, h1, rf⟩ := ins_of k1 r1 ec
  obtain rfl : u = Value.ref q := rx
  have p3 : Post t Wx σ w1 (R t) Q (if (fs.lookup m).isSome then .bad else orBad ((T.cls[c]?).bind fun ct => ct.meths.lookup m) fun f => (evA T cl as σd w1.h).bind fun ds h2 => cl f (d1 :: ds) h2) := p2
  by_cases hn : (fs.lookup m).isSome = true
  · rw [if_pos hn] at p3
    exact p3.elim
  · rw [if_neg hn] at p3
    obtain ⟨f, ef, p4⟩ := p3.orBad
    obtain ⟨ct, ect, em⟩ := Option.bind_eq_some_iff.mp ef
    obtain ⟨fa, fd, ps, F, hb, M, _⟩ := B.me c ct m f ect em
    have hl : vs.lookup nm = none := by
      rcases rf.look hmn with ⟨_, z⟩ | ⟨d, v, z, _, _⟩
      · exact hm ▸ z
      · rw [z] at hn
        exact absurd rfl hn
    refine getmeth_ok I1 h1 (B.cls c ct ect) (hm ▸ M) hl ?_
    have fin : ∀ (us : List Value) (s2 : Shared) (vs2 : List V) (H2 : Hp), L2.Inv X pins σ H2 s2 → Vals vs2 us → (∃ w2 ds, w2.H = H2 ∧ w2.Ok t ∧ Step w1 w2 ∧ RL t w2 ds vs2 ∧ Post t Wx σ w2 (R t) Q (cl f (d1 :: ds) w2.h)) → wpAny (model X.prog X.w) X.A (call (.ref fa) (.ref q :: us)) (EP X pins σ Q) X.xe s2 := by
      rintro us s2 vs2 H2 I2 rv ⟨w2, ds, rfl, k2, st2, r2, p5⟩
      exact run_fnS (us := .ref q :: us) (vs := .ref q :: vs2) F hr hb (passAt tk σ) I2 (.cons rfl rv) (spF_of k2 (RL.cons (r1.mono t st2.toExt) r2) p5)
    cases es with
    | cons y ys =>
      obtain ⟨c1, c2⟩ := hcs y ys rfl
      exact PySem.W.callWith_K (first := [.ref q]) (h₀ := X.base) I.ok.mod.kin M.kp (thn (h.run pos pins s1 σ w1.H _ I1 ⟨w1, σd, rfl, k1, g.mono st1.toExt, Post.bind (RA := RL t) p4⟩) fun us s2 ⟨vs2, H2, I2, rv, q2⟩ => ⟨I2.kIn, fin us s2 vs2 H2 I2 rv q2⟩) c1 c2
    | nil =>
      rw [hz rfl] at p4
      exact PySem.W.callWith_K0 (first := [.ref q]) I1.kIn M.kp (fin [] s1 [] w1.H I1 .nil ⟨w1, [], rfl, k1, Step.refl _, rfl, p4⟩)
/-! ### methods of lists and dicts -/
theorem tyV_lst {K : PySem.W.Frag} {H : Hp} {q : Addr} {vs : List V} (h : H q = some (.lst vs)) : tyV K "list" (.ref q) H := .inl ⟨rfl, _, SqL.of h⟩
end
end VM

set_option Elab.async false
set_option linter.all false
set_option maxRecDepth 100000
set_option maxHeartbeats 4000000
/-! VmH: new instances, built-ins, methods of lists and dicts; all codes of expressions. -/
namespace VM
open PySem L2 PyProof.Rows
section
variable {t : Tx} {T : Tab} {cl : Call} {lv : Nat} {N : List Str} {X : Cx} {sc : Scope} {Wx : WX} {e : Expr} {a b c : E} {x y z : Expr} {pos : Pos} {as : A} {es : List Expr}
theorem run_makeS {k : Nat} {f C : Addr} {fd : FuncData} {ps : List Str} {sp : Sp} {CX : CXT} {E : L2.St → XK} {pins : List (Addr × Obj)} {σ : L2.St} {H : Hp} {s : Shared} {Q : VK} {us : List Value} {vs : List V} (M : Mk X.K C f) (F : FnOk X.prog X.w X.K X.mg X.base CX k f fd ps sp) (hr : Room (k + 1) X.A) (hb : Binds X.K fd ps [])
    (hx : PassesAt CX X σ (E σ)) (I : L2.Inv X pins σ H s) (r : Vals vs us)
    (h : ∀ x dx, H x = none → H dx = none → dx ≠ x → sp (.ref x :: vs) (upd (upd H dx (.own x)) x (.ins C dx [])) (fun v H2 => v = .non ∧ Q (.ref x) H2) (E σ)) :
    wpAny (model X.prog X.w) X.A (call (.ref C) us) (EP X pins σ Q) X.xe s := by
  have hq := h (s.heap.objs.size + 1) s.heap.objs.size (I.hok.fresh (Nat.le_succ _)) (I.hok.fresh (Nat.le_refl _)) (Nat.ne_of_lt (Nat.lt_succ_self _))
  have I2 := Inv.made (C := C) I
  have r2 : Vals (V.ref (s.heap.objs.size + 1) :: vs) (Value.ref (s.heap.objs.size + 1) :: us) := .cons rfl r
  have hl : (Value.ref (s.heap.objs.size + 1) :: us).length = ps.length := by
    have e := r2.length
    rw [F.len _ _ _ _ hq] at e
    exact e.symm
  have b := hb _ (Value.ref (s.heap.objs.size + 1) :: us) I2.kIn (by rw [List.append_nil]; exact hl)
  rw [List.append_nil] at b
  refine wpAny_call (make_map (f := f) I.kIn M.makes M.init (beq_iff_eq.mp M.fn) (codeAny_mono (F.run _ X.stack _ _ ⟨Value.ref (s.heap.objs.size + 1) :: us, []⟩ (Value.ref (s.heap.objs.size + 1) :: us) _ _ (E σ) (hr.make C us [])
    (I2.env0.make C us []) b r2 hq) fun r s' hq' => ?_))
  cases r with
  | error e => exact hx pins _ _ e s' I2 hq'
  | ok fl =>
    cases fl with
    | ret u =>
      obtain ⟨v, H', I3, rv, ev, q3⟩ := I2.after hq'
      subst ev
      exact ⟨rv, ⟨V.ref (s.heap.objs.size + 1), H', I3, rfl, q3⟩⟩
    | next => exact False.elim hq'
    | brk => exact False.elim hq'
    | cont => exact False.elim hq'
/-- the promise of __init__ at the new instance -/
theorem spMk {c : Nat} {ct : ClsT} {σ : L2.St} {w : Wd} {Q : VK} {ds : List D} {vs : List V} (k : w.Ok t) (r : RL t w ds vs) (p : Post t Wx σ w (R t) Q ((cl ct.init (.ref w.h.length :: ds) (w.h ++ [.ins c []])).bind fun v h2 => asRef w.h.length v h2)) {q dx : Addr} (hq : w.H q = none) (hdx : w.H dx = none) (hne : dx ≠ q) :
    spF t cl ct.init (.ref q :: vs) (upd (upd w.H dx (.own q)) q (.ins (t.cls c) dx [])) (fun v H2 => v = .non ∧ Q (.ref q) H2) (WE Wx σ) := by
  have k1 := ok_frz (o := .own q) k hdx
  have s1 := step_frz (o := .own q) k hdx
  have hq1 : (w.put dx (.own q)).H q = none := (upd_ne (Ne.symm hne)).trans hq
  have s2 := step_new (ob := .ins c []) (o := .ins (t.cls c) dx []) k1 hq1
  have k2 : Wd.Ok t ((w.put dx (.own q)).new q (.ins c []) (.ins (t.cls c) dx [])) := ok_new k1 hq1 ⟨dx, [], upd_same, Nat.zero_le _, rfl⟩
  have st := s1.trans s2
  have rr : R t ((w.put dx (.own q)).new q (.ins c []) (.ins (t.cls c) dx [])) (.ref w.h.length) (.ref q) := ⟨q, rfl, by
    show (w.l ++ [q])[w.h.length]? = some q
    rw [k.len, List.getElem?_append_right (Nat.le_refl _), Nat.sub_self]
    rfl⟩
  refine ⟨_, .ref w.h.length :: ds, rfl, k2, RL.cons rr (r.mono t st.toExt), ?_⟩
  show Post t _ [] _ (R t) _ (cl ct.init (.ref w.h.length :: ds) (w.h ++ [.ins c []]))
  cases e : cl ct.init (.ref w.h.length :: ds) (w.h ++ [.ins c []]) with
  | ok d h =>
    rw [e] at p
    intro w' v k' s' e' r'
    have p1 : Post t Wx σ w (R t) Q (asRef w.h.length d h) := p
    cases d with
    | non => exact ⟨r', p1 w' (.ref q) k' (st.trans s') e' (rr.mono t s'.toExt)⟩
    | _ => exact p1.elim
  | ex u h =>
    rw [e] at p
    exact fun w' c d k' s' e' r' => p w' c d k' (st.trans s') e' r'
  | bad =>
    rw [e] at p
    exact p
theorem r_mk {cc : Nat} {ct : ClsT} {n : Str} {p : Pos} (B : Txt t T cl lv X) (tk : Takes X Wx) (hc : T.cls[cc]? = some ct) (hn : ct.name = n) {ift : FnT} (hi : T.fns[ct.init]? = some ift) (hg : Gl X n) (hd : dbg n = false) (h : PA X es (tA t T cl Wx as)) (hcs : ∀ y ys, es = y :: ys → starEach es X.env = (false, eval y X.env) :: starEach ys X.env ∧ (backTo pos (starEach ys X.env)).any (·.1) = false)
    (hz : es = [] → as = .nil) : PE X (.Call (.Name n p) es [] pos) (tE t T cl Wx (.mk cc as)) := by
  obtain ⟨fa, fd, ps, F, hb, M, hm, _⟩ := B.mkr cc ct ift hc hi
  rw [hn] at hm
  have hr : Room (lv + 1) X.A := B.room.mono (by omega)
  refine ⟨fun pins s σ H Q I ⟨w, σd, e, k, g, pp⟩ => ?_⟩
  subst e
  refine wpAny_Call_Name_kw (ld_glob I hg hm ?_ (dbg1 hd))
  have fin : ∀ (us : List Value) (s2 : Shared) (vs2 : List V) (H2 : Hp), L2.Inv X pins σ H2 s2 → Vals vs2 us → (∃ w2 ds, w2.H = H2 ∧ w2.Ok t ∧ Step w w2 ∧ RL t w2 ds vs2 ∧ Post t Wx σ w2 (R t) Q (orBad (T.cls[cc]?) fun ct => (cl ct.init (.ref w2.h.length :: ds) (w2.h ++ [.ins cc []])).bind fun v h2 => asRef w2.h.length v h2)) → wpAny (model X.prog X.w) X.A (call (.ref (t.cls cc)) us) (EP X pins σ Q) X.xe s2 := by
    rintro us s2 vs2 H2 I2 rv ⟨w2, ds, rfl, k2, st2, r2, p5⟩
    obtain ⟨ct', e1, p6⟩ := p5.orBad
    rw [hc] at e1
    cases e1
    exact run_makeS M F hr hb (passAt tk σ) I2 rv fun q dx n1 n2 n3 => spMk k2 r2 p6 n1 n2 n3
  cases es with
  | cons y ys =>
    obtain ⟨c1, c2⟩ := hcs y ys rfl
    exact PySem.W.callWith_K (h₀ := X.base) I.ok.mod.kin M.kp (thn (h.run pos pins s σ w.H _ I ⟨w, σd, rfl, k, g, Post.bind (RA := RL t) pp⟩) fun us s2 ⟨vs2, H2, I2, rv, q2⟩ => ⟨I2.kIn, fin us s2 vs2 H2 I2 rv q2⟩) c1 c2
  | nil =>
    rw [hz rfl] at pp
    exact PySem.W.callWith_K0 I.kIn M.kp (fin [] s [] w.H I .nil ⟨w, [], rfl, k, Step.refl _, rfl, pp⟩)
/-! ### built-ins -/
def rLenV (t : Tx) : List V → Hp → VK → Prop := fun xs H Q => ∃ w d v i, xs = [v] ∧ w.H = H ∧ w.Ok t ∧ R t w d v ∧ ((∃ s, d = .str s ∧ s.length ≤ lim ∧ i = (s.length : Int)) ∨ ∃ ds, items w.h d = some ds ∧ i = (ds.length : Int)) ∧ Ret t w (.int i) Q
theorem call_lenV (hK : X.K = t.K) : CallR X (.builtin "len") (rLenV t) := by
  intro pins s σ H xs us Q I rr h
  obtain ⟨w, d, v, i, rfl, rfl, k, r, h2, q⟩ := h
  rcases h2 with ⟨s', rfl, hl, rfl⟩ | ⟨ds, e, rfl⟩
  · cases (show v = .str s' from r)
    exact call_len_str pins s σ w.H _ us Q I rr ⟨s', rfl, Nat.le_trans hl lim_le, q.now k rfl⟩
  · obtain ⟨p, vs, rfl, hq, _, rl⟩ := seq_of k r e
    rw [rl.length] at q
    exact call_len_seq pins s σ w.H _ us Q I rr ⟨p, vs, rfl, by rw [hK]; exact hq, q.now k rfl⟩
theorem r_len {p : Pos} (hK : X.K = t.K) (hg : Gl X "len") (hm : X.mg "len" = none) (hs : starEach [x] X.env = (false, eval x X.env) :: starEach [] X.env) (ha : PE X x (tE t T cl Wx a)) : PE X (.Call (.Name "len" p) [x] [] pos) (tE t T cl Wx (.len a)) :=
  PEimp (pe_callB (call_lenV hK) hg hm PySem.boot_len (pa_cons ha pa_nil hs) (by decide) (by decide) hs) fun σ H Q ⟨w, σd, e, k, g, p⟩ => by
    refine ⟨w, σd, e, k, g, (Post.bind p).imp ?_⟩
    rintro v1 H1 ⟨w1, d, rfl, k1, s1, r1, p1⟩
    have seq : ∀ {f : List D → Res D}, f = (fun ds => .ok (.int (ds.length : Int)) w1.h) → Post t Wx σ w1 (R t) Q (orBad (items w1.h d) f) → rLenV t [v1] w1.H Q := fun {f} hf p2 => by
      obtain ⟨ds, e1, p3⟩ := p2.orBad
      rw [hf] at p3
      exact ⟨w1, d, v1, _, rfl, rfl, k1, r1, .inr ⟨ds, e1, rfl⟩, p3⟩
    cases d with
    | str s' =>
      have p2 : Post t Wx σ w1 (R t) Q (if s'.length ≤ lim then .ok (.int (s'.length : Int)) w1.h else .bad) := p1
      by_cases hl : s'.length ≤ lim
      · rw [if_pos hl] at p2
        exact ⟨w1, _, v1, _, rfl, rfl, k1, r1, .inl ⟨s', rfl, hl, rfl⟩, p2⟩
      · rw [if_neg hl] at p2
        exact p2.elim
    | _ => exact seq rfl p1
theorem r_abs {p : Pos} (hg : Gl X "abs") (hm : X.mg "abs" = none) (hs : starEach [x] X.env = (false, eval x X.env) :: starEach [] X.env) (ha : PE X x (tE t T cl Wx a)) : PE X (.Call (.Name "abs" p) [x] [] pos) (tE t T cl Wx (.abs a)) :=
  PEimp (pe_callB call_abs hg hm (by decide +kernel) (pa_cons ha pa_nil hs) (by decide) (by decide) hs) fun σ H Q ⟨w, σd, e, k, g, p⟩ => by
    refine ⟨w, σd, e, k, g, (Post.bind p).imp ?_⟩
    rintro v1 H1 ⟨w1, d, rfl, k1, s1, r1, p1⟩
    cases d with
    | int i =>
      cases (show v1 = .int i from r1)
      exact ⟨i, rfl, now p1 k1 rfl⟩
    | _ => exact p1.elim
theorem sum_ints {w : Wd} : ∀ {ds : List D} {vs : List V} {i : Int}, RL t w ds vs → sumD ds = some i → ∃ ns : List Int, vs = ns.map V.int ∧ ns.sum = i
  | [], vs, i, h, e => ⟨[], h, Option.some.inj e⟩
  | d :: ds, vs, i, h, e => by
    obtain ⟨v, r, rfl, h1, h2⟩ := (show ∃ v r, vs = v :: r ∧ R t w d v ∧ RL t w ds r from h)
    cases d with
    | int j =>
      have e2 : (sumD ds).map (j + ·) = some i := e
      cases hs : sumD ds with
      | none =>
        rw [hs] at e2
        cases e2
      | some m =>
        rw [hs] at e2
        obtain ⟨ns, e3, e4⟩ := sum_ints h2 hs
        refine ⟨j :: ns, ?_, ?_⟩
        · rw [e3, show v = .int j from h1]
          rfl
        · rw [List.sum_cons, e4]
          exact Option.some.inj e2
    | _ => cases e
theorem r_sum {p : Pos} (hK : X.K = t.K) (hc : X.calm = true) (hg : Gl X "sum") (hm : X.mg "sum" = none) (hs : starEach [x] X.env = (false, eval x X.env) :: starEach [] X.env) (ha : PE X x (tE t T cl Wx a)) : PE X (.Call (.Name "sum" p) [x] [] pos) (tE t T cl Wx (.sum a)) :=
  PEimp (pe_callB (cr_sum hc) hg hm (by decide +kernel) (pa_cons ha pa_nil hs) (by decide) (by decide) hs) fun σ H Q ⟨w, σd, e, k, g, p⟩ => by
    refine ⟨w, σd, e, k, g, (Post.bind p).imp ?_⟩
    rintro v1 H1 ⟨w1, d, rfl, k1, s1, r1, p1⟩
    have fin : ∀ {ds i a vs}, v1 = .ref a → SqL X.K w1.H a vs → RL t w1 ds vs → sumD ds = some i → Ret t w1 (.int i) Q → ∃ (a : Addr) (ns : List Int), [v1] = [V.ref a] ∧ SqL X.K w1.H a (ns.map V.int) ∧ Q (.int ns.sum) w1.H := fun {ds i a vs} e1 hq rl e2 q => by
      obtain ⟨ns, e3, e4⟩ := sum_ints rl e2
      rw [e3] at hq
      rw [← e4] at q
      exact ⟨a, ns, by rw [e1], hq, q.now k1 rfl⟩
    cases d with
    | lst ds =>
      obtain ⟨i, e2, p2⟩ := p1.orBad
      obtain ⟨a, vs, e1, z, _, rl⟩ := (show ∃ a vs, v1 = .ref a ∧ Fz w1 a (.lst vs) ∧ ds.length ≤ sizeLine ∧ RL t w1 ds vs from r1)
      exact fin e1 (SqL.of z.1) rl e2 p2
    | rl ds =>
      obtain ⟨i, e2, p2⟩ := p1.orBad
      obtain ⟨a, vs, e1, z, _, rl⟩ := (show ∃ a vs, v1 = .ref a ∧ QL t w1 a vs ∧ ds.length ≤ sizeLine ∧ RL t w1 ds vs from r1)
      exact fin e1 (by rw [hK]; exact z.sq) rl e2 p2
    | _ => exact p1.elim
/-! ### methods of lists, of dicts -/
theorem lst_at {w : Wd} (k : w.Ok t) {n : Nat} {q : Addr} {ds : List D} (hn : w.l[n]? = some q) (ho : w.h[n]? = some (.lst ds)) : ∃ vs, w.H q = some (.lst vs) ∧ ds.length ≤ sizeLine ∧ RL t w ds vs := k.obj n _ q ho hn
/-- the list at a place is turned -/
theorem Ret.set {σ : L2.St} {w : Wd} {Q : VK} {n : Nat} {q : Addr} {ds es : List D} {us : List V} {d : D} {v : V} (k : w.Ok t) (hn : w.l[n]? = some q) (ho : w.h[n]? = some (.lst ds)) (hl : es.length ≤ sizeLine) (rl : RL t w es us) (r : R t w d v)
    (p : Post t Wx σ w (R t) Q (.ok d (w.h.set n (.lst es)))) : Q v (upd w.H q (.lst us)) := by
  have st := step_set (ob := .lst es) (o := .lst us) k ho rfl hn
  exact p (w.set n q (.lst es) (.lst us)) v (ok_set k ho rfl hn ⟨us, upd_same, hl, rl.mono t st.toExt⟩) st rfl (r.mono t st.toExt)
theorem refL_of {w : Wd} {d : D} {v : V} {nd : Nat × List D} (k : w.Ok t) (r : R t w d v) (e : refL w.h d = some nd) : ∃ q vs, v = .ref q ∧ w.l[nd.1]? = some q ∧ w.h[nd.1]? = some (.lst nd.2) ∧ w.H q = some (.lst vs) ∧ nd.2.length ≤ sizeLine ∧ RL t w nd.2 vs := by
  cases d with
  | ref n =>
    obtain ⟨q, rfl, hn⟩ := (show ∃ a, v = .ref a ∧ w.l[n]? = some a from r)
    have e2 : (match w.h[n]? with | some (.lst ds) => some (n, ds) | _ => none) = some nd := e
    cases ho : w.h[n]? with
    | none =>
      rw [ho] at e2
      cases e2
    | some ob =>
      rw [ho] at e2
      cases ob with
      | lst ds =>
        cases (show some (n, ds) = some nd from e2)
        obtain ⟨vs, h1, h2, h3⟩ := lst_at k hn ho
        exact ⟨q, vs, rfl, hn, ho, h1, h2, h3⟩
      | _ => cases e2
  | _ => cases e
/-- the tail of a method's call with one argument -/
structure Me1 (X : Cx) (x y : Expr) (apos pos : Pos) : Prop where
  sup : noSup x = true
  ln : (apos.endLine == pos.line) = true
  few : ((backTo pos (starEach [y] X.env)).all (fun x => !x.1) && (backToKw pos (keywordEach [] X.env)).all (fun x => x.1.isSome) && decide (([y] : List Expr).length + ([] : List Keyword).length + (if ([] : List Keyword).isEmpty then 0 else 1) < 30)) = true
  st : starEach [y] X.env = (false, eval y X.env) :: starEach [] X.env
theorem r_append {apos : Pos} {o : E} (m : Me1 X x y apos pos) (ho : PE X x (tE t T cl Wx o)) (he : PE X y (tE t T cl Wx a)) : PE X (.Call (.Attribute x "append" apos) [y] [] pos) (tE t T cl Wx (.append o a)) :=
  PEimp (pe_bm PySem.F.plainAttrs_list PySem.F.slot_list_append PySem.F.type_list_append mt_append ho (pa_cons he pa_nil m.st) (base_ok m.sup _ _ _) m.few m.ln m.st rfl) fun σ H Q ⟨w, σd, e, k, g, p⟩ => by
    refine ⟨w, σd, e, k, g, (Post.bind p).imp ?_⟩
    rintro v1 H1 ⟨w1, d1, rfl, k1, s1, r1, p1⟩
    obtain ⟨nd, e1, p2⟩ := p1.orBad
    obtain ⟨q, vs, rfl, hn, ho, hq, hl, rl⟩ := refL_of k1 r1 e1
    refine ⟨.inl ⟨rfl, _, SqL.of hq⟩, w1, σd, rfl, k1, g.mono s1.toExt, (Post.bind p2).imp ?_⟩
    rintro v2 H2 ⟨w2, d2, rfl, k2, s2, r2, p3⟩
    obtain ⟨nd2, e2, p4⟩ := p3.orBad
    obtain ⟨q2, vs2, eq, hn2, ho2, hq2, hl2, rl2⟩ := refL_of k2 (r1.mono t s2.toExt) e2
    cases eq
    by_cases hc : nd2.2.length < lim
    · rw [if_pos hc] at p4
      refine ⟨q, vs2, v2, rfl, rfl, hq2, by rw [← rl2.length]; exact Nat.lt_trans hc lim_lt, ?_⟩
      refine Ret.set k2 hn2 ho2 ?_ (rl2.snoc r2) (d := .non) (v := .non) rfl p4
      rw [List.length_append, List.length_singleton]
      have := lim_lt
      omega
    · rw [if_neg hc] at p4
      exact p4.elim
theorem r_pop {apos : Pos} {o : E} (hb : noSup x = true) (hl : (apos.endLine == pos.line) = true) (ho : PE X x (tE t T cl Wx o)) : PE X (.Call (.Attribute x "pop" apos) [] [] pos) (tE t T cl Wx (.pop o)) :=
  PEimp (pe_bm0 PySem.F.plainAttrs_list PySem.F.slot_list_pop PySem.F.type_list_pop mt_pop ho (base_ok hb _ _ _) hl) fun σ H Q ⟨w, σd, e, k, g, p⟩ => by
    refine ⟨w, σd, e, k, g, (Post.bind p).imp ?_⟩
    rintro v1 H1 ⟨w1, d1, rfl, k1, s1, r1, p1⟩
    obtain ⟨nd, e1, p2⟩ := p1.orBad
    obtain ⟨q, vs, rfl, hn, ho, hq, hl, rl⟩ := refL_of k1 r1 e1
    obtain ⟨z, e2, p3⟩ := p2.orBad
    obtain ⟨u, e3, ru⟩ := rl.get e2
    refine ⟨.inl ⟨rfl, _, SqL.of hq⟩, q, vs, u, rfl, rfl, hq, by rw [← rl.length]; exact e3, ?_⟩
    refine Ret.set k1 hn ho ?_ rl.dropLast ru p3
    rw [List.length_dropLast]
    omega
theorem r_popAt {apos : Pos} {o : E} (m : Me1 X x y apos pos) (ho : PE X x (tE t T cl Wx o)) (he : PE X y (tE t T cl Wx a)) : PE X (.Call (.Attribute x "pop" apos) [y] [] pos) (tE t T cl Wx (.popAt o a)) :=
  PEimp (pe_bm PySem.F.plainAttrs_list PySem.F.slot_list_pop PySem.F.type_list_pop mt_popAt ho (pa_cons he pa_nil m.st) (base_ok m.sup _ _ _) m.few m.ln m.st rfl) fun σ H Q ⟨w, σd, e, k, g, p⟩ => by
    refine ⟨w, σd, e, k, g, (Post.bind p).imp ?_⟩
    rintro v1 H1 ⟨w1, d1, rfl, k1, s1, r1, p1⟩
    obtain ⟨nd, e1, p2⟩ := p1.orBad
    obtain ⟨q, vs, rfl, hn, ho, hq, hl, rl⟩ := refL_of k1 r1 e1
    refine ⟨.inl ⟨rfl, _, SqL.of hq⟩, w1, σd, rfl, k1, g.mono s1.toExt, (Post.bind p2).imp ?_⟩
    rintro v2 H2 ⟨w2, d2, rfl, k2, s2, r2, p3⟩
    obtain ⟨nd2, e2, p4⟩ := p3.orBad
    obtain ⟨q2, vs2, eq, hn2, ho2, hq2, hl2, rl2⟩ := refL_of k2 (r1.mono t s2.toExt) e2
    cases eq
    obtain ⟨j, ej, p5⟩ := p4.orBad
    obtain ⟨z, ez, p6⟩ := p5.orBad
    obtain ⟨u, e3, ru⟩ := rl2.get ez
    cases d2 with
    | int i =>
      cases (show v2 = .int i from r2)
      have ej2 : (if -(2 ^ 62) ≤ i ∧ i < 2 ^ 62 then L2.ixN nd2.2.length i else none) = some j := ej
      by_cases hc : -(2 ^ 62) ≤ i ∧ i < 2 ^ 62
      · rw [if_pos hc] at ej2
        obtain ⟨h1, _, _, _⟩ := ixN_seq ej2
        refine ⟨q, vs2, i, j, u, rfl, rfl, hq2, by omega, by omega, by rw [← rl2.length]; exact h1, e3, ?_⟩
        refine Ret.set k2 hn2 ho2 ?_ (RL.erase j rl2) ru p6
        exact Nat.le_trans (len_erase _ _) hl2
      · rw [if_neg hc] at ej2
        cases ej2
    | _ => cases ej
theorem r_dget2 {apos : Pos} {o : E} (hu : X.A.units + 1 < cLine) (m : M2 X x "get" apos y z pos) (ho : PE X x (tE t T cl Wx o)) (hk : PE X y (tE t T cl Wx a)) (hd : PE X z (tE t T cl Wx b)) : PE X (.Call (.Attribute x "get" apos) [y, z] [] pos) (tE t T cl Wx (.dget2 o a b)) :=
  PEimp (pe_dget2 hu ho hk hd m) fun σ H Q ⟨w, σd, e, k, g, p⟩ => by
    refine ⟨w, σd, e, k, g, (Post.bind p).imp ?_⟩
    rintro v1 H1 ⟨w1, d1, rfl, k1, s1, r1, p1⟩
    obtain ⟨n, e1, p2⟩ := p1.orBad
    cases d1 with
    | ref m' =>
      obtain ⟨q, rfl, hn⟩ := (show ∃ a, v1 = .ref a ∧ w1.l[m']? = some a from r1)
      have e2 : (match w1.h[m']? with | some (.dK _) => some m' | some (.dT _) => some m' | _ => none) = some n := e1
      have isd : IsD w1.H q ∧ m' = n := by
        cases ho : w1.h[m']? with
        | none =>
          rw [ho] at e2
          cases e2
        | some ob =>
          rw [ho] at e2
          cases ob with
          | dK kvs =>
            obtain ⟨vs, h1, _, _⟩ := (show ∃ vs, w1.H q = some (.dK vs) ∧ kvs.length ≤ sizeLine ∧ RK t w1 kvs vs from k1.obj m' _ q ho hn)
            exact ⟨.inl ⟨vs, .inl h1⟩, Option.some.inj e2⟩
          | dT kvs =>
            obtain ⟨vs, h1, _, _⟩ := (show ∃ vs, w1.H q = some (.dT vs) ∧ kvs.length ≤ sizeLine ∧ RK t w1 kvs vs from k1.obj m' _ q ho hn)
            exact ⟨.inr ⟨vs, .inl h1⟩, Option.some.inj e2⟩
          | _ => cases e2
      obtain ⟨isd, rfl⟩ := isd
      refine ⟨q, rfl, isd, w1, σd, rfl, k1, g.mono s1.toExt, (Post.bind p2).imp ?_⟩
      rintro v2 H2 ⟨w2, d2, rfl, k2, s2, r2, p3⟩
      refine ⟨w2, σd, rfl, k2, g.mono (s1.trans s2).toExt, (Post.bind p3).imp ?_⟩
      rintro v3 H3 ⟨w3, d3, rfl, k3, s3, r3, p4⟩
      obtain ⟨o', e4, p5⟩ := p4.orBad
      obtain ⟨u, dg, h2⟩ := dget_of k3 ((s2.trans s3).toExt.get hn) (r2.mono t s3.toExt) e4
      refine ⟨u, dg, ?_⟩
      rcases h2 with ⟨rfl, rfl⟩ | ⟨x', y', rfl, rfl, h5⟩
      · exact now p5 k3 r3
      · exact now p5 k3 h5
    | _ => cases e1
theorem r_dnew {tt : Bool} : PE X (.Dict [] [] pos) (tE t T cl Wx (.dnew tt)) := by
  cases tt with
  | true =>
    refine PEimp pe_dnewT fun σ H Q ⟨w, σd, e, k, g, p⟩ => ?_
    · intro q hq
      subst e
      have st := step_new (ob := .dT []) (o := .dT []) k hq
      refine p (w.new q (.dT []) (.dT [])) (.ref q) (ok_new k hq ⟨[], upd_same, Nat.zero_le _, rfl⟩) st rfl ⟨q, rfl, ?_⟩
      show (w.l ++ [q])[w.h.length]? = some q
      rw [k.len, List.getElem?_append_right (Nat.le_refl _), Nat.sub_self]
      rfl
  | false =>
    refine PEimp pe_dnewK fun σ H Q ⟨w, σd, e, k, g, p⟩ => ?_
    · intro q hq
      subst e
      have st := step_new (ob := .dK []) (o := .dK []) k hq
      refine p (w.new q (.dK []) (.dK [])) (.ref q) (ok_new k hq ⟨[], upd_same, Nat.zero_le _, rfl⟩) st rfl ⟨q, rfl, ?_⟩
      show (w.l ++ [q])[w.h.length]? = some q
      rw [k.len, List.getElem?_append_right (Nat.le_refl _), Nat.sub_self]
      rfl
end
end VM

set_option Elab.async false
set_option linter.all false
set_option maxRecDepth 100000
set_option maxHeartbeats 4000000
/-! VmI: targets, walks, comprehensions. -/
namespace VM
open PySem L2 PyProof.Rows
section
variable (t : Tx) (T : Tab) (cl : Call)
/-- what is wanted of a store: the slots behind it, but for the names told as ahead -/
def PostG (Wx : WX) (ns : List Nat) (σ : L2.St) (w : Wd) (Q : L2.St → Hp → Prop) : Res Sl → Prop
  | .ok σd h => ∀ w' σ', w'.Ok t → Step w w' → w'.h = h → Good t w' σd σ' → σ'.length = σ.length → (∀ j, j ∉ ns → σ'[j]? = σ[j]?) → Q σ' w'.H
  | .ex x h => ∀ w' c d σ', w'.Ok t → Step w w' → w'.h = h → RX t w' x c d → σ'.length = σ.length → Wx c d σ' w'.H
  | .bad => False
def tG (Wx : WX) (c : G) : TG := fun v σ H Q => ∃ w σd d, w.H = H ∧ w.Ok t ∧ Good t w σd σ ∧ R t w d v ∧ PostG t Wx c.names σ w Q (evG T cl c d σd w.h)
def tGs (Wx : WX) (c : Gs) : TGs := fun vs σ H Q => ∃ w σd ds, w.H = H ∧ w.Ok t ∧ Good t w σd σ ∧ RL t w ds vs ∧ PostG t Wx c.names σ w Q (evGs T cl c ds σd w.h)
/-- a walk over items -/
structure JOk (w : Wd) (J : It) (ds : List D) : Prop where
  turn : ∀ w2, w2.Ok t → Ext w w2 → ∀ i d, ds[i]? = some d → J.go i w2.H ∧ ∀ x H', J.yld i w2.H x H' → ∃ w3, w3.H = H' ∧ w3.Ok t ∧ Step w2 w3 ∧ w3.h = w2.h ∧ R t w3 d x
  stop : ∀ w2, w2.Ok t → Ext w w2 → J.stop ds.length w2.H
  len : ds.length ≤ sizeLine
def PostI (Wx : WX) (σ : L2.St) (w : Wd) (Q : It → Hp → Prop) : Res (List D) → Prop
  | .ok ds h => ∀ w' J, w'.Ok t → Step w w' → w'.h = h → JOk t w' J ds → Q J w'.H
  | .ex x h => ∀ w' c d, w'.Ok t → Step w w' → w'.h = h → RX t w' x c d → Wx c d σ w'.H
  | .bad => False
def tI (Wx : WX) (c : I) : TI := fun σ H Q => ∃ w σd, w.H = H ∧ w.Ok t ∧ Good t w σd σ ∧ PostI t Wx σ w Q (evI T cl c σd w.h)
end
section
variable {t : Tx} {T : Tab} {cl : Call} {lv : Nat} {N : List Str} {X : Cx} {sc : Scope} {Wx : WX} {e : Expr} {a b c : E} {x y z : Expr} {pos : Pos} {as : A} {es : List Expr}
theorem PGimp {t1 t2 : TG} (h : PG X e t1) (i : ∀ v σ H Q, t2 v σ H Q → t1 v σ H Q) : PG X e t2 := ⟨fun pins s σ H v u Q I r q => h.run pins s σ H v u Q I r (i v σ H Q q)⟩
theorem PGsimp {t1 t2 : TGs} (h : PGs X es t1) (i : ∀ v σ H Q, t2 v σ H Q → t1 v σ H Q) : PGs X es t2 := ⟨fun pins s σ H v u Q I r q => h.run pins s σ H v u Q I r (i v σ H Q q)⟩
theorem PIimp {tg : Expr} {t1 t2 : TI} (h : PI X tg e t1) (i : ∀ σ H Q, t2 σ H Q → t1 σ H Q) : PI X tg e t2 := ⟨fun pins s σ H R I q => h.run pins s σ H R I (i σ H R q)⟩
theorem PostG.of {ns : List Nat} {σ : L2.St} {w : Wd} {Q : L2.St → Hp → Prop} {α β : Type} {RA : Wd → α → β → Prop} {r : Res α} {f : α → Hs → Res Sl} (h : PostG t Wx ns σ w Q (r.bind f)) :
    Post t Wx σ w RA (fun v H1 => ∃ w1 d, w1.H = H1 ∧ w1.Ok t ∧ Step w w1 ∧ RA w1 d v ∧ PostG t Wx ns σ w1 Q (f d w1.h)) r := by
  cases r with
  | ok d h' =>
    intro w' v k st e rr
    refine ⟨w', d, rfl, k, st, rr, ?_⟩
    rw [e]
    have h3 : PostG t Wx ns σ w Q (f d h') := h
    cases q : f d h' with
    | ok ds h2 =>
      rw [q] at h3
      exact fun w2 σ' k2 s2 e2 g2 l2 a2 => h3 w2 σ' k2 (st.trans s2) e2 g2 l2 a2
    | ex x h2 =>
      rw [q] at h3
      exact fun w2 c d σ' k2 s2 e2 r2 l2 => h3 w2 c d σ' k2 (st.trans s2) e2 r2 l2
    | bad =>
      rw [q] at h3
      exact h3
  | ex x h' => exact fun w' c d k s e r => h w' c d σ k s e r rfl
  | bad => exact h
theorem PostG.orBad {ns : List Nat} {σ : L2.St} {w : Wd} {Q : L2.St → Hp → Prop} {α : Type} {o : Option α} {f : α → Res Sl} (h : PostG t Wx ns σ w Q (VM.orBad o f)) : ∃ a, o = some a ∧ PostG t Wx ns σ w Q (f a) := by
  cases o with
  | some a => exact ⟨a, rfl, h⟩
  | none => exact h.elim
theorem PostI.of {σ : L2.St} {w : Wd} {Q : It → Hp → Prop} {α β : Type} {RA : Wd → α → β → Prop} {r : Res α} {f : α → Hs → Res (List D)} (h : PostI t Wx σ w Q (r.bind f)) :
    Post t Wx σ w RA (fun v H1 => ∃ w1 d, w1.H = H1 ∧ w1.Ok t ∧ Step w w1 ∧ RA w1 d v ∧ PostI t Wx σ w1 Q (f d w1.h)) r := by
  cases r with
  | ok d h' =>
    intro w' v k st e rr
    refine ⟨w', d, rfl, k, st, rr, ?_⟩
    rw [e]
    have h3 : PostI t Wx σ w Q (f d h') := h
    cases q : f d h' with
    | ok ds h2 =>
      rw [q] at h3
      exact fun w2 J k2 s2 e2 j2 => h3 w2 J k2 (st.trans s2) e2 j2
    | ex x h2 =>
      rw [q] at h3
      exact fun w2 c d k2 s2 e2 r2 => h3 w2 c d k2 (st.trans s2) e2 r2
    | bad =>
      rw [q] at h3
      exact h3
  | ex x h' => exact h
  | bad => exact h
theorem PostI.orBad {σ : L2.St} {w : Wd} {Q : It → Hp → Prop} {α : Type} {o : Option α} {f : α → Res (List D)} (h : PostI t Wx σ w Q (VM.orBad o f)) : ∃ a, o = some a ∧ PostI t Wx σ w Q (f a) := by
  cases o with
  | some a => exact ⟨a, rfl, h⟩
  | none => exact h.elim
/-! ### targets -/
theorem g_name {i : Nat} {n : Str} (hN : X.N.Nodup) (hi : X.N[i]? = some n) (hl : Loc X.env.scope n ∧ (X.fn n = true ∨ X.env.scope.names.lookup n = some .local)) : PG X (.Name n pos) (tG t T cl Wx (.name i)) :=
  PGimp (pg_name hN hi hl.1 hl.2) fun v σ H Q ⟨w, σd, d, e, k, g, r, p⟩ => by
    subst e
    exact p w (σ.set i (some v)) k (Step.refl w) rfl (g.set r) (List.length_set ..) fun j hj => List.getElem?_set_ne fun q => hj (by rw [← q]; exact List.mem_singleton.mpr rfl)
theorem g_nil : PGs X [] (tGs t T cl Wx .nil) :=
  PGsimp pgs_nil fun vs σ H Q ⟨w, σd, ds, e, k, g, r, p⟩ => by
    subst e
    cases ds with
    | nil => exact ⟨r, p w σ k (Step.refl w) rfl g rfl fun _ _ => rfl⟩
    | cons d r => exact p.elim
theorem g_cons {g : G} {gs : Gs} (h1 : PG X e (tG t T cl Wx g)) (h2 : PGs X es (tGs t T cl Wx gs)) (hs : assignEach (e :: es) X.env = (false, assign e X.env) :: assignEach es X.env) : PGs X (e :: es) (tGs t T cl Wx (.cons g gs)) := by
  refine ⟨fun pins s σ H vs us Q I rv ⟨w, σd, ds, e0, k, gd, r, p⟩ => ?_⟩
  subst e0
  rw [hs]
  cases ds with
  | nil => exact p.elim
  | cons d ds =>
    obtain ⟨v, r', rfl, r1, r2⟩ := (show ∃ v r, vs = v :: r ∧ R t w d v ∧ RL t w ds r from r)
    cases rv with
    | cons rv1 rv2 =>
      rename_i u us
      have q1 : tG t T cl Wx g v σ w.H (fun σ' H' => tGs t T cl Wx gs r' σ' H' Q) := by
        refine ⟨w, σd, d, rfl, k, gd, r1, ?_⟩
        have p2 : PostG t Wx (Gs.cons g gs).names σ w Q ((evG T cl g d σd w.h).bind fun σ1 h1 => evGs T cl gs ds σ1 h1) := p
        cases q : evG T cl g d σd w.h with
        | ok σd1 h2 =>
          rw [q] at p2
          intro w' σ' k' s' e' g' l' a'
          refine ⟨w', σd1, ds, rfl, k', g', r2.mono t s'.toExt, ?_⟩
          have p3 : PostG t Wx (Gs.cons g gs).names σ w Q (evGs T cl gs ds σd1 h2) := p2
          rw [e']
          cases q2 : evGs T cl gs ds σd1 h2 with
          | ok σd2 h3 =>
            rw [q2] at p3
            exact fun w2 σ2 k2 s2 e2 g2 l2 a2 => p3 w2 σ2 k2 (s'.trans s2) e2 g2 (l2.trans l') fun j hj => (a2 j fun z => hj (List.mem_append_right _ z)).trans (a' j fun z => hj (List.mem_append_left _ z))
          | ex x h3 =>
            rw [q2] at p3
            exact fun w2 c d σ2 k2 s2 e2 r2 l2 => p3 w2 c d σ2 k2 (s'.trans s2) e2 r2 (l2.trans l')
          | bad =>
            rw [q2] at p3
            exact p3
        | ex x h2 =>
          rw [q] at p2
          exact p2
        | bad =>
          rw [q] at p2
          exact p2
      have := PGs.run (t := gCons (tG t T cl Wx g) (tGs t T cl Wx gs)) (pgs_cons h1 h2 (by rw [hs]; rfl)) pins s σ w.H (v :: r') (u :: us) Q I (.cons rv1 rv2) ⟨v, r', rfl, q1⟩
      rw [hs] at this
      exact this
theorem g_tup {k : Nat} {gs : Gs} (hc : X.calm = true) (h : PGs X es (tGs t T cl Wx gs)) (hn : (assignEach es X.env).length = gs.len) (hst : (assignEach es X.env).findIdx? (·.1) = none) :
    PG X (.Tuple es k pos) (tG t T cl Wx (.tup gs)) :=
  PGimp (pg_tup hc h hn hst) fun v σ H Q ⟨w, σd, d, e, k, g, r, p⟩ => by
    subst e
    cases d with
    | tup ds =>
      obtain ⟨q, vs, rfl, z, _, rl⟩ := (show ∃ a vs, v = .ref a ∧ Fz w a (.tup vs) ∧ ds.length ≤ sizeLine ∧ RL t w ds vs from r)
      have p2 : PostG t Wx gs.names σ w Q (if ds.length = gs.len then evGs T cl gs ds σd w.h else .bad) := p
      by_cases hl : ds.length = gs.len
      · rw [if_pos hl] at p2
        exact ⟨q, vs, rfl, SqT.of z.1, by rw [← rl.length]; exact hl, w, σd, ds, rfl, k, g, rl, p2⟩
      · rw [if_neg hl] at p2
        exact p2.elim
    | _ => exact p.elim
/-- a store at a place: of a list, of a dict -/
def rSetV (t : Tx) : TSet := fun o i v H Q => ∃ w x y d, w.H = H ∧ w.Ok t ∧ R t w x o ∧ R t w y i ∧ R t w d v ∧ ∃ (n : Nat) (ob ob' : Ob), x = .ref n ∧ w.h[n]? = some ob ∧ storeO ob y d = some ob' ∧ ∀ w', w'.Ok t → Step w w' → w'.h = w.h.set n ob' → Q w'.H
theorem set_v (hu : X.A.units + 1 < cLine) : PSet X (rSetV t) := by
  intro pins s σ H o i v ov iv u Q I ro ri rv h
  obtain ⟨w, x, y, d, rfl, k, r1, r2, r3, n, ob, ob', rfl, ho, hw, q⟩ := h
  obtain ⟨p, rfl, hn⟩ := (show ∃ a, o = .ref a ∧ w.l[n]? = some a from r1)
  have dd : dputO ob y d = some ob' → wpAny (model X.prog X.w) X.A (setItem ov iv u) (fun _ s' => ∃ H', L2.Inv X pins σ H' s' ∧ Q H') X.xe s := fun hd => by
    obtain ⟨o', dp, hob, hlive⟩ := dput_of k ho hn r2 r3 hd
    obtain rfl : ov = Value.ref p := ro
    have st := step_set (ob := ob') (o := o') k ho hlive hn
    exact d_setItem hu I dp ri rv fun s' I' => ⟨_, I', q (w.set n p ob' o') (ok_set k ho hlive hn (hob _ st upd_same)) st rfl⟩
  cases ob with
  | lst ds =>
    obtain ⟨j, hj, rfl⟩ := Option.map_eq_some_iff.mp (show (ixY0 ds.length y).map (fun j => Ob.lst (ds.set j d)) = some ob' from hw)
    cases y with
    | int kk =>
      obtain ⟨vs, h1, h2, h3⟩ := lst_at k hn ho
      cases (show i = .int kk from r2)
      refine set_list pins s σ w.H _ _ v ov iv u _ I ro ri rv ⟨p, vs, kk, j, rfl, rfl, h1, by rw [← h3.length]; exact hj, ?_⟩
      have st := step_set (ob := .lst (ds.set j d)) (o := .lst (vs.set j v)) k ho rfl hn
      refine q (w.set n p (.lst (ds.set j d)) (.lst (vs.set j v))) (ok_set k ho rfl hn ?_) st rfl
      exact ⟨_, upd_same, by rw [List.length_set]; exact h2, (RL.set r3 j h3).mono t st.toExt⟩
    | _ => cases hj
  | dead => exact dd hw
  | ins _ _ => exact dd hw
  | dK _ => exact dd hw
  | dT _ => exact dd hw
theorem g_sub {o i : E} (hu : X.A.units + 1 < cLine) (ho : PE X x (tE t T cl Wx o)) (hi : PE X y (tE t T cl Wx i)) (ha : ∀ v, assign (.Subscript x y pos) X.env v = (do
      let ov ← holding [v] (eval x X.env)
      let iv ← holding [v, ov] (eval y X.env)
      standAt pos
      holding [v, ov, iv] (setItem ov iv v)
      release [v, ov, iv] [])) : PG X (.Subscript x y pos) (tG t T cl Wx (.sub o i)) := by
  refine PGimp (pg_sub ho hi (set_v (t := t) hu) ha) fun v σ H Q ⟨w, σd, d, e, k, g, r, p⟩ => ?_
  refine ⟨w, σd, e, k, g, (PostG.of p).imp ?_⟩
  rintro v1 H1 ⟨w1, d1, rfl, k1, s1, r1, p1⟩
  refine ⟨w1, σd, rfl, k1, g.mono s1.toExt, (PostG.of p1).imp ?_⟩
  rintro v2 H2 ⟨w2, d2, rfl, k2, s2, r2, p2⟩
  have r0 := r.mono t (s1.trans s2).toExt
  have g2 := g.mono (s1.trans s2).toExt
  cases d1 with
  | ref n =>
    obtain ⟨ob, ho', p3⟩ := PostG.orBad (show PostG t Wx [] σ w2 Q (VM.orBad (w2.h[n]?) fun ob => VM.orBad (storeO ob d2 d) fun ob' => .ok σd (w2.h.set n ob')) from p2)
    obtain ⟨ob', e4, p5⟩ := p3.orBad
    exact ⟨w2, .ref n, d2, d, rfl, k2, r1.mono t s2.toExt, r2, r0, n, ob, ob', rfl, ho', e4, fun w' k' s' e' => p5 w' σ k' s' e' (g2.mono s'.toExt) rfl fun _ _ => rfl⟩
  | _ => exact p2.elim
theorem g_fld {o : E} {f : Nat} {nm : Str} (B : Txt t T cl lv X) (hf : t.nm f = nm) (ho : PE X x (tE t T cl Wx o)) : PG X (.Attribute x nm pos) (tG t T cl Wx (.fld o f)) := by
  refine ⟨fun pins s σ H v u Q I rv ⟨w, σd, d, e, k, g, r, p⟩ => ?_⟩
  subst e
  rw [PySem.assign_Attribute]
  refine wpAny_bind (wpAny_holding (thn (ho.run pins s σ _ _ I ⟨w, σd, rfl, k, g, PostG.of (RA := R t) p⟩) fun ov s1 ⟨v1, H1, I1, r1v, w1, d1, e1, k1, s1', r1, p1⟩ => ?_))
  subst e1
  have r0 := r.mono t s1'.toExt
  have g1 := g.mono s1'.toExt
  cases d1 with
  | ref n =>
    obtain ⟨q, rfl, hn⟩ := (show ∃ a, v1 = .ref a ∧ w1.l[n]? = some a from r1)
    have p3 : PostG t Wx [] σ w1 Q (match w1.h[n]? with
      | some (.ins c fs) => if fs.length < 900 ∧ hasF T c f = true then .ok σd (w1.h.set n (.ins c (putN f d fs))) else .bad
      | _ => .bad) := p1
    cases hob : w1.h[n]? with
    | none =>
      rw [hob] at p3
      exact p3.elim
    | some ob =>
      rw [hob] at p3
      cases ob with
      | ins c fs =>
        have p4 : PostG t Wx [] σ w1 Q (if fs.length < 900 ∧ hasF T c f = true then .ok σd (w1.h.set n (.ins c (putN f d fs))) else .bad) := p3
        by_cases hc : fs.length < 900 ∧ hasF T c f = true
        · rw [if_pos hc] at p4
          obtain ⟨dx, vs, h1, h2, h3⟩ := (show ∃ dx vs, w1.H q = some (.ins (t.cls c) dx vs) ∧ fs.length ≤ 1000 ∧ RF t w1 fs vs from k1.obj n _ q hob hn)
          obtain ⟨na, hfn⟩ := B.noat c f hc.2
          obtain ⟨ct, hct⟩ := hasF_cls hc.2
          obtain rfl : ov = Value.ref q := r1v
          have st := step_set (ob := .ins c (putN f d fs)) (o := .ins (t.cls c) dx (putF nm v vs)) k1 hob rfl hn
          have okk := ok_set (ob := .ins c (putN f d fs)) (o := .ins (t.cls c) dx (putF nm v vs)) k1 hob rfl hn ⟨dx, _, upd_same, by have := length_putN f d fs; omega, by
            have := RF.put hfn r0 h3
            rw [hf] at this
            exact this.mono t st.toExt⟩
          refine wpAny_bind (wpAny_standAt (wpAny_bind (wpAny_holding (setattr_ok I1 h1 (B.cls c ct hct) (hf ▸ na) (by rw [← h3.length]; omega) rv fun s3 I3 => ?_))))
          exact wpAny_release ⟨σ, _, I3, p4 _ σ okk st rfl (g1.mono st.toExt) rfl fun _ _ => rfl⟩
        · rw [if_neg hc] at p4
          exact p4.elim
      | _ => exact p3.elim
  | _ => exact p1.elim
/-! ### walks -/
theorem j_list {w : Wd} {q : Addr} {vs : List V} {ds : List D} (hq : QL t w q vs) (hl : ds.length ≤ sizeLine) (rl : RL t w ds vs) : JOk t w (Itl t.K q) ds where
  turn := fun w2 k2 ex i d hd => by
    obtain ⟨v, e1, r1⟩ := rl.get hd
    refine ⟨⟨vs, v, (hq.mono t ex).sq, e1⟩, fun x H' ⟨e2, h2⟩ => ?_⟩
    subst e2
    have e3 := h2 vs (hq.mono t ex).sq
    rw [e1] at e3
    rw [← Option.some.inj e3]
    exact ⟨w2, rfl, k2, Step.refl _, rfl, r1.mono t ex⟩
  stop := fun w2 k2 ex => ⟨vs, (hq.mono t ex).sq, by rw [rl.length]; exact Nat.le_refl _⟩
  len := hl
theorem j_tup {w : Wd} {q : Addr} {vs : List V} {ds : List D} (hq : Fz w q (.tup vs)) (hl : ds.length ≤ sizeLine) (rl : RL t w ds vs) : JOk t w (Itt t.K q) ds where
  turn := fun w2 k2 ex i d hd => by
    obtain ⟨v, e1, r1⟩ := rl.get hd
    refine ⟨⟨vs, v, SqT.of (ex.keep _ _ hq).1, e1⟩, fun x H' ⟨e2, h2⟩ => ?_⟩
    subst e2
    have e3 := h2 vs (SqT.of (ex.keep _ _ hq).1)
    rw [e1] at e3
    rw [← Option.some.inj e3]
    exact ⟨w2, rfl, k2, Step.refl _, rfl, r1.mono t ex⟩
  stop := fun w2 k2 ex => ⟨vs, SqT.of (ex.keep _ _ hq).1, by rw [rl.length]; exact Nat.le_refl _⟩
  len := hl
theorem rangeD_get {lo : Int} {n i : Nat} {d : D} (h : (rangeD lo n)[i]? = some d) : i < n ∧ d = .int (lo + (i : Int)) := by
  unfold rangeD at h
  rw [List.getElem?_map] at h
  obtain ⟨j, h1, h2⟩ := Option.map_eq_some_iff.mp h
  obtain ⟨h3, h4⟩ := List.getElem?_eq_some_iff.mp h1
  rw [List.length_range] at h3
  rw [List.getElem_range] at h4
  exact ⟨h3, by rw [← h2, ← h4]⟩
theorem rangeD_length (lo : Int) (n : Nat) : (rangeD lo n).length = n := by
  unfold rangeD
  rw [List.length_map, List.length_range]
theorem j_range {w : Wd} {lo : Int} {n : Nat} (hn : n ≤ sizeLine) : JOk t w (Itr lo n) (rangeD lo n) where
  turn := fun w2 k2 ex i d hd => by
    obtain ⟨h1, h2⟩ := rangeD_get hd
    refine ⟨h1, fun x H' ⟨e2, h3⟩ => ?_⟩
    subst e2
    exact ⟨w2, rfl, k2, Step.refl _, rfl, by rw [h2]; exact h3⟩
  stop := fun w2 k2 ex => by
    rw [rangeD_length]
    exact Nat.le_refl n
  len := by rw [rangeD_length]; exact hn
theorem enumD_get : ∀ {k : Nat} {ds : List D} {i : Nat} {d : D}, (enumD k ds)[i]? = some d → ∃ e, ds[i]? = some e ∧ d = .tup [.int ((k + i : Nat) : Int), e]
  | _, [], _, _, h => by
    have h2 : ([] : List D)[_]? = some _ := h
    simp at h2
  | k, e :: ds, 0, d, h => by
    have h2 : (D.tup [.int (k : Int), e] :: enumD (k + 1) ds)[0]? = some d := h
    simp at h2
    exact ⟨e, rfl, by rw [← h2]; rfl⟩
  | k, e :: ds, i + 1, d, h => by
    have h2 : (D.tup [.int (k : Int), e] :: enumD (k + 1) ds)[i + 1]? = some d := h
    simp at h2
    obtain ⟨u, h3, h4⟩ := enumD_get h2
    exact ⟨u, by simpa using h3, by rw [h4, show k + 1 + i = k + (i + 1) by omega]⟩
theorem enumD_length : ∀ (k : Nat) (ds : List D), (enumD k ds).length = ds.length
  | _, [] => rfl
  | k, d :: ds => congrArg Nat.succ (enumD_length (k + 1) ds)
theorem j_enum {w : Wd} {q : Addr} {vs : List V} {ds : List D} (hq : QL t w q vs) (hl : ds.length ≤ sizeLine) (rl : RL t w ds vs) : JOk t w (Ite t.K q) (enumD 0 ds) where
  turn := fun w2 k2 ex i d hd => by
    obtain ⟨u, h1, h2⟩ := enumD_get hd
    obtain ⟨v, e1, r1⟩ := rl.get h1
    refine ⟨⟨vs, v, (hq.mono t ex).sq, e1⟩, fun x H' ⟨p, y, e2, e3, e4, h3⟩ => ?_⟩
    have e5 := h3 vs (hq.mono t ex).sq
    rw [e1] at e5
    have e6 : v = y := Option.some.inj e5
    subst e6 e4 e2 h2
    have st := step_frz (o := .tup [.int (i : Nat), v]) k2 e3
    refine ⟨w2.put p (.tup [.int (i : Nat), v]), rfl, ok_frz k2 e3, st, rfl, p, _, rfl, fz_new k2 e3, ?_, ?_⟩
    · show 2 ≤ sizeLine
      rw [sizeLine_eq]
      decide
    · refine RL.cons (by rw [Nat.zero_add]; rfl) (RL.cons ((r1.mono t ex).mono t st.toExt) rfl)
  stop := fun w2 k2 ex => ⟨vs, (hq.mono t ex).sq, by rw [enumD_length, rl.length]; exact Nat.le_refl _⟩
  len := by rw [enumD_length]; exact hl
/-- a list or a tuple that stands still -/
def iSeq (K : PySem.W.Frag) (tl : TE) : TI := fun σ H R => tl σ H fun x H1 => ∃ a, x = .ref a ∧ ((∃ xs, SqL K H1 a xs) ∧ R (Itl K a) H1 ∨ (∃ xs, SqT K H1 a xs) ∧ R (Itt K a) H1)
theorem pi_seq {tg : Expr} {tl : TE} (hl : PE X e tl) : PI X tg e (iSeq X.K tl) := by
  refine ⟨fun pins s σ H R I h => ?_⟩
  refine thn (hl.run pins s σ H _ I h) fun v s1 ⟨x, H1, I1, r1, a, e1, h1⟩ => ?_
  subst e1
  cases r1
  rcases h1 with ⟨⟨xs, hq⟩, q⟩ | ⟨⟨xs, hq⟩, q⟩
  · obtain ⟨its, rv, p, hz⟩ := I1.list hq
    refine wpAny_pyIter_list p.isList ?_
    refine ⟨s1.heap.objs.size, [s1.heap.objs.size], _, _, H1, rfl, I1.kept (t' := s1.toks) fun b o e => Heap.get?_push_of_some _ e, turn_list a _, ⟨_, Heap.get?_push_size _ rfl, rfl, rfl⟩, fun b hb => ?_, q⟩
    have e : b = s1.heap.objs.size := by simpa using hb
    subst e
    exact I1.fpOk (Nat.le_refl _) (I1.hok.fresh (Nat.le_refl _))
  · obtain ⟨its, rv, p, hz⟩ := I1.tuple hq
    refine wpAny_pyIter_tuple (show s1.heap.IsTuple a its.toArray from p) ?_
    refine ⟨s1.heap.objs.size, [s1.heap.objs.size], _, _, H1, rfl, I1.kept (t' := s1.toks) fun b o e => Heap.get?_push_of_some _ e, turn_tuple a _, ⟨_, Heap.get?_push_size _ rfl, rfl, rfl⟩, fun b hb => ?_, q⟩
    have e : b = s1.heap.objs.size := by simpa using hb
    subst e
    exact I1.fpOk (Nat.le_refl _) (I1.hok.fresh (Nat.le_refl _))
theorem i_seq {tg : Expr} (hK : X.K = t.K) (ha : PE X e (tE t T cl Wx a)) : PI X tg e (tI t T cl Wx (.seq a)) :=
  PIimp (pi_seq ha) fun σ H Q ⟨w, σd, e, k, g, p⟩ => by
    refine ⟨w, σd, e, k, g, (PostI.of p).imp ?_⟩
    rintro v1 H1 ⟨w1, d1, rfl, k1, s1, r1, p1⟩
    obtain ⟨ds, e1, p2⟩ := p1.orBad
    rw [hK]
    cases d1 with
    | tup xs =>
      cases (show some xs = some ds from e1)
      obtain ⟨q, vs, rfl, z, hl, rl⟩ := (show ∃ a vs, v1 = .ref a ∧ Fz w1 a (.tup vs) ∧ ds.length ≤ sizeLine ∧ RL t w1 ds vs from r1)
      exact ⟨q, rfl, .inr ⟨⟨vs, SqT.of z.1⟩, p2 w1 _ k1 (Step.refl _) rfl (j_tup z hl rl)⟩⟩
    | lst xs =>
      cases (show some xs = some ds from e1)
      obtain ⟨q, vs, rfl, z, hl, rl⟩ := (show ∃ a vs, v1 = .ref a ∧ Fz w1 a (.lst vs) ∧ ds.length ≤ sizeLine ∧ RL t w1 ds vs from r1)
      exact ⟨q, rfl, .inl ⟨⟨vs, SqL.of z.1⟩, p2 w1 _ k1 (Step.refl _) rfl (j_list (.inl z) hl rl)⟩⟩
    | rl xs =>
      cases (show some xs = some ds from e1)
      obtain ⟨q, vs, rfl, z, hl, rl⟩ := (show ∃ a vs, v1 = .ref a ∧ QL t w1 a vs ∧ ds.length ≤ sizeLine ∧ RL t w1 ds vs from r1)
      exact ⟨q, rfl, .inl ⟨⟨vs, z.sq⟩, p2 w1 _ k1 (Step.refl _) rfl (j_list z hl rl)⟩⟩
    | _ => cases e1
theorem i_range {tg : Expr} {p : Pos} (hg : Gl X "range") (hm : X.mg "range" = none) (hs : starEach [x] X.env = [(false, eval x X.env)]) (ha : PE X x (tE t T cl Wx a)) : PI X tg (.Call (.Name "range" p) [x] [] pos) (tI t T cl Wx (.range a)) :=
  PIimp (pi_range1 hg hm (pa_cons ha pa_nil (by rw [hs]; rfl)) hs) fun σ H Q ⟨w, σd, e, k, g, p⟩ => by
    refine ⟨w, σd, e, k, g, (PostI.of p).imp ?_⟩
    rintro v1 H1 ⟨w1, d1, rfl, k1, s1, r1, p1⟩
    cases d1 with
    | int j =>
      have p2 : PostI t Wx σ w1 Q (if -(2 ^ 62) ≤ j ∧ j < 2 ^ 62 ∧ j.toNat ≤ lim then .ok (rangeD 0 j.toNat) w1.h else .bad) := p1
      by_cases hc : -(2 ^ 62) ≤ j ∧ j < 2 ^ 62 ∧ j.toNat ≤ lim
      · rw [if_pos hc] at p2
        exact ⟨j, by rw [show v1 = .int j from r1], hc.1, hc.2.1, p2 w1 _ k1 (Step.refl _) rfl (j_range (Nat.le_trans hc.2.2 lim_le))⟩
      · rw [if_neg hc] at p2
        exact p2.elim
    | _ => exact p1.elim
theorem i_range2 {tg : Expr} {p : Pos} (hg : Gl X "range") (hm : X.mg "range" = none) (hs : starEach [x, y] X.env = [(false, eval x X.env), (false, eval y X.env)]) (hs2 : starEach [y] X.env = [(false, eval y X.env)]) (ha : PE X x (tE t T cl Wx a)) (hb : PE X y (tE t T cl Wx b)) :
    PI X tg (.Call (.Name "range" p) [x, y] [] pos) (tI t T cl Wx (.range2 a b)) :=
  PIimp (pi_range2 hg hm (pa_cons ha (pa_cons hb pa_nil (by rw [hs2]; rfl)) (by rw [hs, hs2])) hs hs2) fun σ H Q ⟨w, σd, e, k, g, p⟩ => by
    refine ⟨w, σd, e, k, g, (PostI.of p).imp ?_⟩
    rintro v1 H1 ⟨w1, d1, rfl, k1, s1, r1, p1⟩
    refine ⟨w1, σd, rfl, k1, g.mono s1.toExt, (PostI.of p1).imp ?_⟩
    rintro v2 H2 ⟨w2, d2, rfl, k2, s2, r2, p2⟩
    cases d1 with
    | int i =>
      cases d2 with
      | int j =>
        have p3 : PostI t Wx σ w2 Q (if -(2 ^ 62) ≤ i ∧ i < 2 ^ 62 ∧ -(2 ^ 62) ≤ j ∧ j < 2 ^ 62 ∧ (j - i).toNat ≤ lim then .ok (rangeD i (j - i).toNat) w2.h else .bad) := p2
        by_cases hc : -(2 ^ 62) ≤ i ∧ i < 2 ^ 62 ∧ -(2 ^ 62) ≤ j ∧ j < 2 ^ 62 ∧ (j - i).toNat ≤ lim
        · rw [if_pos hc] at p3
          exact ⟨i, j, by rw [show v1 = .int i from r1, show v2 = .int j from r2], ⟨hc.1, hc.2.1, hc.2.2.1, hc.2.2.2.1⟩, p3 w2 _ k2 (Step.refl _) rfl (j_range (Nat.le_trans hc.2.2.2.2 lim_le))⟩
        · rw [if_neg hc] at p3
          exact p3.elim
      | _ => exact p2.elim
    | _ => exact p2.elim
theorem i_enum {p tpos : Pos} {elts : List Expr} {kk : Nat} (hK : X.K = t.K) (hg : Gl X "enumerate") (hm : X.mg "enumerate" = none) (hs : starEach [x] X.env = [(false, eval x X.env)]) (ha : PE X x (tE t T cl Wx a)) :
    PI X (.Tuple elts kk tpos) (.Call (.Name "enumerate" p) [x] [] pos) (tI t T cl Wx (.enum a)) :=
  PIimp (pi_enum hg hm (pa_cons ha pa_nil (by rw [hs]; rfl)) hs) fun σ H Q ⟨w, σd, e, k, g, p⟩ => by
    refine ⟨w, σd, e, k, g, (PostI.of p).imp ?_⟩
    rintro v1 H1 ⟨w1, d1, rfl, k1, s1, r1, p1⟩
    rw [hK]
    cases d1 with
    | lst ds =>
      obtain ⟨q, vs, rfl, z, hl, rl⟩ := (show ∃ a vs, v1 = .ref a ∧ Fz w1 a (.lst vs) ∧ ds.length ≤ sizeLine ∧ RL t w1 ds vs from r1)
      exact ⟨q, vs, rfl, SqL.of z.1, p1 w1 _ k1 (Step.refl _) rfl (j_enum (.inl z) hl rl)⟩
    | rl ds =>
      obtain ⟨q, vs, rfl, z, hl, rl⟩ := (show ∃ a vs, v1 = .ref a ∧ QL t w1 a vs ∧ ds.length ≤ sizeLine ∧ RL t w1 ds vs from r1)
      exact ⟨q, vs, rfl, z.sq, p1 w1 _ k1 (Step.refl _) rfl (j_enum z hl rl)⟩
    | _ => exact p1.elim
end
end VM

set_option Elab.async false
set_option linter.all false
set_option maxRecDepth 100000
set_option maxHeartbeats 4000000
/-! VmJ: comprehensions. -/
namespace VM
open PySem L2 PyProof.Rows
section
variable {t : Tx} {T : Tab} {cl : Call} {lv : Nat} {N : List Str} {X : Cx} {sc : Scope} {Wx : WX} {e : Expr} {a b c : E} {x y z : Expr} {pos : Pos} {as : A} {es : List Expr}
abbrev W0 : WX := fun _ _ _ _ => False
theorem wipeD_len (σ : Sl) : ∀ vs : List Nat, (wipeD σ vs).length = σ.length
  | [] => rfl
  | v :: vs => by
    unfold wipeD
    rw [List.length_set, wipeD_len σ vs]
theorem wipeD_get {σ : Sl} {i : Nat} {d : D} : ∀ {vs : List Nat}, getSl (wipeD σ vs) i = some d → getSl σ i = some d ∧ i ∉ vs
  | [], h => ⟨h, by simp⟩
  | v :: vs, h => by
    unfold wipeD at h
    have h2 : ((wipeD σ vs).set v none)[i]?.join = some d := h
    by_cases e : v = i
    · subst e
      by_cases hl : v < (wipeD σ vs).length
      · rw [List.getElem?_set_self hl] at h2
        cases h2
      · rw [List.set_eq_of_length_le (by omega)] at h2
        rw [List.getElem?_eq_none (by omega)] at h2
        cases h2
    · rw [List.getElem?_set_ne e] at h2
      obtain ⟨h3, h4⟩ := wipeD_get (vs := vs) h2
      exact ⟨h3, fun m => (List.mem_cons.mp m).elim (fun q => e q.symm) h4⟩
theorem wipe_at (σ : L2.St) : ∀ (vs : List Nat) (i : Nat), i ∉ vs → (wipe σ vs)[i]? = σ[i]?
  | [], _, _ => rfl
  | v :: vs, i, h => by
    show ((wipe σ vs).set v none)[i]? = σ[i]?
    rw [List.getElem?_set_ne (fun q => h (by rw [q]; exact List.mem_cons_self)), wipe_at σ vs i fun m => h (List.mem_cons_of_mem _ m)]
theorem wipe_in (σ : L2.St) : ∀ (vs : List Nat) (i : Nat), i ∈ vs → i < σ.length → (wipe σ vs)[i]? = some none
  | v :: vs, i, h, hl => by
    show ((wipe σ vs).set v none)[i]? = some none
    by_cases e : v = i
    · subst e
      exact List.getElem?_set_self (by rw [wipe_length]; exact hl)
    · rw [List.getElem?_set_ne e]
      rcases List.mem_cons.mp h with q | q
      · exact absurd q.symm e
      · exact wipe_in σ vs i q hl
theorem wipe_eq {σ σ2 : L2.St} {vs ns : List Nat} (hn : ∀ j ∈ ns, j ∈ vs) (hl : σ2.length = (wipe σ vs).length) (ha : ∀ j, j ∉ ns → σ2[j]? = (wipe σ vs)[j]?) : wipe σ2 vs = wipe σ vs := by
  refine List.ext_getElem? fun i => ?_
  rw [wipe_length] at hl
  by_cases hi : i ∈ vs
  · by_cases hl2 : i < σ.length
    · rw [wipe_in σ2 vs i hi (by omega), wipe_in σ vs i hi hl2]
    · rw [List.getElem?_eq_none (by rw [wipe_length]; omega), List.getElem?_eq_none (by rw [wipe_length]; omega)]
  · rw [wipe_at σ2 vs i hi, ha i fun m => hi (hn i m)]
theorem Good.wipe {w : Wd} {σd : Sl} {σ : L2.St} (g : Good t w σd σ) (vs : List Nat) : Good t w (wipeD σd vs) (L2.wipe σ vs) :=
  ⟨by rw [wipeD_len, wipe_length, g.len], fun i d h => by
    obtain ⟨h1, h2⟩ := wipeD_get h
    obtain ⟨v, e, r⟩ := g.at_ i d h1
    exact ⟨v, by rw [wipe_at σ vs i h2]; exact e, r⟩⟩
/-! ### a list that is being made: known to no one -/
structure Inn (q : Addr) (w1 w : Wd) : Prop where
  ext : Ext w1 w
  trk : ∀ a o, w1.H a = some o → ∃ o', w.H a = some o'
  ex : w.x = q :: w1.x
  priv : ∀ a ∈ w1.x, w.H a = w1.H a
theorem Inn.step {q : Addr} {w1 w w' : Wd} (i : Inn q w1 w) (s : Step w w') : Inn q w1 w' :=
  ⟨i.ext.trans s.toExt, fun a o h => let ⟨o', e⟩ := i.trk a o h; s.trk a o' e, s.ex.trans i.ex, fun a m => (s.priv a (by rw [i.ex]; exact List.mem_cons_of_mem _ m)).trans (i.priv a m)⟩
abbrev Wd.prv (w : Wd) (q : Addr) (o : HO) : Wd := ⟨w.h, w.l, upd w.H q o, q :: w.x⟩
theorem inn_new {w : Wd} (k : w.Ok t) {q : Addr} (h : w.H q = none) (o : HO) : Inn q w (w.prv q o) ∧ Wd.Ok t (w.prv q o) := by
  have ex : Ext w (w.prv q o) := ⟨⟨[], by simp⟩, fun a u z => ⟨by
    show upd w.H q o a = some u
    rw [upd_ne (ne_of_none z.1 h)]
    exact z.1, z.2.1, fun m => (List.mem_cons.mp m).elim (fun e => ne_of_none z.1 h e) z.2.2⟩⟩
  have tr : ∀ a u, w.H a = some u → ∃ o', upd w.H q o a = some o' := fun a u z => ⟨u, by rw [upd_ne (ne_of_none z h)]; exact z⟩
  refine ⟨⟨ex, tr, rfl, fun a m => upd_ne fun e => k.new_x h (e ▸ m)⟩, k.len, k.nd, fun a m => let ⟨u, z⟩ := k.trk a m; tr a u z, fun n u a h1 h2 => ?_, fun a m => ?_⟩
  · obtain ⟨u2, z⟩ := k.trk a (List.mem_of_getElem? h2)
    exact (k.obj n u a h1 h2).of ex (upd_ne (ne_of_none z h))
  · rcases List.mem_cons.mp m with e | m
    · rw [e]
      exact ⟨k.new_l h, o, upd_same⟩
    · obtain ⟨n1, u, z⟩ := k.prv a m
      exact ⟨n1, tr a u z⟩
/-- its content is turned -/
theorem inn_upd {w1 w : Wd} {q : Addr} (k1 : w1.Ok t) (k : w.Ok t) (i : Inn q w1 w) (o : HO) (h1 : w1.H q = none) : Inn q w1 ⟨w.h, w.l, upd w.H q o, w.x⟩ ∧ Wd.Ok t ⟨w.h, w.l, upd w.H q o, w.x⟩ ∧ Ext w ⟨w.h, w.l, upd w.H q o, w.x⟩ := by
  have hq : q ∈ w.x := by rw [i.ex]; exact List.mem_cons_self
  have ex : Ext w ⟨w.h, w.l, upd w.H q o, w.x⟩ := ⟨⟨[], by simp⟩, fun a u z => ⟨by
    show upd w.H q o a = some u
    rw [upd_ne (fun e => z.2.2 (by rw [e]; exact hq))]
    exact z.1, z.2⟩⟩
  have tr : ∀ a u, w.H a = some u → ∃ o', upd w.H q o a = some o' := fun a u z => by
    by_cases e : a = q
    · exact ⟨o, by rw [e]; exact upd_same⟩
    · exact ⟨u, (upd_ne e).trans z⟩
  refine ⟨⟨i.ext.trans ex, fun a u z => let ⟨u2, z2⟩ := i.trk a u z; tr a u2 z2, i.ex, fun a m => ?_⟩, ⟨k.len, k.nd, fun a m => let ⟨u, z⟩ := k.trk a m; tr a u z, fun n u a h2 h3 => ?_, fun a m => ⟨(k.prv a m).1, let ⟨u, z⟩ := (k.prv a m).2; tr a u z⟩⟩, ex⟩
  · exact (upd_ne fun e => k1.new_x h1 (by rw [← e]; exact m)).trans (i.priv a m)
  · exact (k.obj n u a h2 h3).of ex (upd_ne fun e => (k.prv q hq).1 (by rw [← e]; exact List.mem_of_getElem? h3))
def dele (H : Hp) (q : Addr) : Hp := fun b => if b = q then none else H b
theorem dele_ne {H : Hp} {q a : Addr} (h : a ≠ q) : dele H q a = H a := if_neg h
theorem dele_same {H : Hp} {q : Addr} : dele H q q = none := if_pos rfl
theorem upd_dele {H : Hp} {q : Addr} {o : HO} (h : H q = some o) : upd (dele H q) q o = H := by
  funext a
  by_cases e : a = q
  · rw [e, upd_same, h]
  · rw [upd_ne e, dele_ne e]
/-- it is given out -/
theorem inn_out {w1 w : Wd} {q : Addr} {o : HO} (k1 : w1.Ok t) (k : w.Ok t) (i : Inn q w1 w) (h1 : w1.H q = none) : Wd.Ok t ⟨w.h, w.l, dele w.H q, w1.x⟩ ∧ Step w1 ⟨w.h, w.l, dele w.H q, w1.x⟩ ∧ Ext w ⟨w.h, w.l, dele w.H q, w1.x⟩ := by
  have hx : q ∈ w.x := by rw [i.ex]; exact List.mem_cons_self
  have nx : q ∉ w1.x := k1.new_x h1
  have nl : q ∉ w.l := (k.prv q hx).1
  have ex : Ext w ⟨w.h, w.l, dele w.H q, w1.x⟩ := ⟨⟨[], by simp⟩, fun a u z => ⟨(dele_ne (fun e => z.2.2 (by rw [e]; exact hx))).trans z.1, z.2.1, fun m => z.2.2 (by rw [i.ex]; exact List.mem_cons_of_mem _ m)⟩⟩
  refine ⟨⟨k.len, k.nd, fun a m => ?_, fun n u a h2 h3 => ?_, fun a m => ?_⟩, ⟨i.ext.trans ex, fun a u z => ?_, rfl, fun a m => ?_⟩, ex⟩
  · obtain ⟨u, z⟩ := k.trk a m
    exact ⟨u, (dele_ne (fun e => nl (by rw [← e]; exact m))).trans z⟩
  · exact (k.obj n u a h2 h3).of ex (dele_ne (fun e => nl (by rw [← e]; exact List.mem_of_getElem? h3)))
  · obtain ⟨n1, u, z⟩ := k.prv a (by rw [i.ex]; exact List.mem_cons_of_mem _ m)
    exact ⟨n1, u, (dele_ne (fun e => nx (by rw [← e]; exact m))).trans z⟩
  · obtain ⟨u2, z2⟩ := i.trk a u z
    exact ⟨u2, (dele_ne (ne_of_none z h1)).trans z2⟩
  · exact (dele_ne (fun e => nx (by rw [← e]; exact m))).trans (i.priv a m)
/-- what is wanted behind the items that are left -/
def PostN (t : Tx) (q : Addr) (w1 : Wd) (Qd : Hp → Prop) : Res (List D) → Prop
  | .ok ds h => ∀ w vs, w.Ok t → Inn q w1 w → w.h = h → w.H q = some (.lst vs) → ds.length ≤ sizeLine → RL t w ds vs → Qd w.H
  | _ => False
/-- the turns of a comprehension -/
theorem lc_turns {g : TG} {tt : TT} {te : TE} {vs : List Nat} {σ : L2.St} {q : Addr} {w1 : Wd} {J : It} {ds : List D} {Qd : Hp → Prop} {turn : D → Hs → Res (Option D)} (k1 : w1.Ok t) (j : JOk t w1 J ds) (hq : w1.H q = none)
    (p : PostN t q w1 Qd (gather turn ds [] w1.h))
    (one : ∀ w d v o h' (Nx : Hp → Prop), w.Ok t → Ext w1 w → R t w d v → turn d w.h = .ok o h' → (∀ w', w'.Ok t → Step w w' → w'.h = h' → match o with
      | some y => ∀ u, R t w' y u → ∀ acc, w'.H q = some (.lst acc) → acc.length < sizeLine ∧ Nx (upd w'.H q (.lst (acc ++ [u])))
      | none => Nx w'.H) → (∃ acc, w.H q = some (.lst acc) ∧ q ∈ w.x) → g v (wipe σ vs) w.H fun σ2 H2 => wipe σ2 vs = wipe σ vs ∧ tt σ2 H2 fun b H3 =>
        if b = true then te σ2 H3 fun y H4 => ∃ acc, H4 q = some (.lst acc) ∧ acc.length < sizeLine ∧ Nx (upd H4 q (.lst (acc ++ [y]))) else Nx H3) :
    ∃ W : Nat → Nat → Hp → Prop, (∃ m, W 0 m (upd w1.H q (.lst []))) ∧ ∀ i m H, W i m H →
      (J.stop i H ∧ Qd H) ∨ (J.go i H ∧ ∃ Nx : Hp → Prop, (∀ H', Nx H' → ∃ m', m' < m ∧ W (i + 1) m' H') ∧ ∀ x H', J.yld i H x H' → g x (wipe σ vs) H' fun σ2 H2 => wipe σ2 vs = wipe σ vs ∧ tt σ2 H2 fun b H3 =>
        if b = true then te σ2 H3 fun y H4 => ∃ acc, H4 q = some (.lst acc) ∧ acc.length < sizeLine ∧ Nx (upd H4 q (.lst (acc ++ [y]))) else Nx H3) := by
  refine ⟨fun i m H => m = ds.length - i ∧ i ≤ ds.length ∧ ∃ w acc us, w.H = H ∧ w.Ok t ∧ Inn q w1 w ∧ w.H q = some (.lst us) ∧ RL t w acc us ∧ acc.length ≤ i ∧ PostN t q w1 Qd (gather turn (ds.drop i) acc w.h), ⟨ds.length, by simp, Nat.zero_le _, ?_⟩, ?_⟩
  · obtain ⟨i, k⟩ := inn_new k1 hq (.lst [])
    exact ⟨w1.prv q (.lst []), [], [], rfl, k, i, upd_same, rfl, Nat.le_refl _, p⟩
  · rintro i m H ⟨rfl, hi, w, acc, us, rfl, k, inn, hw, rl, hl, pn⟩
    by_cases hlt : i < ds.length
    · obtain ⟨h1, h2⟩ := j.turn w k inn.ext i ds[i] (List.getElem?_eq_getElem hlt)
      refine .inr ⟨h1, fun H' => ∃ w acc us, w.H = H' ∧ w.Ok t ∧ Inn q w1 w ∧ w.H q = some (.lst us) ∧ RL t w acc us ∧ acc.length ≤ i + 1 ∧ PostN t q w1 Qd (gather turn (ds.drop (i + 1)) acc w.h), fun H' p' => ⟨ds.length - (i + 1), by omega, rfl, hlt, p'⟩, fun x H' y => ?_⟩
      obtain ⟨w3, rfl, k3, s3, e3, r3⟩ := h2 x H' y
      have hx : q ∈ w.x := by rw [inn.ex]; exact List.mem_cons_self
      have hq3 : w3.H q = some (.lst us) := (s3.priv q hx).trans hw
      have hd : ds.drop i = ds[i] :: ds.drop (i + 1) := List.drop_eq_getElem_cons hlt
      rw [hd] at pn
      have pn2 : PostN t q w1 Qd (match turn ds[i] w.h with
        | .ok (some y) h' => gather turn (ds.drop (i + 1)) (acc ++ [y]) h'
        | .ok none h' => gather turn (ds.drop (i + 1)) acc h'
        | _ => .bad) := pn
      rw [← e3] at pn2
      have i3 := inn.step s3
      cases ht : turn ds[i] w3.h with
      | ok o h' =>
        rw [ht] at pn2
        refine one w3 ds[i] x o h' _ k3 i3.ext r3 ht (fun w' k' s' e' => ?_) ⟨us, hq3, by rw [s3.ex]; exact hx⟩
        have i4 := i3.step s'
        have hq4 : w'.H q = some (.lst us) := (s'.priv q (by rw [s3.ex]; exact hx)).trans hq3
        have rl4 : RL t w' acc us := (rl.mono t s3.toExt).mono t s'.toExt
        cases o with
        | some y =>
          intro u ru acc' hacc
          rw [hq4] at hacc
          cases hacc
          have hll : us.length < sizeLine := by
            rw [← rl4.length]
            have := j.len
            omega
          refine ⟨hll, ?_⟩
          obtain ⟨i5, k5, e5⟩ := inn_upd k1 k' i4 (.lst (us ++ [u])) hq
          refine ⟨_, acc ++ [y], us ++ [u], rfl, k5, i5, upd_same, (rl4.snoc ru).mono t e5, by rw [List.length_append, List.length_singleton]; omega, ?_⟩
          show PostN t q w1 Qd (gather turn (ds.drop (i + 1)) (acc ++ [y]) w'.h)
          rw [e']
          exact pn2
        | none =>
          refine ⟨w', acc, us, rfl, k', i4, hq4, rl4, by omega, ?_⟩
          rw [e']
          exact pn2
      | ex u h' =>
        rw [ht] at pn2
        exact pn2.elim
      | bad =>
        rw [ht] at pn2
        exact pn2.elim
    · have e : i = ds.length := by omega
      subst e
      rw [List.drop_length] at pn
      exact .inl ⟨j.stop w k inn.ext, pn w us k inn rfl hw (Nat.le_trans hl j.len) rl⟩
end
end VM

set_option Elab.async false
set_option linter.all false
set_option maxRecDepth 100000
set_option maxHeartbeats 4000000
/-! VmK: every checked code is its text: expressions. -/
namespace VM
open PySem L2 PyProof.Rows
section
variable {t : Tx} {T : Tab} {cl : Call} {lv : Nat} {N : List Str} {X : Cx} {sc : Scope} {Wx : WX} {e : Expr} {a b c : E} {x y z : Expr} {pos : Pos} {as : A} {es : List Expr}
theorem gather_ex {turn : D → Hs → Res (Option D)} : ∀ {ds acc : List D} {h : Hs} {u : Xc} {h' : Hs}, gather turn ds acc h = .ex u h' → False
  | [], acc, h, u, h', q => nomatch q
  | d :: ds, acc, h, u, h', q => by
    have q2 : (match turn d h with
      | .ok (some y) h' => gather turn ds (acc ++ [y]) h'
      | .ok none h' => gather turn ds acc h'
      | _ => .bad) = .ex u h' := q
    cases ht : turn d h with
    | ok o h2 =>
      rw [ht] at q2
      cases o with
      | some y => exact gather_ex q2
      | none => exact gather_ex q2
    | ex _ _ =>
      rw [ht] at q2
      cases q2
    | bad =>
      rw [ht] at q2
      cases q2
abbrev compTurn (T : Tab) (cl : Call) (own : List Nat) (tg : G) (test : A) (e : E) (σ : Sl) : D → Hs → Res (Option D) := fun d h2 => (evG T cl tg d (wipeD σ own) h2).bind fun σ2 h3 => (match test with
        | .nil => (Res.ok true h3 : Res Bool)
        | .cons c _ => (ev T cl c σ2 h3).bind fun x h4 => orBad (truth h4 x) fun t => .ok t h4).bind fun t h4 => if t then (ev T cl e σ2 h4).bind fun y h5 => .ok (some y) h5 else .ok none h4
/-- a clause's test -/
def tTs (t : Tx) (T : Tab) (cl : Call) : A → TT
  | .nil => tYes
  | .cons c _ => tT t T cl W0 c
theorem f_comp {elt tg iter : Expr} {ifs : List Expr} {scope : Scope} {own : List (Str × Nat)} {it : I} {g : G} {test : A} {ce : E} (hK : X.K = t.K) (hc : X.calm = true) (hN : X.N.Nodup) (hi : PI X tg iter (tI t T cl Wx it)) (ok : BlkOk X.N X.env.scope scope own)
    (hg : ∀ (s : Shared) (H : Hp) (C : Addr) (cl' : List (Str × Addr)) (fp : List Addr), PG (X.blk s H scope (compEnvC scope cl' C X.env) fp) tg (tG t T cl W0 g)) (ht : ∀ (s : Shared) (H : Hp) (C : Addr) (cl' : List (Str × Addr)) (fp : List Addr), PTs (X.blk s H scope (compEnvC scope cl' C X.env) fp) ifs (tTs t T cl test))
    (he : ∀ (s : Shared) (H : Hp) (C : Addr) (cl' : List (Str × Addr)) (fp : List Addr), PE (X.blk s H scope (compEnvC scope cl' C X.env) fp) elt (tE t T cl W0 ce)) (hn : ∀ j ∈ g.names, j ∈ own.map (·.2)) (σ : L2.St) (H : Hp) (Q : VK) :
    tF t T cl Wx (.comp (own.map (·.2)) g it test ce) σ H Q → tLc (tI t T cl Wx it) (tG t T cl W0 g) (tTs t T cl test) (tE t T cl W0 ce) (own.map (·.2)) σ H Q := by
  rintro ⟨w, σd, e0, k, gd, p⟩
  refine ⟨w, σd, e0, k, gd, ?_⟩
  have p1 : PostF t Wx σ w Q ((evI T cl it σd w.h).bind fun ds h1 => gather (compTurn T cl (own.map (·.2)) g test ce σd) ds [] h1) := by cases test <;> exact p
  cases q : evI T cl it σd w.h with
  | ex u h' =>
    rw [q] at p1
    exact p1
  | bad =>
    rw [q] at p1
    exact p1
  | ok ds h' =>
    rw [q] at p1
    have p2 : PostF t Wx σ w Q (gather (compTurn T cl (own.map (·.2)) g test ce σd) ds [] h') := p1
    intro w1 J k1 s1 e1 j q0 hD
    have pn : PostN t q0 w1 (Q (.ref q0)) (gather (compTurn T cl (own.map (·.2)) g test ce σd) ds [] w1.h) := by
      rw [e1]
      cases q2 : gather (compTurn T cl (own.map (·.2)) g test ce σd) ds [] h' with
      | ok ds' h2 =>
        rw [q2] at p2
        intro wn vs kn inn en hn' ln rl
        obtain ⟨k3, s3, x3⟩ := inn_out (o := .lst vs) k1 kn inn hD
        have := p2 _ q0 vs k3 (s1.trans s3) en dele_same ln (rl.mono t x3)
        rw [show upd (dele wn.H q0) q0 (.lst vs) = wn.H from upd_dele hn'] at this
        exact this
      | ex u h2 => exact (gather_ex q2).elim
      | bad =>
        rw [q2] at p2
        exact p2
    refine lc_turns (Qd := Q (.ref q0)) k1 j hD pn ?_
    intro w2 d v o h2 Nx k2 x2 r2 hturn hnext hacc
    have gd2 := (gd.mono s1.toExt).mono x2
    have ht2 : (evG T cl g d (wipeD σd (own.map (·.2))) w2.h).bind _ = .ok o h2 := hturn
    refine ⟨w2, _, d, rfl, k2, gd2.wipe (own.map (·.2)), r2, ?_⟩
    cases qg : evG T cl g d (wipeD σd (own.map (·.2))) w2.h with
    | ex u h3 =>
      rw [qg] at ht2
      cases ht2
    | bad =>
      rw [qg] at ht2
      cases ht2
    | ok σ2d h3 =>
      rw [qg] at ht2
      intro w3 σ3 k3 s3 e3 g3 l3 a3
      refine ⟨wipe_eq hn l3 a3, ?_⟩
      -- the element behind a test that holds
      have elem : ∀ (w4 : Wd) (h4 : Hs), w4.Ok t → Step w3 w4 → w4.h = h4 → ((ev T cl ce σ2d h4).bind fun y h5 => (.ok (some y) h5 : Res (Option D))) = .ok o h2 → tE t T cl W0 ce σ3 w4.H fun y H4 => ∃ acc, H4 q0 = some (.lst acc) ∧ acc.length < sizeLine ∧ Nx (upd H4 q0 (.lst (acc ++ [y]))) := by
        intro w4 h4 k4 s4 e4 hev
        refine ⟨w4, σ2d, rfl, k4, g3.mono s4.toExt, ?_⟩
        rw [e4]
        cases qe : ev T cl ce σ2d h4 with
        | ex u h5 =>
          rw [qe] at hev
          cases hev
        | bad =>
          rw [qe] at hev
          cases hev
        | ok y h5 =>
          rw [qe] at hev
          cases hev
          intro w5 u k5 s5 e5 r5
          have st := (s3.trans s4).trans s5
          obtain ⟨acc, ha, hx⟩ := hacc
          have h1 := hnext w5 k5 st e5 u r5 acc ((st.priv q0 hx).trans ha)
          exact ⟨acc, (st.priv q0 hx).trans ha, h1.1, h1.2⟩
      cases test with
      | nil =>
        exact iteT (B := Nx w3.H) (elem w3 h3 k3 (Step.refl _) e3 ht2)
      | cons tc _ =>
        have ht3 : (evT T cl tc σ2d h3).bind (fun t h4 => if t then (ev T cl ce σ2d h4).bind fun y h5 => (.ok (some y) h5 : Res (Option D)) else .ok none h4) = .ok o h2 := ht2
        refine ⟨w3, σ2d, rfl, k3, g3, ?_⟩
        rw [e3]
        cases qt : evT T cl tc σ2d h3 with
        | ex u h4 =>
          rw [qt] at ht3
          cases ht3
        | bad =>
          rw [qt] at ht3
          cases ht3
        | ok bt h4 =>
          rw [qt] at ht3
          intro w4 b k4 s4 e4 eb
          have eb' : bt = b := eb
          subst eb'
          cases bt with
          | true =>
            rw [if_pos rfl]
            exact elem w4 h4 k4 s4 e4 ht3
          | false =>
            rw [if_neg Bool.false_ne_true]
            have ht4 : (.ok none h4 : Res (Option D)) = .ok o h2 := ht3
            cases ht4
            exact hnext w4 k4 (s3.trans s4) e4
/-! ### a block's scope -/
theorem lookup_mapF {f : Str × NameKind → Str × NameKind} (hf : ∀ n k, f (n, k) = (n, k) ∨ (k = .free ∧ f (n, k) = (n, .cell))) : ∀ {names : List (Str × NameKind)} {x : Str}, names.lookup x = some .free →
    (names.map f).lookup x = some .free ∨ (names.map f).lookup x = some .cell
  | [], x, h => by simp at h
  | (n, k) :: r, x, h => by
    have ih := @lookup_mapF f hf r x
    rw [lookup_cons'] at h
    rw [List.map_cons]
    by_cases e : x = n
    · rw [if_pos e] at h
      have ek : k = .free := Option.some.inj h
      rcases hf n k with q | ⟨_, q⟩
      · rw [q, lookup_cons', if_pos e, ek]
        exact .inl rfl
      · rw [q, lookup_cons', if_pos e]
        exact .inr rfl
    · rw [if_neg e] at h
      rcases hf n k with q | ⟨_, q⟩
      · rw [q, lookup_cons', if_neg e]
        exact ih h
      · rw [q, lookup_cons', if_neg e]
        exact ih h
theorem lookup_relF {sc : Scope} {names : List (Str × NameKind)} {x : Str} (h : names.lookup x = some .free) :
    (names.map fun (n, k) => if (k == NameKind.free && sc.kind == .function && sc.names.lookup n == some .cell) then (n, NameKind.cell) else (n, k)).lookup x = some .free ∨
    (names.map fun (n, k) => if (k == NameKind.free && sc.kind == .function && sc.names.lookup n == some .cell) then (n, NameKind.cell) else (n, k)).lookup x = some .cell := by
  refine lookup_mapF (fun n k => ?_) h
  show (if (k == NameKind.free && sc.kind == .function && sc.names.lookup n == some .cell) then (n, NameKind.cell) else (n, k)) = (n, k) ∨ (k = .free ∧ (if (k == NameKind.free && sc.kind == .function && sc.names.lookup n == some .cell) then (n, NameKind.cell) else (n, k)) = (n, .cell))
  by_cases c : (k == NameKind.free && sc.kind == .function && sc.names.lookup n == some .cell) = true
  · rw [if_pos c]
    refine .inr ⟨?_, rfl⟩
    cases k <;> first | rfl | (simp at c)
  · rw [if_neg c]
    exact .inl rfl
theorem sc_blk {scope : Scope} {s : Shared} {H : Hp} {C : Addr} {cl' : List (Str × Addr)} {fp : List Addr} : ScOk (X.blk s H scope (compEnvC scope cl' C X.env) fp) scope := by
  have keep : ∀ {x : Str} {k : NameKind}, k ≠ .free → scope.names.lookup x = some k → (compEnvC scope cl' C X.env).scope.names.lookup x = some k := fun {x k} hk h => lookup_relS_keep (sc := X.env.scope) hk h
  have free : ∀ {x : Str}, scope.names.lookup x = some .free → (compEnvC scope cl' C X.env).scope.names.lookup x = some .free ∨ (compEnvC scope cl' C X.env).scope.names.lookup x = some .cell := fun {x} h => lookup_relF (sc := X.env.scope) h
  refine ⟨fun x h => ?_, fun x h => ?_, fun x h => ?_, fun x h => ?_, fun x h => ?_⟩
  · rcases h with h | h
    · exact .inl (keep (by decide) h)
    · exact (free h).symm
  · unfold visB at h
    cases q : scope.names.lookup x with
    | none =>
      rw [q] at h
      cases h
    | some k =>
      rw [q] at h
      cases k with
      | «local» => exact .inl (keep (by decide) q)
      | cell => exact .inr (.inl (keep (by decide) q))
      | free =>
        rcases free q with z | z
        · exact .inr (.inr z)
        · exact .inr (.inl z)
      | _ => cases h
  · unfold glB at h
    cases q : scope.names.lookup x with
    | none =>
      rw [q] at h
      cases h
    | some k =>
      rw [q] at h
      cases k with
      | globalImplicit => exact keep (by decide) q
      | _ => cases h
  · unfold lclB at h
    cases q : scope.names.lookup x with
    | none =>
      rw [q] at h
      cases h
    | some k =>
      rw [q] at h
      cases k with
      | «local» => exact keep (by decide) q
      | _ => cases h
  · unfold locB at h
    cases q : scope.names.lookup x with
    | none =>
      rw [q] at h
      cases h
    | some k =>
      rw [q] at h
      cases k with
      | «local» => exact ⟨.inl (keep (by decide) q), .inr (keep (by decide) q)⟩
      | cell => exact ⟨.inr (keep (by decide) q), .inl (by show (scope.names.lookup x == some .cell) = true; rw [q]; rfl)⟩
      | _ => cases h
theorem Txt.blk (B : Txt t T cl lv X) {scope : Scope} {s : Shared} {H : Hp} {env : Env} {fp : List Addr} : Txt t T cl lv (X.blk s H scope env fp) := ⟨B.K, B.calm, B.nd, B.room, B.fn, B.me, B.mkr, B.cls, B.noat, B.nm, B.blt, B.cgl, B.kit, B.gl⟩
theorem isG_ok {x n : Str} (S : ScOk X sc) (h : isG sc x n = true) : x = n ∧ Gl X x := by
  obtain ⟨h1, h2⟩ := Bool.and_eq_true_iff.mp h
  exact ⟨of_decide_eq_true h1, S.gl x h2⟩
theorem band {p q : Bool} (h : (p && q) = true) : p = true ∧ q = true := Bool.and_eq_true_iff.mp h
theorem dec {p : Prop} [Decidable p] (h : decide p = true) : p := of_decide_eq_true h
theorem notB {p : Bool} (h : (!p) = true) : p = false := by
  cases p with
  | true => cases h
  | false => rfl
theorem hu1 (B : Txt t T cl lv X) : X.A.units + 65 < cLine := by
  have := B.room.un
  omega
theorem hu0 (B : Txt t T cl lv X) : X.A.units + 1 < cLine := by
  have := B.room.un
  omega
end
end VM

set_option Elab.async false
set_option linter.all false
set_option maxRecDepth 100000
set_option maxHeartbeats 4000000
/-! VmHb: cuts, isinstance, all, any, repetition, names of the module. -/
namespace VM
open PySem L2 PyProof.Rows
section
variable {t : Tx} {T : Tab} {cl : Call} {lv : Nat} {N : List Str} {X : Cx} {sc : Scope} {Wx : WX} {e : Expr} {a b c lo hi : E} {x y z : Expr} {pos : Pos} {as : A} {es : List Expr}
theorem RL.drop {w : Wd} : ∀ {ds : List D} {vs : List V} (n : Nat), RL t w ds vs → RL t w (ds.drop n) (vs.drop n)
  | ds, vs, 0, h => by rw [List.drop_zero, List.drop_zero]; exact h
  | [], vs, n + 1, h => by
    rw [show vs = [] from h]
    exact (rfl : ([] : List V).drop (n + 1) = [])
  | d :: ds, vs, n + 1, h => by
    obtain ⟨v, r, rfl, h1, h2⟩ := (show ∃ v r, vs = v :: r ∧ R t w d v ∧ RL t w ds r from h)
    exact RL.drop n h2
theorem RL.take {w : Wd} : ∀ {ds : List D} {vs : List V} (n : Nat), RL t w ds vs → RL t w (ds.take n) (vs.take n)
  | ds, vs, 0, h => (rfl : vs.take 0 = [])
  | [], vs, n + 1, h => by
    rw [show vs = [] from h]
    exact (rfl : ([] : List V).take (n + 1) = [])
  | d :: ds, vs, n + 1, h => by
    obtain ⟨v, r, rfl, h1, h2⟩ := (show ∃ v r, vs = v :: r ∧ R t w d v ∧ RL t w ds r from h)
    exact ⟨v, r.take n, rfl, h1, RL.take n h2⟩
theorem RL.cut {w : Wd} {ds : List D} {vs : List V} (l u : Option Int) (h : RL t w ds vs) : RL t w (cutD ds l u) (cutV vs l u) := by
  unfold cutD cutV
  rw [h.length]
  exact RL.take _ (RL.drop _ h)
theorem cutD_len (ds : List D) (l u : Option Int) : (cutD ds l u).length ≤ ds.length := by
  unfold cutD
  rw [List.length_take, List.length_drop]
  omega
/-- an edge -/
def tPt (t : Tx) (T : Tab) (cl : Call) (Wx : WX) (fl : Bool) (c : E) : TO := if fl then tPart (tE t T cl Wx c) else tNoPart
theorem isNonE_eq {c : E} (h : isNonE c = true) : c = .non := by cases c <;> first | rfl | cases h
theorem po_of {fl : Bool} {l : Option Expr} (h : (match l with
    | none => !fl && isNonE lo
    | some y => fl && chkE T N sc lo y) = true) (he : ∀ y, chkE T N sc lo y = true → PE X y (tE t T cl Wx lo)) : PO X l (tPt t T cl Wx fl lo) ∧ (fl = false → lo = .non) := by
  cases l with
  | none =>
    obtain ⟨h1, h2⟩ := Bool.and_eq_true_iff.mp h
    cases fl with
    | true => cases h1
    | false => exact ⟨po_none, fun _ => isNonE_eq h2⟩
  | some y =>
    obtain ⟨h1, h2⟩ := Bool.and_eq_true_iff.mp h
    cases fl with
    | true => exact ⟨po_some (he y h2), fun q => by cases q⟩
    | false => cases h1
theorem tPt_of {w : Wd} {σd : Sl} {σ : L2.St} {fl : Bool} {Q : Option Int → Hp → Prop} {RR : Wd → Option Int → Prop} (k : w.Ok t) (g : Good t w σd σ) (hn : fl = false → lo = .non)
    {β : Type} {RB : Wd → D → β → Prop} (h : ∃ (P : Option Int → Wd → Prop), Post t Wx σ w (R t) (fun v H1 => ∃ w1 d, w1.H = H1 ∧ w1.Ok t ∧ Step w w1 ∧ R t w1 d v ∧ ∃ o, partD fl d = some o ∧ P o w1) (ev T cl lo σd w.h) ∧ ∀ o w1, w1.Ok t → Step w w1 → P o w1 → Q o w1.H) : tPt t T cl Wx fl lo σ w.H Q := by
  obtain ⟨P, p, hq⟩ := h
  cases fl with
  | true =>
    refine ⟨w, σd, rfl, k, g, p.imp ?_⟩
    rintro v H1 ⟨w1, d, rfl, k1, s1, r1, o, e1, p1⟩
    cases d with
    | int i =>
      cases e1
      exact ⟨i, r1, hq _ w1 k1 s1 p1⟩
    | _ => cases e1
  | false =>
    have := hn rfl
    subst this
    obtain ⟨w1, d, e0, k1, s1, r1, o, e1, p1⟩ := (show _ from p w .non k (Step.refl w) rfl rfl)
    cases r2 : d with
    | non =>
      subst r2
      cases e1
      have z := hq none w1 k1 s1 p1
      rw [e0] at z
      exact z
    | bl _ => subst r2; cases e1
    | int _ => subst r2; cases e1
    | str _ => subst r2; cases e1
    | ref _ => subst r2; cases e1
    | tup _ => subst r2; cases e1
    | lst _ => subst r2; cases e1
    | rl _ => subst r2; cases e1
    | ins _ _ => subst r2; cases e1
/-- a cut of a tuple -/
theorem r_slice {fl fh : Bool} {l u : Option Expr} {p2 : Pos} (hK : X.K = t.K) (ha : PE X x (tE t T cl Wx a)) (hl : PO X l (tPt t T cl Wx fl lo)) (hu : PO X u (tPt t T cl Wx fh hi)) (nl : fl = false → lo = .non) (nh : fh = false → hi = .non) :
    PE X (.Subscript x (.Slice l u none p2) pos) (tE t T cl Wx (.slice fl fh a lo hi)) :=
  PEimp (pe_slice sl_tupA ha hl hu) fun σ H Q ⟨w, σd, e, k, g, p⟩ => by
    refine ⟨w, σd, e, k, g, (Post.bind p).imp ?_⟩
    rintro v1 H1 ⟨w1, d1, rfl, k1, s1, r1, p1⟩
    refine tPt_of (RR := fun _ _ => True) (RB := fun _ _ (_ : Unit) => True) k1 (g.mono s1.toExt) nl ⟨fun o w2 => Step w1 w2 ∧ w2.Ok t ∧ Post t Wx σ w2 (R t) Q ((ev T cl hi σd w2.h).bind fun z h3 => orBad (partD fh z) fun u => orBad (sliceD d1 o u) fun r => .ok r h3), (Post.bind p1).imp ?_, ?_⟩
    · rintro v2 H2 ⟨w2, d2, rfl, k2, s2, r2, p2⟩
      obtain ⟨o, e1, p3⟩ := p2.orBad
      exact ⟨w2, d2, rfl, k2, s2, r2, o, e1, s2, k2, p3⟩
    · rintro o w2 k2 _ ⟨s2, _, p3⟩
      refine tPt_of (RR := fun _ _ => True) (RB := fun _ _ (_ : Unit) => True) k2 (g.mono (s1.trans s2).toExt) nh ⟨fun o2 w3 => Post t Wx σ w3 (R t) Q (orBad (sliceD d1 o o2) fun r => .ok r w3.h), (Post.bind p3).imp ?_, ?_⟩
      · rintro v3 H3 ⟨w3, d3, rfl, k3, s3, r3, p4⟩
        obtain ⟨o2, e2, p5⟩ := p4.orBad
        exact ⟨w3, d3, rfl, k3, s3, r3, o2, e2, p5⟩
      · rintro o2 w3 k3 s3 p5
        obtain ⟨r, e2, p6⟩ := p5.orBad
        cases d1 with
        | tup ds =>
          cases e2
          obtain ⟨q, vs, rfl, hq, z, rl⟩ := (show ∃ a vs, v1 = .ref a ∧ Fz w3 a (.tup vs) ∧ ds.length ≤ sizeLine ∧ RL t w3 ds vs from r1.mono t (s2.trans s3).toExt)
          refine ⟨q, vs, rfl, .inl (.inl hq.1), fun hw => ?_, fun _ l' hl' => ?_⟩
          · have ec : cutD ds o o2 = ds := by
              unfold cutD
              rw [rl.length, hw.1, hw.2, List.drop_zero, Nat.sub_zero, ← rl.length, List.take_length]
            rw [ec] at p6
            exact now p6 k3 ⟨q, vs, rfl, hq, z, rl⟩
          · exact Ret.tup (fun w' v a b c d => p6 w' v a b c d) k3 (Nat.le_trans (cutD_len ds o o2) z) (rl.cut o o2) hl'
        | _ => cases e2
theorem lstI_of {w : Wd} {d : D} {v : V} {ds : List D} (k : w.Ok t) (h : R t w d v) (e : lstI w.h d = some ds) : ∃ a vs, v = .ref a ∧ SqL t.K w.H a vs ∧ ds.length ≤ sizeLine ∧ RL t w ds vs := by
  cases d with
  | lst xs =>
    cases e
    obtain ⟨a, vs, e1, q, z, r⟩ := (show ∃ a vs, v = .ref a ∧ Fz w a (.lst vs) ∧ ds.length ≤ sizeLine ∧ RL t w ds vs from h)
    exact ⟨a, vs, e1, .inl (.inl q.1), z, r⟩
  | rl xs =>
    cases e
    obtain ⟨a, vs, e1, q, z, r⟩ := (show ∃ a vs, v = .ref a ∧ QL t w a vs ∧ ds.length ≤ sizeLine ∧ RL t w ds vs from h)
    exact ⟨a, vs, e1, q.sq t, z, r⟩
  | ref n =>
    obtain ⟨a, e1, hn⟩ := (show ∃ a, v = .ref a ∧ w.l[n]? = some a from h)
    have e2 : (match w.h[n]? with
      | some (.lst ds) => some ds
      | _ => none) = some ds := e
    cases ho : w.h[n]? with
    | none => rw [ho] at e2; cases e2
    | some ob =>
      rw [ho] at e2
      cases ob with
      | lst xs =>
        cases e2
        obtain ⟨vs, h1, z, rl⟩ := (show ∃ vs, w.H a = some (.lst vs) ∧ ds.length ≤ sizeLine ∧ RL t w ds vs from k.obj n _ a ho hn)
        exact ⟨a, vs, e1, .inl (.inl h1), z, rl⟩
      | dead => cases e2
      | ins _ _ => cases e2
      | dK _ => cases e2
      | dT _ => cases e2
  | _ => cases e
/-- a cut of a list -/
theorem f_slice {fl fh : Bool} {l u : Option Expr} {p2 : Pos} (hK : X.K = t.K) (ha : PE X x (tE t T cl Wx a)) (hl : PO X l (tPt t T cl Wx fl lo)) (hu : PO X u (tPt t T cl Wx fh hi)) (nl : fl = false → lo = .non) (nh : fh = false → hi = .non) :
    PE X (.Subscript x (.Slice l u none p2) pos) (tF t T cl Wx (.slice fl fh a lo hi)) :=
  PEimp (pe_slice sl_list ha hl hu) fun σ H Q ⟨w, σd, e, k, g, p⟩ => by
    refine ⟨w, σd, e, k, g, (PostF.of p).imp ?_⟩
    rintro v1 H1 ⟨w1, d1, rfl, k1, s1, r1, p1⟩
    refine tPt_of (RR := fun _ _ => True) (RB := fun _ _ (_ : Unit) => True) k1 (g.mono s1.toExt) nl ⟨fun o w2 => Step w1 w2 ∧ w2.Ok t ∧ PostF t Wx σ w2 Q ((ev T cl hi σd w2.h).bind fun z h3 => orBad (partD fh z) fun u => orBad (lstI h3 d1) fun ds => .ok (cutD ds o u) h3), (PostF.of p1).imp ?_, ?_⟩
    · rintro v2 H2 ⟨w2, d2, rfl, k2, s2, r2, p2⟩
      obtain ⟨o, e1, p3⟩ := p2.orBad
      exact ⟨w2, d2, rfl, k2, s2, r2, o, e1, s2, k2, p3⟩
    · rintro o w2 k2 _ ⟨s2, _, p3⟩
      refine tPt_of (RR := fun _ _ => True) (RB := fun _ _ (_ : Unit) => True) k2 (g.mono (s1.trans s2).toExt) nh ⟨fun o2 w3 => PostF t Wx σ w3 Q (orBad (lstI w3.h d1) fun ds => .ok (cutD ds o o2) w3.h), (PostF.of p3).imp ?_, ?_⟩
      · rintro v3 H3 ⟨w3, d3, rfl, k3, s3, r3, p4⟩
        obtain ⟨o2, e2, p5⟩ := p4.orBad
        exact ⟨w3, d3, rfl, k3, s3, r3, o2, e2, p5⟩
      · rintro o2 w3 k3 s3 p5
        obtain ⟨ds, e2, p6⟩ := p5.orBad
        obtain ⟨q, vs, rfl, hq, z, rl⟩ := lstI_of k3 (r1.mono t (s2.trans s3).toExt) e2
        exact ⟨q, vs, rfl, by rw [hK]; exact hq, fun p hp => p6 w3 p _ k3 (Step.refl _) rfl hp (Nat.le_trans (cutD_len ds o o2) z) (rl.cut o o2)⟩
/-! ### all, any -/
theorem bools_of {w : Wd} : ∀ {ds : List D} {vs : List V} {bs : List Bool}, RL t w ds vs → boolsD ds = some bs → vs = bs.map V.bl
  | [], vs, bs, h, e => by
    cases e
    exact h
  | d :: ds, vs, bs, h, e => by
    obtain ⟨v, r, rfl, h1, h2⟩ := (show ∃ v r, vs = v :: r ∧ R t w d v ∧ RL t w ds r from h)
    cases d with
    | bl b =>
      have e2 : (boolsD ds).map (b :: ·) = some bs := e
      cases q : boolsD ds with
      | none => rw [q] at e2; cases e2
      | some cs =>
        rw [q] at e2
        cases e2
        rw [bools_of h2 q, show v = .bl b from h1]
        rfl
    | _ => cases e
theorem boot_all : bootBuiltins "all" = some (.builtin "all") := by decide +kernel
theorem boot_any : bootBuiltins "any" = some (.builtin "any") := by decide +kernel
theorem boot_isi : bootBuiltins "isinstance" = some (.builtin "isinstance") := by decide +kernel
theorem r_all {p : Pos} (hK : X.K = t.K) (hc : X.calm = true) (hg : Gl X "all") (hm : X.mg "all" = none) (hs : starEach [x] X.env = (false, eval x X.env) :: starEach [] X.env) (ha : PE X x (tE t T cl Wx a)) : PE X (.Call (.Name "all" p) [x] [] pos) (tE t T cl Wx (.all a)) :=
  PEimp (pe_callB (cr_all hc) hg hm boot_all (pa_cons ha pa_nil hs) (by decide) (by decide) hs) fun σ H Q ⟨w, σd, e, k, g, p⟩ => by
    refine ⟨w, σd, e, k, g, (Post.bind p).imp ?_⟩
    rintro v1 H1 ⟨w1, d, rfl, k1, s1, r1, p1⟩
    obtain ⟨bs, e1, p2⟩ := p1.orBad
    obtain ⟨ds, e2, e3⟩ := Option.bind_eq_some_iff.mp e1
    obtain ⟨q, vs, rfl, hq, z, rl⟩ := lstI_of k1 r1 e2
    rw [bools_of rl e3] at hq
    exact ⟨q, bs, rfl, by rw [hK]; exact hq, now p2 k1 rfl⟩
theorem r_any {p : Pos} (hK : X.K = t.K) (hc : X.calm = true) (hg : Gl X "any") (hm : X.mg "any" = none) (hs : starEach [x] X.env = (false, eval x X.env) :: starEach [] X.env) (ha : PE X x (tE t T cl Wx a)) : PE X (.Call (.Name "any" p) [x] [] pos) (tE t T cl Wx (.any a)) :=
  PEimp (pe_callB (cr_any hc) hg hm boot_any (pa_cons ha pa_nil hs) (by decide) (by decide) hs) fun σ H Q ⟨w, σd, e, k, g, p⟩ => by
    refine ⟨w, σd, e, k, g, (Post.bind p).imp ?_⟩
    rintro v1 H1 ⟨w1, d, rfl, k1, s1, r1, p1⟩
    obtain ⟨bs, e1, p2⟩ := p1.orBad
    obtain ⟨ds, e2, e3⟩ := Option.bind_eq_some_iff.mp e1
    obtain ⟨q, vs, rfl, hq, z, rl⟩ := lstI_of k1 r1 e2
    rw [bools_of rl e3] at hq
    exact ⟨q, bs, rfl, by rw [hK]; exact hq, now p2 k1 rfl⟩
/-! ### names of the module -/
theorem r_glo {kk : Nat} {n : Str} {p : Pos} (B : Txt t T cl lv X) (h : (T.gls[kk]?).map (·.1) = some n) (hg : Gl X n) (hd : dbg n = false) : PE X (.Name n p) (tE t T cl Wx (.glo kk)) := by
  obtain ⟨nd, e1, e2⟩ := Option.map_eq_some_iff.mp h
  obtain ⟨x, d⟩ := nd
  subst e2
  obtain ⟨u, v, hm, r, hr⟩ := B.gl kk x d e1
  refine PEimp (pe_glob hg hm r (dbg1 hd)) fun σ H Q ⟨w, σd, e, k, g, p⟩ => ?_
  subst e
  have p2 : Post t Wx σ w (R t) Q (orBad (T.gls[kk]?) fun nd => .ok nd.2 w.h) := p
  rw [e1] at p2
  exact now p2 k (hr w)
/-! ### x * n -/
theorem mutI_of {w : Wd} {d : D} {v : V} {ds : List D} (k : w.Ok t) (h : R t w d v) (e : mutI w.h d = some ds) : ∃ a vs, v = .ref a ∧ w.H a = some (.lst vs) ∧ RL t w ds vs := by
  cases d with
  | lst xs =>
    cases e
    obtain ⟨a, vs, e1, q, z, r⟩ := (show ∃ a vs, v = .ref a ∧ Fz w a (.lst vs) ∧ ds.length ≤ sizeLine ∧ RL t w ds vs from h)
    exact ⟨a, vs, e1, q.1, r⟩
  | ref n =>
    obtain ⟨a, e1, hn⟩ := (show ∃ a, v = .ref a ∧ w.l[n]? = some a from h)
    have e2 : (match w.h[n]? with
      | some (.lst ds) => some ds
      | _ => none) = some ds := e
    cases ho : w.h[n]? with
    | none => rw [ho] at e2; cases e2
    | some ob =>
      rw [ho] at e2
      cases ob with
      | lst xs =>
        cases e2
        obtain ⟨vs, h1, z, rl⟩ := (show ∃ vs, w.H a = some (.lst vs) ∧ ds.length ≤ sizeLine ∧ RL t w ds vs from k.obj n _ a ho hn)
        exact ⟨a, vs, e1, h1, rl⟩
      | dead => cases e2
      | ins _ _ => cases e2
      | dK _ => cases e2
      | dT _ => cases e2
  | _ => cases e
theorem RL.rep {w : Wd} {ds : List D} {vs : List V} (h : RL t w ds vs) : ∀ n : Nat, RL t w (List.replicate n ds).flatten (List.replicate n vs).flatten
  | 0 => rfl
  | n + 1 => by
    rw [List.replicate_succ, List.replicate_succ, List.flatten_cons, List.flatten_cons]
    exact h.app (RL.rep h n)
theorem rep_len {α : Type} (ds : List α) : ∀ n : Nat, (List.replicate n ds).flatten.length = ds.length * n
  | 0 => rfl
  | n + 1 => by
    rw [List.replicate_succ, List.flatten_cons, List.length_append, rep_len ds n, Nat.mul_succ]
    omega
theorem f_rep (ha : PE X x (tE t T cl Wx a)) (hb : PE X y (tE t T cl Wx b)) : PE X (.BinOp x .Mult y pos) (tF t T cl Wx (.rep a b)) :=
  PEimp (pe_op op_rep ha hb) fun σ H Q ⟨w, σd, e, k, g, p⟩ => by
    refine ⟨w, σd, e, k, g, (PostF.of p).imp ?_⟩
    rintro v1 H1 ⟨w1, d1, rfl, k1, s1, r1, p1⟩
    refine ⟨w1, σd, rfl, k1, g.mono s1.toExt, (PostF.of p1).imp ?_⟩
    rintro v2 H2 ⟨w2, d2, rfl, k2, s2, r2, p2⟩
    obtain ⟨ds, e1, p3⟩ := p2.orBad
    obtain ⟨es, e2, p4⟩ := p3.orBad
    obtain ⟨q, vs, rfl, hq, rl⟩ := mutI_of k2 (r1.mono t s2.toExt) e1
    cases d2 with
    | int i =>
      have e3 : (if 0 ≤ i ∧ i < 2 ^ 62 ∧ ds.length * i.toNat ≤ lim then some (List.replicate i.toNat ds).flatten else none) = some es := e2
      by_cases hc : 0 ≤ i ∧ i < 2 ^ 62 ∧ ds.length * i.toNat ≤ lim
      · rw [if_pos hc] at e3
        cases e3
        refine ⟨q, i, vs, rfl, r2, hq, by omega, by omega, by rw [← rl.length]; exact Nat.le_trans hc.2.2 lim_le, fun p hp => ?_⟩
        exact p4 w2 p _ k2 (Step.refl _) rfl hp (by rw [rep_len]; exact Nat.le_trans hc.2.2 lim_le) (rl.rep _)
      · rw [if_neg hc] at e3
        cases e3
    | _ => cases e2
end
end VM

set_option Elab.async false
set_option linter.all false
set_option maxRecDepth 100000
set_option maxHeartbeats 4000000
/-! VmHc: isinstance. -/
namespace VM
open PySem L2 PyProof.Rows
section
variable {t : Tx} {T : Tab} {cl : Call} {lv : Nat} {N : List Str} {X : Cx} {sc : Scope} {Wx : WX} {e : Expr} {a b c lo hi : E} {x y z : Expr} {pos : Pos} {as : A} {es : List Expr}
/-- a type as a value -/
def tyV (t : Tx) : Ty → V
  | .own c => .ref (t.cls c)
  | .int => .ty "int"
  | .bool => .ty "bool"
  | .str => .ty "str"
  | .list => .ty "list"
  | .tuple => .ty "tuple"
  | .dict => .ty "dict"
  | .value_error => .ty "ValueError"
def tyU (t : Tx) : Ty → Value
  | .own c => .ref (t.cls c)
  | .int => .type "int"
  | .bool => .type "bool"
  | .str => .type "str"
  | .list => .type "list"
  | .tuple => .type "tuple"
  | .dict => .type "dict"
  | .value_error => .type "ValueError"
theorem ty_clsV (q : Ty) : ClsV (tyV t q) (tyU t q) := by cases q <;> constructor
theorem ty_rel (q : Ty) : RelV (tyV t q) (tyU t q) := by cases q <;> rfl
theorem bi_int : bootBuiltins "int" = some (.type "int") := by decide +kernel
theorem bi_bool : bootBuiltins "bool" = some (.type "bool") := by decide +kernel
theorem bi_str : bootBuiltins "str" = some (.type "str") := by decide +kernel
theorem bi_list : bootBuiltins "list" = some (.type "list") := by decide +kernel
theorem bi_tuple : bootBuiltins "tuple" = some (.type "tuple") := by decide +kernel
theorem bi_dict : bootBuiltins "dict" = some (.type "dict") := by decide +kernel
theorem glB_ok (S : ScOk X sc) {n : Str} (h : glB sc n = true) : Gl X n := S.gl n h
theorem pe_ty (B : Txt t T cl lv X) (S : ScOk X sc) {q : Ty} {e : Expr} (h : tyChk T sc q e = true) : PE X e (tC (tyV t q)) := by
  cases e with
  | Name n p =>
    cases q with
    | own c =>
      obtain ⟨h1, h2⟩ := band h
      obtain ⟨h2, h3⟩ := band h2
      obtain ⟨ct, e1, e2⟩ := Option.map_eq_some_iff.mp (dec h1)
      subst e2
      exact pe_glob (S.gl _ h2) (B.cgl c ct e1) rfl (dbg1 (notB h3))
    | int =>
      obtain ⟨h1, h2⟩ := band h
      have e1 := dec h1
      subst e1
      exact pe_bltn (S.gl _ h2) (B.blt _ (by decide)) bi_int rfl
    | bool =>
      obtain ⟨h1, h2⟩ := band h
      have e1 := dec h1
      subst e1
      exact pe_bltn (S.gl _ h2) (B.blt _ (by decide)) bi_bool rfl
    | str =>
      obtain ⟨h1, h2⟩ := band h
      have e1 := dec h1
      subst e1
      exact pe_bltn (S.gl _ h2) (B.blt _ (by decide)) bi_str rfl
    | list =>
      obtain ⟨h1, h2⟩ := band h
      have e1 := dec h1
      subst e1
      exact pe_bltn (S.gl _ h2) (B.blt _ (by decide)) bi_list rfl
    | tuple =>
      obtain ⟨h1, h2⟩ := band h
      have e1 := dec h1
      subst e1
      exact pe_bltn (S.gl _ h2) (B.blt _ (by decide)) bi_tuple rfl
    | dict =>
      obtain ⟨h1, h2⟩ := band h
      have e1 := dec h1
      subst e1
      exact pe_bltn (S.gl _ h2) (B.blt _ (by decide)) bi_dict rfl
    | value_error => cases h
  | _ => cases q <;> cases h
theorem ty_name {q : Ty} {e : Expr} (h : tyChk T sc q e = true) : ∃ n p, e = .Name n p := by
  cases e with
  | Name n p => exact ⟨n, p, rfl⟩
  | _ => cases q <;> cases h
theorem kit_bb : ∀ n ∈ tyAll, ∀ q : Ty, (∀ c, q ≠ .own c) → q ≠ .value_error → ∀ (t : Tx), PySem.W.kitOne t.K (.type n) (tyU t q) = some (match q with
    | .int => n == "int" || n == "bool"
    | .bool => n == "bool"
    | .str => n == "str"
    | .list => n == "list"
    | .tuple => n == "tuple"
    | .dict => n == "dict"
    | _ => false) := by
  intro n hn q h1 h2 t
  have hn2 : n = "NoneType" ∨ n = "int" ∨ n = "bool" ∨ n = "str" ∨ n = "list" ∨ n = "tuple" ∨ n = "dict" := by
    simpa [tyAll] using hn
  cases q with
  | own c => exact absurd rfl (h1 c)
  | value_error => exact absurd rfl h2
  | int => rcases hn2 with rfl | rfl | rfl | rfl | rfl | rfl | rfl <;> exact kit_ty (by decide +kernel)
  | bool => rcases hn2 with rfl | rfl | rfl | rfl | rfl | rfl | rfl <;> exact kit_ty (by decide +kernel)
  | str => rcases hn2 with rfl | rfl | rfl | rfl | rfl | rfl | rfl <;> exact kit_ty (by decide +kernel)
  | list => rcases hn2 with rfl | rfl | rfl | rfl | rfl | rfl | rfl <;> exact kit_ty (by decide +kernel)
  | tuple => rcases hn2 with rfl | rfl | rfl | rfl | rfl | rfl | rfl <;> exact kit_ty (by decide +kernel)
  | dict => rcases hn2 with rfl | rfl | rfl | rfl | rfl | rfl | rfl <;> exact kit_ty (by decide +kernel)
/-- what type a value has, and what it answers -/
def TyAns (t : Tx) (T : Tab) (K : PySem.W.Frag) (w : Wd) (d : D) (v : V) : Prop := ∃ ty, TyX K w.H v ty ∧ ∀ (q : Ty) (r : Bool), q ≠ .value_error → (∀ c, q = .own c → ∃ ct, T.cls[c]? = some ct) → isTy T w.h d q = some r → PySem.W.kitOne K ty (tyU t q) = some r
theorem ans_b (hK : X.K = t.K) (ki : KitOk T X.K t.cls) {w : Wd} {d : D} {v : V} {n : String} (hn : n ∈ tyAll) (ty : TyX X.K w.H v (.type n)) (ho : ∀ c, isTy T w.h d (.own c) = some false)
    (hb : ∀ q, (∀ c, q ≠ .own c) → q ≠ .value_error → isTy T w.h d q = some (match q with
    | .int => n == "int" || n == "bool"
    | .bool => n == "bool"
    | .str => n == "str"
    | .list => n == "list"
    | .tuple => n == "tuple"
    | .dict => n == "dict"
    | _ => false)) : TyAns t T X.K w d v := ⟨_, ty, fun q r h0 hq e => by
  cases q with
  | own c =>
    obtain ⟨ct, e1⟩ := hq c rfl
    rw [ho c] at e
    cases e
    exact ki.bOwn n c ct hn e1
  | _ =>
    rw [hb _ (fun c z => by cases z) h0] at e
    rw [← e, hK]
    exact kit_bb n hn _ (fun c z => by cases z) h0 t⟩
theorem ans_ins (B : Txt t T cl lv X) {w : Wd} {d : D} {p C dx : Addr} {vs : List (Str × V)} {c : Nat} {ct : ClsT} (hc : T.cls[c]? = some ct) (h : w.H p = some (.ins (t.cls c) dx vs)) (ho : ∀ k, isTy T w.h d (.own k) = some (decide (k ∈ ct.anc)))
    (hb : ∀ q, (∀ c, q ≠ .own c) → isTy T w.h d q = some false) : TyAns t T X.K w d (.ref p) := ⟨_, .base (.ins h (B.cls c ct hc) (B.kit.ha c ct hc) (B.kit.hn c ct hc) (B.kit.htk c ct hc) (B.kit.hm c ct hc)), fun q r h0 hq e => by
  cases q with
  | own k =>
    obtain ⟨kt, e1⟩ := hq k rfl
    rw [ho k] at e
    cases e
    exact B.kit.own c k ct kt hc e1
  | value_error => exact absurd rfl h0
  | _ =>
    rw [hb _ (fun c z => by cases z)] at e
    cases e
    exact B.kit.ownB c ct _ hc (by decide)⟩
theorem tyAns (B : Txt t T cl lv X) {w : Wd} {d : D} {v : V} (k : w.Ok t) (r : R t w d v) {q0 : Ty} {r0 : Bool} (h0 : isTy T w.h d q0 = some r0) : TyAns t T X.K w d v := by
  have hl : ∀ {a vs}, QL t w a vs → TyX X.K w.H (.ref a) (.type "list") := fun {a vs} q => by
    rcases q with q | ⟨ob, q⟩ | ⟨o, its, n, q, qc, _⟩
    · exact .base (.lst q.1)
    · exact .base (.frz q.1)
    · exact .kList (by rw [B.K]; exact q) qc
  cases d with
  | non =>
    cases (show v = .non from r)
    exact ans_b B.K B.kit (n := "NoneType") (by decide) (.base .non) (fun c => rfl) (fun q h1 h2 => by cases q <;> first | rfl | exact absurd rfl (h1 _) | exact absurd rfl h2)
  | bl i =>
    cases (show v = .bl i from r)
    exact ans_b B.K B.kit (n := "bool") (by decide) (.base (.bl i)) (fun c => rfl) (fun q h1 h2 => by cases q <;> first | rfl | exact absurd rfl (h1 _) | exact absurd rfl h2)
  | int i =>
    cases (show v = .int i from r)
    exact ans_b B.K B.kit (n := "int") (by decide) (.base (.int i)) (fun c => rfl) (fun q h1 h2 => by cases q <;> first | rfl | exact absurd rfl (h1 _) | exact absurd rfl h2)
  | str i =>
    cases (show v = .str i from r)
    exact ans_b B.K B.kit (n := "str") (by decide) (.base (.str i)) (fun c => rfl) (fun q h1 h2 => by cases q <;> first | rfl | exact absurd rfl (h1 _) | exact absurd rfl h2)
  | tup ds =>
    obtain ⟨a, vs, rfl, q, _⟩ := (show ∃ a vs, v = .ref a ∧ Fz w a (.tup vs) ∧ ds.length ≤ sizeLine ∧ RL t w ds vs from r)
    exact ans_b B.K B.kit (n := "tuple") (by decide) (.base (.tup q.1)) (fun c => rfl) (fun q h1 h2 => by cases q <;> first | rfl | exact absurd rfl (h1 _) | exact absurd rfl h2)
  | lst ds =>
    obtain ⟨a, vs, rfl, q, _⟩ := (show ∃ a vs, v = .ref a ∧ Fz w a (.lst vs) ∧ ds.length ≤ sizeLine ∧ RL t w ds vs from r)
    exact ans_b B.K B.kit (n := "list") (by decide) (.base (.lst q.1)) (fun c => rfl) (fun q h1 h2 => by cases q <;> first | rfl | exact absurd rfl (h1 _) | exact absurd rfl h2)
  | rl ds =>
    obtain ⟨a, vs, rfl, q, _⟩ := (show ∃ a vs, v = .ref a ∧ QL t w a vs ∧ ds.length ≤ sizeLine ∧ RL t w ds vs from r)
    exact ans_b B.K B.kit (n := "list") (by decide) (hl q) (fun c => rfl) (fun q h1 h2 => by cases q <;> first | rfl | exact absurd rfl (h1 _) | exact absurd rfl h2)
  | ins c fs =>
    obtain ⟨a, dx, vs, rfl, q, _⟩ := (show ∃ a dx vs, v = .ref a ∧ Fz w a (.ins (t.cls c) dx vs) ∧ RF t w fs vs from r)
    cases hc : T.cls[c]? with
    | none =>
      exfalso
      cases q0 <;> (unfold isTy at h0; simp only [hc] at h0; cases h0)
    | some ct =>
      exact ans_ins B (C := a) hc q.1 (fun k => by show (T.cls[c]?).map _ = _; rw [hc]; rfl) (fun q h1 => by cases q <;> first | exact absurd rfl (h1 _) | (show (T.cls[c]?).map _ = _; rw [hc]; rfl))
  | ref n =>
    obtain ⟨a, rfl, hn⟩ := (show ∃ a, v = .ref a ∧ w.l[n]? = some a from r)
    cases ho : w.h[n]? with
    | none =>
      exfalso
      cases q0 <;> (unfold isTy at h0; simp only [ho] at h0; cases h0)
    | some ob =>
      cases ob with
      | dead =>
        exfalso
        cases q0 <;> (unfold isTy at h0; simp only [ho] at h0; cases h0)
      | lst ds =>
        obtain ⟨vs, h1, _⟩ := (show ∃ vs, w.H a = some (.lst vs) ∧ ds.length ≤ sizeLine ∧ RL t w ds vs from k.obj n _ a ho hn)
        refine ans_b B.K B.kit (n := "list") (by decide) (.base (.lst h1)) (fun c => ?_) (fun q h1 h2 => ?_)
        · unfold isTy
          simp only [ho]
        · cases q <;> first | exact absurd rfl (h1 _) | exact absurd rfl h2 | (unfold isTy; simp only [ho]; rfl)
      | dK kvs =>
        obtain ⟨vs, h1, _, _⟩ := (show ∃ vs, w.H a = some (.dK vs) ∧ kvs.length ≤ sizeLine ∧ RK t w kvs vs from k.obj n _ a ho hn)
        refine ans_b B.K B.kit (n := "dict") (by decide) (.base (.dK h1)) (fun c => ?_) (fun q h1 h2 => ?_)
        · unfold isTy
          simp only [ho]
        · cases q <;> first | exact absurd rfl (h1 _) | exact absurd rfl h2 | (unfold isTy; simp only [ho]; rfl)
      | dT kvs =>
        obtain ⟨vs, h1, _, _⟩ := (show ∃ vs, w.H a = some (.dT vs) ∧ kvs.length ≤ sizeLine ∧ RK t w kvs vs from k.obj n _ a ho hn)
        refine ans_b B.K B.kit (n := "dict") (by decide) (.base (.dT h1)) (fun c => ?_) (fun q h1 h2 => ?_)
        · unfold isTy
          simp only [ho]
        · cases q <;> first | exact absurd rfl (h1 _) | exact absurd rfl h2 | (unfold isTy; simp only [ho]; rfl)
      | ins c fs =>
        obtain ⟨dx, vs, h1, _, h3⟩ := (show ∃ dx vs, w.H a = some (.ins (t.cls c) dx vs) ∧ fs.length ≤ 1000 ∧ RF t w fs vs from k.obj n _ a ho hn)
        cases hc : T.cls[c]? with
        | none =>
          exfalso
          cases q0 <;> (unfold isTy at h0; simp only [ho, hc] at h0; cases h0)
        | some ct =>
          refine ans_ins B (C := a) hc h1 (fun k => ?_) (fun q h1 => ?_)
          · unfold isTy
            simp only [ho, hc]
            rfl
          · cases q <;> first | exact absurd rfl (h1 _) | (unfold isTy; simp only [ho, hc]; rfl)
theorem tyChk_own {q : Ty} {e : Expr} (h : tyChk T sc q e = true) : q ≠ .value_error ∧ ∀ c, q = .own c → ∃ ct, T.cls[c]? = some ct := by
  obtain ⟨n, p, rfl⟩ := ty_name h
  refine ⟨fun z => ?_, fun c z => ?_⟩
  · subst z
    cases h
  · subst z
    obtain ⟨h1, _⟩ := band h
    obtain ⟨ct, e1, _⟩ := Option.map_eq_some_iff.mp (dec h1)
    exact ⟨ct, e1⟩
theorem r_isi {q : Ty} {p : Pos} (B : Txt t T cl lv X) (S : ScOk X sc) (hg : Gl X "isinstance") (hs : starEach [x, y] X.env = (false, eval x X.env) :: starEach [y] X.env) (ha : PE X x (tE t T cl Wx a)) (hq : tyChk T sc q y = true) : PE X (.Call (.Name "isinstance" p) [x, y] [] pos) (tE t T cl Wx (.isi a q)) := by
  obtain ⟨n, p2, rfl⟩ := ty_name hq
  refine PEimp (pe_callB call_isi hg (B.blt _ (by decide)) boot_isi (pa_cons ha (pa_cons (pe_ty B S hq) pa_nil rfl) hs) (by decide) (by decide) hs rfl) fun σ H Q ⟨w, σd, e, k, g, pp⟩ => ?_
  refine ⟨w, σd, e, k, g, (Post.bind pp).imp ?_⟩
  rintro v1 H1 ⟨w1, d, rfl, k1, s1, r1, p1⟩
  obtain ⟨b, e1, p3⟩ := p1.orBad
  obtain ⟨ty, h1, h2⟩ := tyAns B k1 r1 e1
  exact ⟨v1, tyV t q, ty, tyU t q, b, rfl, ty_clsV q, h1, h2 q b (tyChk_own hq).1 (tyChk_own hq).2 e1, now p3 k1 rfl⟩
/-- the types of a written tuple -/
def tTys (t : Tx) : List Ty → TA
  | [] => tNil
  | q :: qs => tCons (tC (tyV t q)) (tTys t qs)
theorem star_tys : ∀ {ts : List Ty} {es : List Expr}, tysChk T sc ts es = true → starEach es X.env = es.map fun e => (false, eval e X.env)
  | [], [], _ => rfl
  | q :: qs, e :: es, h => by
    obtain ⟨h1, h2⟩ := band h
    obtain ⟨n, p, rfl⟩ := ty_name h1
    show (false, eval (.Name n p) X.env) :: starEach es X.env = _
    rw [star_tys h2]
    rfl
  | [], _ :: _, h => by cases h
  | _ :: _, [], h => by cases h
theorem pa_tys (B : Txt t T cl lv X) (S : ScOk X sc) : ∀ {ts : List Ty} {es : List Expr}, tysChk T sc ts es = true → PA X es (tTys t ts)
  | [], [], _ => pa_nil
  | q :: qs, e :: es, h => by
    obtain ⟨h1, h2⟩ := band h
    obtain ⟨n, p, rfl⟩ := ty_name h1
    exact pa_cons (pe_ty B S h1) (pa_tys B S h2) rfl
  | [], _ :: _, h => by cases h
  | _ :: _, [], h => by cases h
theorem tTys_all {σ : L2.St} {H : Hp} : ∀ {ts : List Ty} {Q : List V → Hp → Prop}, Q (ts.map (tyV t)) H → tTys t ts σ H Q
  | [], Q, h => h
  | q :: qs, Q, h => by
    show tTys t qs σ H fun vs H1 => Q (tyV t q :: vs) H1
    exact tTys_all (ts := qs) (Q := fun vs H1 => Q (tyV t q :: vs) H1) h
theorem paired_tys : ∀ ts : List Ty, Paired ClsV (ts.map (tyV t)) (ts.map (tyU t))
  | [] => .nil
  | q :: qs => .cons (ty_clsV q) (paired_tys qs)
theorem tysChk_own : ∀ {ts : List Ty} {es : List Expr}, tysChk T sc ts es = true → ∀ q ∈ ts, q ≠ .value_error ∧ ∀ c, q = .own c → ∃ ct, T.cls[c]? = some ct
  | [], _, _, q, m => by cases m
  | q :: qs, e :: es, h, q2, m => by
    obtain ⟨h1, h2⟩ := band h
    rcases List.mem_cons.mp m with e1 | m
    · subst e1
      exact tyChk_own h1
    · exact tysChk_own h2 q2 m
  | _ :: _, [], h, _, _ => by cases h
theorem kit_any {w : Wd} {d : D} {ty : Value} (h2 : ∀ (q : Ty) (r : Bool), q ≠ .value_error → (∀ c, q = .own c → ∃ ct, T.cls[c]? = some ct) → isTy T w.h d q = some r → PySem.W.kitOne X.K ty (tyU t q) = some r) : ∀ {ts : List Ty} {r : Bool}, (∀ q ∈ ts, q ≠ .value_error ∧ ∀ c, q = .own c → ∃ ct, T.cls[c]? = some ct) → isTys T w.h d ts = some r → PySem.W.kitAny X.K ty (ts.map (tyU t)) = some r
  | [], r, _, e => e
  | q :: qs, r, ho, e => by
    have e2 : (match isTy T w.h d q with
      | some true => some true
      | some false => isTys T w.h d qs
      | none => none) = some r := e
    have o1 := ho q List.mem_cons_self
    have o2 : ∀ q ∈ qs, q ≠ .value_error ∧ ∀ c, q = .own c → ∃ ct, T.cls[c]? = some ct := fun q m => ho q (List.mem_cons_of_mem _ m)
    cases hq : isTy T w.h d q with
    | none =>
      rw [hq] at e2
      cases e2
    | some b =>
      rw [hq] at e2
      refine kitAny_cons (h2 q b o1.1 o1.2 hq) (fun eb => ?_) (fun eb => ?_)
      · subst eb
        exact kit_any h2 o2 e2
      · subst eb
        exact (Option.some.inj e2).symm
theorem r_isiT {ts : List Ty} {zs : List Expr} {kk : Nat} {p p2 : Pos} (B : Txt t T cl lv X) (S : ScOk X sc) (hg : Gl X "isinstance") (hs : starEach [x, .Tuple zs kk p2] X.env = (false, eval x X.env) :: starEach [.Tuple zs kk p2] X.env) (ha : PE X x (tE t T cl Wx a)) (hq : tysChk T sc ts zs = true) (hl : 0 < ts.length ∧ ts.length ≤ 100) : PE X (.Call (.Name "isinstance" p) [x, .Tuple zs kk p2] [] pos) (tE t T cl Wx (.isiT a ts)) := by
  refine PEimp (pe_callB call_isiT hg (B.blt _ (by decide)) boot_isi (pa_cons ha (pa_cons (pe_tup (pa_tys B S hq)) pa_nil rfl) hs) (by decide) (by decide) hs rfl) fun σ H Q ⟨w, σd, e, k, g, pp⟩ => ?_
  refine ⟨w, σd, e, k, g, (Post.bind pp).imp ?_⟩
  rintro v1 H1 ⟨w1, d, rfl, k1, s1, r1, p1⟩
  obtain ⟨b, e1, p3⟩ := p1.orBad
  refine tTys_all ⟨?_, fun q hq2 => ?_⟩
  · rw [List.length_map]
    exact Nat.le_trans hl.2 (by decide)
  · have st := step_frz (o := .tup (ts.map (tyV t))) k1 hq2
    have k2 := ok_frz (o := .tup (ts.map (tyV t))) k1 hq2
    obtain ⟨q1, qs, et⟩ : ∃ q1 qs, ts = q1 :: qs := by
      cases ts with
      | nil => exact absurd hl.1 (Nat.lt_irrefl _)
      | cons q1 qs => exact ⟨q1, qs, rfl⟩
    have h0 : ∃ r0, isTy T w1.h d q1 = some r0 := by
      rw [et] at e1
      have e2 : (match isTy T w1.h d q1 with
        | some true => some true
        | some false => isTys T w1.h d qs
        | none => none) = some b := e1
      cases hq : isTy T w1.h d q1 with
      | none =>
        rw [hq] at e2
        cases e2
      | some r0 => exact ⟨r0, rfl⟩
    obtain ⟨r0, h0⟩ := h0
    obtain ⟨ty, h1, h2⟩ := tyAns B k2 (r1.mono t st.toExt) h0
    exact ⟨v1, q, ts.map (tyV t), ty, ts.map (tyU t), b, rfl, upd_same, paired_tys ts, h1, kit_any h2 (tysChk_own hq) e1, p3 _ (.bl b) k2 st rfl rfl⟩
end
end VM

set_option Elab.async false
set_option linter.all false
set_option maxRecDepth 100000
set_option maxHeartbeats 4000000
/-! VmHd: new instances by keywords, own ==. -/
namespace VM
open PySem L2 PyProof.Rows
section
variable {t : Tx} {T : Tab} {cl : Call} {lv : Nat} {N : List Str} {X : Cx} {sc : Scope} {Wx : WX} {e : Expr} {a b c lo hi : E} {x y z : Expr} {pos : Pos} {as ks : A} {es : List Expr}
theorem RL.pick {w : Wd} {ds : List D} {vs : List V} (h : RL t w ds vs) : ∀ p : List Nat, RL t w (VM.pick p ds) (VM.pick p vs)
  | [] => rfl
  | i :: p => by
    have ih := RL.pick h p
    unfold VM.pick at ih ⊢
    rw [List.filterMap_cons, List.filterMap_cons]
    cases q : ds[i]? with
    | none =>
      have : vs[i]? = none := by
        rw [List.getElem?_eq_none_iff] at q ⊢
        rw [← h.length]
        exact q
      rw [this]
      exact ih
    | some d =>
      obtain ⟨v, e1, e2⟩ := h.get q
      rw [e1]
      exact ⟨v, _, rfl, e2, ih⟩
theorem PKimp {kws : List Keyword} {t1 t2 : TA} (h : PK X kws t1) (i : ∀ σ H Q, t2 σ H Q → t1 σ H Q) : PK X kws t2 := ⟨fun pos pins s σ H Q I q => h.run pos pins s σ H Q I (i σ H Q q)⟩
theorem r_knil : PK X [] (tA t T cl Wx .nil) := PKimp pk_nil fun σ H Q ⟨w, σd, e, k, g, p⟩ => e ▸ p w [] k (Step.refl w) rfl rfl
theorem r_kcons {nm : Option Str} {kp : Pos} {kws : List Keyword} (ha : PE X x (tE t T cl Wx a)) (hr : PK X kws (tA t T cl Wx as)) : PK X (⟨nm, x, kp⟩ :: kws) (tA t T cl Wx (.cons a as)) :=
  PKimp (pk_cons ha hr) fun σ H Q ⟨w, σd, e, k, g, p⟩ => by
    refine ⟨w, σd, e, k, g, (Post.bind p).imp ?_⟩
    rintro v1 H1 ⟨w1, d1, rfl, k1, s1, r1, p1⟩
    refine ⟨w1, σd, rfl, k1, g.mono s1.toExt, (Post.bind p1).imp ?_⟩
    rintro v2 H2 ⟨w2, d2, rfl, k2, s2, r2, p2⟩
    exact p2 w2 (v1 :: v2) k2 (Step.refl _) rfl ⟨v1, v2, rfl, r1.mono t s2.toExt, r2⟩
theorem kwNames_ok {env : Env} {pos : Pos} : ∀ {kws : List Keyword} {ns : List Str}, kwNames kws = some ns → (backToKw pos (keywordEach kws env)).all (·.1.isSome) = true ∧ (backToKw pos (keywordEach kws env)).filterMap (·.1) = ns ∧ (backToKw pos (keywordEach kws env)).any (·.1.isNone) = false
  | [], ns, h => by
    cases h
    exact ⟨rfl, rfl, rfl⟩
  | ⟨nm, v, p⟩ :: r, ns, h => by
    cases nm with
    | none => cases h
    | some n =>
      have h2 : (kwNames r).map (n :: ·) = some ns := h
      obtain ⟨ns2, e1, e2⟩ := Option.map_eq_some_iff.mp h2
      obtain ⟨i1, i2, i3⟩ := kwNames_ok (env := env) (pos := pos) e1
      subst e2
      refine ⟨?_, ?_, ?_⟩
      · show (true && (backToKw pos (keywordEach r env)).all (·.1.isSome)) = true
        rw [i1]
        rfl
      · show n :: (backToKw pos (keywordEach r env)).filterMap (·.1) = n :: ns2
        rw [i2]
      · show (false || (backToKw pos (keywordEach r env)).any (·.1.isNone)) = false
        rw [i3]
        rfl
theorem run_makeKS {k n : Nat} {f C : Addr} {fd : FuncData} {ps nms : List Str} {sp : Sp} {CX : CXT} {E : L2.St → XK} {pins : List (Addr × Obj)} {σ : L2.St} {H : Hp} {s : Shared} {Q : VK} {us ws : List Value} {vs zs : List V} {g : List Value → List Value → List Value} {gV : List V → List V → List V} (M : Mk X.K C f) (F : FnOk X.prog X.w X.K X.mg X.base CX k f fd ps sp) (hr : Room (k + 1) X.A) (hb : KBn X.K fd ps n nms g gV)
    (hx : PassesAt CX X σ (E σ)) (I : L2.Inv X pins σ H s) (r : Vals vs us) (rz : Vals zs ws) (l1 : vs.length + 1 = n) (l2 : zs.length = nms.length)
    (h : ∀ x dx, H x = none → H dx = none → dx ≠ x → sp (gV (.ref x :: vs) zs) (upd (upd H dx (.own x)) x (.ins C dx [])) (fun v H2 => v = .non ∧ Q (.ref x) H2) (E σ)) :
    wpAny (model X.prog X.w) X.A (call (.ref C) us (nms.zip ws)) (EP X pins σ Q) X.xe s := by
  have hq := h (s.heap.objs.size + 1) s.heap.objs.size (I.hok.fresh (Nat.le_succ _)) (I.hok.fresh (Nat.le_refl _)) (Nat.ne_of_lt (Nat.lt_succ_self _))
  have I2 := Inv.made (C := C) I
  have r1 : Vals (V.ref (s.heap.objs.size + 1) :: vs) (Value.ref (s.heap.objs.size + 1) :: us) := .cons rfl r
  have r2 := hb.rel r1 rz
  have e1 : (Value.ref (s.heap.objs.size + 1) :: us).length = n := r1.length.symm.trans l1
  have e2 : ws.length = nms.length := rz.length.symm.trans l2
  refine wpAny_call (make_map (f := f) I.kIn M.makes M.init (beq_iff_eq.mp M.fn) (codeAny_mono (F.run _ X.stack _ _ ⟨Value.ref (s.heap.objs.size + 1) :: us, nms.zip ws⟩ (g (Value.ref (s.heap.objs.size + 1) :: us) ws) _ _ (E σ) (hr.make C us (nms.zip ws))
    (I2.env0.make C us (nms.zip ws)) (hb.to _ (Value.ref (s.heap.objs.size + 1) :: us) ws I2.kIn e1 e2) r2 hq) fun r s' hq' => ?_))
  cases r with
  | error e => exact hx pins _ _ e s' I2 hq'
  | ok fl =>
    cases fl with
    | ret u =>
      obtain ⟨v, H', I3, rv, ev, q3⟩ := I2.after hq'
      subst ev
      exact ⟨rv, ⟨V.ref (s.heap.objs.size + 1), H', I3, rfl, q3⟩⟩
    | next => exact False.elim hq'
    | brk => exact False.elim hq'
    | cont => exact False.elim hq'
theorem r_mkK {cc kk : Nat} {ct : ClsT} {kd : KwT} {n : Str} {p : Pos} {kws : List Keyword} (B : Txt t T cl lv X) (tk : Takes X Wx) (hc : T.cls[cc]? = some ct) (hn : ct.name = n) {ift : FnT} (hi : T.fns[ct.init]? = some ift) (hk : T.kws[kk]? = some kd) (hkn : kwNames kws = some kd.names) (hg : Gl X n) (hd : dbg n = false) (h : PA X es (tA t T cl Wx as)) (hkw : PK X kws (tA t T cl Wx ks))
    (hcs : ∀ y ys, es = y :: ys → starEach es X.env = (false, eval y X.env) :: starEach ys X.env ∧ (backTo pos (starEach es X.env)).any (·.1) = false)
    (hz : es = [] → as = .nil) : PE X (.Call (.Name n p) es kws pos) (tE t T cl Wx (.mkK cc kk as ks)) := by
  obtain ⟨fa, fd, ps, F, hb, M, hm, kwa⟩ := B.mkr cc ct ift hc hi
  rw [hn] at hm
  have hr : Room (lv + 1) X.A := B.room.mono (by omega)
  obtain ⟨q1, q2, q3⟩ := kwNames_ok (env := X.env) (pos := pos) hkn
  refine ⟨fun pins s σ H Q I ⟨w, σd, e, k, g, pp⟩ => ?_⟩
  subst e
  refine wpAny_Call_Name_kw (ld_glob I hg hm ?_ (dbg1 hd))
  have fin : ∀ (us ws : List Value) (s2 : Shared) (vs2 zs2 : List V) (H2 : Hp), L2.Inv X pins σ H2 s2 → Vals vs2 us → Vals zs2 ws → (∃ w2 ds gs, w2.H = H2 ∧ w2.Ok t ∧ Step w w2 ∧ RL t w2 ds vs2 ∧ RL t w2 gs zs2 ∧ Post t Wx σ w2 (R t) Q (orBad (T.cls[cc]?) fun ct => orBad (T.kws[kk]?) fun kd => if kd.f = ct.init ∧ ds.length + 1 = kd.n ∧ gs.length = kd.names.length then (cl ct.init (.ref w2.h.length :: (ds ++ pick kd.perm gs)) (w2.h ++ [.ins cc []])).bind fun v h2 => asRef w2.h.length v h2 else .bad)) → wpAny (model X.prog X.w) X.A (call (.ref (t.cls cc)) us (((backToKw pos (keywordEach kws X.env)).filterMap (·.1)).zip ws)) (EP X pins σ Q) X.xe s2 := by
    rintro us ws s2 vs2 zs2 H2 I2 rv rz ⟨w2, ds, gs, rfl, k2, st2, r2, r3, p5⟩
    obtain ⟨ct', e1, p6⟩ := p5.orBad
    rw [hc] at e1
    cases e1
    obtain ⟨kd', e2, p7⟩ := p6.orBad
    rw [hk] at e2
    cases e2
    by_cases hcnd : kd.f = ct.init ∧ ds.length + 1 = kd.n ∧ gs.length = kd.names.length
    · rw [if_pos hcnd] at p7
      rw [q2]
      exact run_makeKS M F hr (kwa kk kd hk hcnd.1) (passAt tk σ) I2 rv rz (by rw [← r2.length]; exact hcnd.2.1) (by rw [← r3.length]; exact hcnd.2.2) fun q dx n1 n2 n3 => spMk k2 (r2.app (r3.pick kd.perm)) p7 n1 n2 n3
    · rw [if_neg hcnd] at p7
      exact p7.elim
  cases es with
  | cons y ys =>
    obtain ⟨c1, c2⟩ := hcs y ys rfl
    refine PySem.W.callWith_KW (h₀ := X.base) I.ok.mod.kin M.kp q1 (thn (h.run pos pins s σ w.H _ I ⟨w, σd, rfl, k, g, Post.bind (RA := RL t) pp⟩) fun us s2 ⟨vs2, H2, I2, rv, w2, ds, e2, k2, st2, r2, p2⟩ => ?_) (by rw [c2, q3]; rfl) c1
    subst e2
    refine thn (hkw.run pos pins s2 σ w2.H _ I2 ⟨w2, σd, rfl, k2, g.mono st2.toExt, Post.bind (RA := RL t) p2⟩) fun ws s3 ⟨zs2, H3, I3, rz, w3, gs, e3, k3, st3, r3, p3⟩ => ⟨I3.kIn, ?_⟩
    exact fin us ws s3 vs2 zs2 H3 I3 rv rz ⟨w3, ds, gs, e3, k3, st2.trans st3, RL.mono t st3.toExt _ _ r2, r3, p3⟩
  | nil =>
    rw [hz rfl] at pp
    have p2 : Post t Wx σ w (R t) Q ((evA T cl ks σd w.h).bind fun es h2 => orBad (T.cls[cc]?) fun ct => orBad (T.kws[kk]?) fun kd => if kd.f = ct.init ∧ ([] : List D).length + 1 = kd.n ∧ es.length = kd.names.length then (cl ct.init (.ref h2.length :: ([] ++ pick kd.perm es)) (h2 ++ [.ins cc []])).bind fun v h3 => asRef h2.length v h3 else .bad) := pp
    refine PySem.W.callWith_KW0 (h₀ := X.base) I.ok.mod.kin M.kp q1 ?_ (by rw [q3]; rfl)
    refine thn (hkw.run pos pins s σ w.H _ I ⟨w, σd, rfl, k, g, Post.bind (RA := RL t) p2⟩) fun ws s3 ⟨zs2, H3, I3, rz, w3, gs, e3, k3, st3, r3, p3⟩ => ⟨I3.kIn, ?_⟩
    exact fin [] ws s3 [] zs2 H3 I3 .nil rz ⟨w3, [], gs, e3, k3, st3, rfl, r3, p3⟩
end
end VM

set_option Elab.async false
set_option linter.all false
set_option maxRecDepth 100000
set_option maxHeartbeats 4000000
/-! VmHe: == and != by an own __eq__. -/
namespace PySem.W
open PySem PySem.Calls PyProof.Rows
section
variable {prog : Program} {w : World} {A : Around} {E : Value → Shared → Prop} {s : Shared} {K : Frag} {x C L f : Addr} {h₀ : Heap} {m : Str → Option Value} {ox : Obj} {od : Option Obj} {b tb : Value}
theorem neBound_K {M : Model} {args : List Value} {Q : Option Value → Shared → Prop} (X : K.In s.heap) (I : InstAt s.heap x ox C od) (hs : findIn K (.ref C) "__ne__" = some (some (.builtin "object.__ne__")))
    (h : wpAny M A (call (.builtin "object.__ne__") (.ref x :: args)) (fun v => Q (some v)) E s) : wpAny M A (callSpecialIfBound? (.ref x) "__ne__" args) Q E s := by
  simp only [callSpecialIfBound?, bindSpecialIfBound?]
  refine wpAny_holding (wpAny_bind (wpAny_bind (wpAny_bind (I.type.here ((looks_findIn X hs).here ?_)))))
  simp only [PySem.F.cmp_object.ne.bind]
  refine wpAny_bind (wpAny_askSetting (wpAny_ite ?_))
  have fin : wpAny M A (call (.builtin "object.__ne__") ([.ref x] ++ args) >>= fun v => pure (some v)) Q E s := wpAny_bind (wpAny_mono h (fun v s' h' => wpAny_pure h') fun _ _ h' => h')
  split
  · exact wpAny_bind (wpAny_pure (wpAny_pure fin))
  · exact wpAny_tryCatch (wpAny_bind (wpAny_pure (wpAny_pure fin)))
theorem neCheck_K {M : Model} {Q : Unit → Shared → Prop} (X : K.In s.heap) (I : InstAt s.heap x ox C od) (hm : mroIn K C (.type "object") = some true) (hq : Q () s) :
    wpAny M A (checkBuiltinCall "object.__ne__" ⟨[.ref x, b], []⟩) Q E s := by
  simp only [checkBuiltinCall, PySem.F.cmpKind_ne, PySem.F.cmpSplit_ne]
  have ha := PySem.F.cmpArgs_ne (.ref x) b
  refine wpAny_bind ?_
  · unfold isInstance
    refine wpAny_bind (I.type.here ((looks_mroIn X hm).here ?_))
    repeat wp_step
    exact hq
theorem ne_K {Q : Value → Shared → Prop} (hu : A.units + 1 < cLine) (F : Fr h₀ L s.heap m) (X₀ : K.In h₀) (I : InstAt s.heap x ox C od) (hb : Looks (model prog w) s.heap (typeOf b) tb) (hn : notFirst K C tb = true)
    (hs : findIn K (.ref C) "__eq__" = some (some (.ref f))) (hf : isFn K (.ref f) = true) (hne : findIn K (.ref C) "__ne__" = some (some (.builtin "object.__ne__"))) (hm : mroIn K C (.type "object") = some true)
    (h : wpAny (model prog w) A.in1 (call (.ref f) [.ref x, b]) (fun v s' => ∃ r, v = .bool r ∧ Q (.bool (!r)) s') E s) : wpAny (model prog w) A (richCompare .NotEq (.ref x) b) Q E s := by
  have X := X₀.keeps F.keep
  have one : wpAny (model prog w) A (tryCompare (.ref x) "__ne__" b) (fun r s' => ∃ v, r = some v ∧ Q v s') E s := by
    unfold tryCompare
    refine wpAny_bind (neBound_K X I hne ?_)
    refine wpAny_call (codeAny_call_builtin PySem.F.cmp_object.ne.plain PySem.F.cmpEntry_ne (neCheck_K X I hm ?_))
    unfold Builtin.«object.__ne__»
    have hu1 : A.in1.units < cLine := hu
    have two : wpAny (model prog w) A.in1 (callSpecialIfBound? (.ref x) "__eq__" [b]) (fun r s' => ∃ v, r = some (.bool v) ∧ Q (.bool (!v)) s') E s := ifBound_K X I hs hf (wpAny_mono h (fun v s' ⟨r, e, q⟩ => ⟨r, by rw [e], q⟩) fun _ _ e => e)
    repeat (first | with_reducible refine wpAny_cRoomFor hu1 ?_ | ((with_reducible refine wpAny_mono two (fun r s' z => ?_) fun _ _ e => e); obtain ⟨v, rfl, q⟩ := z) | wp_step)
    exact ⟨_, rfl, by assumption⟩
  unfold richCompare
  simp only [oneThing_ref]
  refine wpAny_holding (wpAny_bind (wpAny_cRoomFor (Nat.lt_of_succ_lt hu) ?_))
  refine wpAny_bind (I.type.here (wpAny_bind (hb.here ?_)))
  split
  · rename_i q
    have e : subIn K tb (.ref C) = some false := by
      rcases Bool.or_eq_true_iff.mp hn with e | e
      · rw [beq_iff_eq.mp e] at q; simp at q
      · exact beq_iff_eq.mp e
    refine wpAny_bind ((looks_subIn X e).here ?_)
    simp only [Bool.false_eq_true, if_false]
    refine wpAny_bind (wpAny_mono one (fun r s' z => ?_) fun _ _ e => e)
    obtain ⟨v, rfl, hq⟩ := z
    exact wpAny_pure hq
  · refine wpAny_bind (wpAny_pure ?_)
    simp only [Bool.false_eq_true, if_false]
    refine wpAny_bind (wpAny_mono one (fun r s' z => ?_) fun _ _ e => e)
    obtain ⟨v, rfl, hq⟩ := z
    exact wpAny_pure hq
end
end PySem.W
namespace VM
open PySem L2 PyProof.Rows
section
variable {t : Tx} {T : Tab} {cl : Call} {lv : Nat} {N : List Str} {X : Cx} {sc : Scope} {Wx : WX} {e : Expr} {a b c lo hi : E} {x y z : Expr} {pos : Pos} {as ks : A} {es : List Expr}
def rEqI (t : Tx) (T : Tab) (cl : Call) (ng : Bool) (m : Nat) : R2 := fun x y H Q => ∃ w a b r h3, w.H = H ∧ w.Ok t ∧ R t w a x ∧ R t w b y ∧ eqIb T cl ng m a b w.h = .ok r h3 ∧ ∀ w', w'.Ok t → Step w w' → w'.h = h3 → Q (.bl r) w'.H
theorem op_eqI {ng : Bool} {m : Nat} (B : Txt t T cl lv X) (hm : T.nm[m]? = some ("__eq__" : Str)) : OpR X (compareOp (if ng then .NotEq else .Eq)) (rEqI t T cl ng m) := by
  intro pins s σ H x y v u Q I rx ry h
  obtain ⟨w, a, b, r, h3, rfl, k, ra, rb, e, q⟩ := h
  have e0 : (orBad (clsD w.h a) fun cf => orBad (T.cls[cf.1]?) fun ct => orBad (ct.meths.lookup m) fun f => if eqOk T w.h b cf.1 then match cl f [a, b] w.h with
    | .ok (.bl r) h3 => .ok (r != ng) h3
    | _ => .bad
  else .bad) = (Res.ok r h3 : Res Bool) := e
  cases hc : clsD w.h a with
  | none => rw [hc] at e0; cases e0
  | some cf =>
    obtain ⟨c, fs⟩ := cf
    rw [hc] at e0
    have e1 : (orBad (T.cls[c]?) fun ct => orBad (ct.meths.lookup m) fun f => if eqOk T w.h b c then match cl f [a, b] w.h with
      | .ok (.bl r) h3 => .ok (r != ng) h3
      | _ => .bad
    else .bad) = (Res.ok r h3 : Res Bool) := e0
    cases ht : T.cls[c]? with
    | none => rw [ht] at e1; cases e1
    | some ct =>
      rw [ht] at e1
      have e2 : (orBad (ct.meths.lookup m) fun f => if eqOk T w.h b c then match cl f [a, b] w.h with
        | .ok (.bl r) h3 => .ok (r != ng) h3
        | _ => .bad
      else .bad) = (Res.ok r h3 : Res Bool) := e1
      cases hf : ct.meths.lookup m with
      | none => rw [hf] at e2; cases e2
      | some f =>
        rw [hf] at e2
        have e3 : (if eqOk T w.h b c then match cl f [a, b] w.h with
          | .ok (.bl r) h3 => .ok (r != ng) h3
          | _ => .bad
        else .bad) = (Res.ok r h3 : Res Bool) := e2
        by_cases ho : eqOk T w.h b c = true
        · rw [if_pos ho] at e3
          cases hcl : cl f [a, b] w.h with
          | ex _ _ => rw [hcl] at e3; cases e3
          | bad => rw [hcl] at e3; cases e3
          | ok d h4 =>
            rw [hcl] at e3
            cases d with
            | bl r0 =>
              injection e3 with e4 e5
              subst e4 e5
              obtain ⟨p, dx, vs, rfl, hp, rf⟩ := ins_of k ra hc
              cases rx
              obtain ⟨fa, fd, ps, F, hb, M, _⟩ := B.me c ct m f ht hf
              have hnm := (B.nm m ("__eq__" : Str) hm).1
              rw [hnm] at M
              obtain ⟨mA, J, _⟩ := ins_get I.hok hp
              obtain ⟨od, J, _⟩ := J.look
              obtain ⟨mm, hF⟩ := I.fr
              -- the right one's type
              have tyb : ∃ tb, PySem.W.Looks (model X.prog X.w) s.heap (typeOf u) tb ∧ PySem.W.notFirst X.K (t.cls c) tb = true := by
                rcases Bool.or_eq_true_iff.mp ho with h1 | h1
                · have h1' : isTy T w.h b (.own c) = some false := of_decide_eq_true h1
                  obtain ⟨ty, g1, g2⟩ := tyAns B k rb h1'
                  obtain ⟨P, Z, pz, _⟩ := kit_of I ry g1
                  have g3 := g2 (.own c) false (fun z => by cases z) (fun c' z => by cases z; exact ⟨ct, ht⟩) h1'
                  refine ⟨ty, Z.ty _ _ I.kIn pz, ?_⟩
                  have g4 : (if (ty == .ref (t.cls c)) = true then some true else PySem.W.kitCls X.K ty (.ref (t.cls c))) = some false := g3
                  split at g4
                  · cases g4
                  · have g5 : (if ((PySem.W.clsIn X.K (t.cls c)).isSome && PySem.W.typeIn X.K (.ref (t.cls c)) == some (.type "type")) = true then PySem.W.subIn X.K ty (.ref (t.cls c)) else none) = some false := g4
                    split at g5
                    · unfold PySem.W.notFirst
                      rw [g5]
                      simp
                    · cases g5
                · have h1' : (clsD w.h b).map (·.1) = some c := of_decide_eq_true h1
                  obtain ⟨cg, g1, g2⟩ := Option.map_eq_some_iff.mp h1'
                  obtain ⟨c2, gs⟩ := cg
                  cases g2
                  obtain ⟨p2, dx2, vs2, rfl, hp2, _⟩ := ins_of k rb g1
                  cases ry
                  obtain ⟨mB, J2, _⟩ := ins_get I.hok hp2
                  obtain ⟨od2, J2, _⟩ := J2.look
                  exact ⟨.ref (t.cls c2), J2.type, by unfold PySem.W.notFirst; simp⟩
              obtain ⟨tb, hty, hnf⟩ := tyb
              have call : ∀ (A : Around), Room lv A → Env0 X.prog X.w X.K X.mg X.base A X.stack s w.H → wpAny (model X.prog X.w) A (call (.ref fa) [.ref p, u]) (fun v s' => v = .bool r0 ∧ EP X pins σ Q (.bool (r0 != ng)) s') X.xe s := by
                intro A hr e0
                have hsp : spF t cl f [.ref p, y] w.H (fun v H' => v = .bl r0 ∧ Q (.bl (r0 != ng)) H') (fun _ _ _ => False) := ⟨w, [a, b], rfl, k, ⟨.ref p, [y], rfl, ra, ⟨y, [], rfl, rb, rfl⟩⟩, by
                  rw [hcl]
                  exact fun w' v k' s' e' r' => ⟨r', q w' k' s' e'⟩⟩
                have hl := F.len _ _ _ _ hsp
                have r2 : Vals [V.ref p, y] [Value.ref p, u] := .cons rfl (.cons ry .nil)
                refine wpAny_call (codeAny_mono (F.run A X.stack s w.H ⟨[.ref p, u], []⟩ [.ref p, u] [.ref p, y] _ _ hr e0 (by
                  have := hb s [.ref p, u] I.kIn (by simpa using hl)
                  simpa using this) r2 hsp) fun r s' hq => ?_)
                cases r with
                | error e =>
                  obtain ⟨_, _, _, _, _, _, _, _, _, _, _, _, z⟩ := hq
                  exact z.elim
                | ok fl =>
                  cases fl with
                  | ret w2 =>
                    obtain ⟨z, H', I', rz, ez, ex⟩ := I.after hq
                    subst ez
                    cases rz
                    exact ⟨rfl, .bl _, H', I', rfl, ex⟩
                  | next => exact False.elim hq
                  | brk => exact False.elim hq
                  | cont => exact False.elim hq
              have hr0 : Room lv X.A := B.room.mono (by omega)
              have hr1 : Room lv X.A.in1 := (B.room.mono (j := lv + 1) (by omega)).in1
              cases ng with
              | false =>
                refine PySem.W.cmp_ofEq (PySem.W.cmp_K (op := .Eq) (tb := tb) hr0.units0 hF I.ok.mod.kin J hty hnf M.at_ M.fn ?_)
                refine wpAny_mono (call X.A hr0 I.env0) (fun v s' ⟨e1, e2⟩ => ?_) fun _ _ z => z
                subst e1
                cases r0 <;> exact e2
              | true =>
                have e9 := I.env0
                refine PySem.W.cmp_ofNotEq (PySem.W.ne_K (tb := tb) (by have := hr0.units; omega) hF I.ok.mod.kin J hty hnf M.at_ M.fn (B.kit.ne c ct ht) (B.kit.hm c ct ht) ?_)
                refine wpAny_mono (call X.A.in1 hr1 ⟨e9.frames, e9.mod, e9.bs, e9.bsz, e9.funs, e9.frf, e9.hok, e9.bare⟩) (fun v s' ⟨e1, e2⟩ => ⟨r0, e1, ?_⟩) fun _ _ z => z
                cases r0 <;> exact e2
            | _ => cases e3
        · rw [if_neg ho] at e3
          cases e3
theorem eqI_bind {ng : Bool} {m : Nat} {σ : L2.St} {w : Wd} {α β : Type} {RR : Wd → α → β → Prop} {Q : β → Hp → Prop} {x y : D} {f : Bool → Hs → Res α} (h : Post t Wx σ w RR Q ((eqIb T cl ng m x y w.h).bind f)) : ∃ r h3, eqIb T cl ng m x y w.h = .ok r h3 ∧ Post t Wx σ w RR Q (f r h3) := by
  cases q : eqIb T cl ng m x y w.h with
  | ok r h3 =>
    rw [q] at h
    exact ⟨r, h3, rfl, h⟩
  | ex u h3 =>
    exfalso
    unfold eqIb at q
    cases h1 : clsD w.h x with
    | none => rw [h1] at q; cases q
    | some cf =>
      rw [h1] at q
      simp only [orBad] at q
      cases h2 : T.cls[cf.1]? with
      | none => rw [h2] at q; cases q
      | some ct =>
        rw [h2] at q
        simp only at q
        cases h4 : ct.meths.lookup m with
        | none => rw [h4] at q; cases q
        | some f2 =>
          rw [h4] at q
          simp only at q
          split at q
          · split at q <;> cases q
          · cases q
  | bad =>
    rw [q] at h
    exact h.elim
theorem r_eqI {ng : Bool} {m : Nat} {op : CmpOp} (B : Txt t T cl lv X) (ho : op = if ng then .NotEq else .Eq) (hn : T.nm[m]? = some ("__eq__" : Str)) (ha : PE X x (tE t T cl Wx a)) (hb : PE X y (tE t T cl Wx b)) (hm : behindInMarks op y = false) : PE X (.Compare x [op] [y] pos) (tE t T cl Wx (.eqI ng m a b)) := by
  subst ho
  refine PEimp (pe_cmpR (op_eqI (ng := ng) B hn) ha hb hm) fun σ H Q ⟨w, σd, e, k, g, p⟩ => ?_
  refine ⟨w, σd, e, k, g, (Post.bind p).imp ?_⟩
  rintro v1 H1 ⟨w1, d1, rfl, k1, s1, r1, p1⟩
  refine ⟨w1, σd, rfl, k1, g.mono s1.toExt, (Post.bind p1).imp ?_⟩
  rintro v2 H2 ⟨w2, d2, rfl, k2, s2, r2, p2⟩
  obtain ⟨r, h3, e1, p3⟩ := eqI_bind p2
  exact ⟨w2, d1, d2, r, h3, rfl, k2, r1.mono t s2.toExt, r2, e1, fun w' k' s' e' => p3 w' (.bl r) k' s' e' rfl⟩
theorem bind_assoc {α β γ : Type} {r : Res α} {f : α → Hs → Res β} {g : β → Hs → Res γ} : (r.bind f).bind g = r.bind fun a h => (f a h).bind g := by cases r <;> rfl
theorem rt_eqI {ng : Bool} {m : Nat} {op : CmpOp} (B : Txt t T cl lv X) (ho : op = if ng then .NotEq else .Eq) (hn : T.nm[m]? = some ("__eq__" : Str)) (ha : PE X x (tE t T cl Wx a)) (hb : PE X y (tE t T cl Wx b)) (hm : behindInMarks op y = false) : PT X (.Compare x [op] [y] pos) (tT t T cl Wx (.eqI ng m a b)) := by
  subst ho
  refine PTimp (pt_cmpR (op_eqI (ng := ng) B hn) ha hb hm) fun σ H Q ⟨w, σd, e, k, g, p⟩ => ?_
  have ev : evT T cl (.eqI ng m a b) σd w.h = (VM.ev T cl a σd w.h).bind fun x h1 => (VM.ev T cl b σd h1).bind fun y h2 => (eqIb T cl ng m x y h2).bind fun r h3 => .ok r h3 := by
    show ((((VM.ev T cl a σd w.h).bind fun x h1 => (VM.ev T cl b σd h1).bind fun y h2 => (eqIb T cl ng m x y h2).bind fun r h3 => Res.ok (D.bl r) h3)).bind fun x h1 => orBad (truth h1 x) fun t => .ok t h1) = _
    rw [bind_assoc]
    congr 1
    funext x h1
    rw [bind_assoc]
    congr 1
    funext y h2
    rw [bind_assoc]
    rfl
  rw [ev] at p
  refine ⟨w, σd, e, k, g, (Post.bind p).imp ?_⟩
  rintro v1 H1 ⟨w1, d1, rfl, k1, s1, r1, p1⟩
  refine ⟨w1, σd, rfl, k1, g.mono s1.toExt, (Post.bind p1).imp ?_⟩
  rintro v2 H2 ⟨w2, d2, rfl, k2, s2, r2, p2⟩
  obtain ⟨r, h3, e1, p3⟩ := eqI_bind p2
  exact ⟨w2, d1, d2, r, h3, rfl, k2, r1.mono t s2.toExt, r2, e1, fun w' k' s' e' => ⟨r, rfl, p3 w' r k' s' e' rfl⟩⟩
end
end VM

set_option Elab.async false
set_option linter.all false
set_option maxRecDepth 100000
set_option maxHeartbeats 4000000
/-! VmHf: a tuple from behind. -/
namespace HT
open PySem PySem.Spec PyProof.Rows
section
variable {prog : Program} {w : World} {A : Around} {E : Value → Shared → Prop} {s : Shared}
theorem applied_back {sl : Addr} {vl vu vs : Value} {n k : Nat} {Q : Int × Int × Nat → Shared → Prop} (hs : s.heap.IsSliceOf sl vl vu vs) (pl : IsPart vl none) (pu : IsPart vu (some (k : Int))) (ps : IsPart vs (some (-1))) (hk : k < n)
    (h : Q ((n : Int) - 1, -1, n - 1 - k) s) : wpAny (model prog w) A (Builtin.Slice.sliceApplied (.ref sl) (pure (n : Int))) Q E s := by
  obtain ⟨os, hos, hcs, hds⟩ := id hs
  unfold Builtin.Slice.sliceApplied Builtin.Slice.sliceFields
  refine wpAny_bind (wpAny_bind (wpAny_field hos hds (x := vl) rfl (wpAny_bind (wpAny_field hos hds (x := vu) rfl (wpAny_bind (wpAny_field hos hds (x := vs) rfl (wpAny_pure ?_)))))))
  refine wpAny_bind (slicePart_ ps ?_)
  show wpAny _ _ (if ((-1 : Int) == 0) = true then _ else _) _ _ s
  rw [if_neg (by decide)]
  refine wpAny_bind (slicePart_ pl (wpAny_bind (slicePart_ pu (wpAny_bind (wpAny_pure ?_)))))
  have e1 : Builtin.Slice.sliceAdjust none (some (k : Int)) (-1) (n : Int) = ((n : Int) - 1, (k : Int)) := by
    unfold Builtin.Slice.sliceAdjust
    have h1 : (-1 : Int) < 0 := by decide
    simp only [h1, if_true]
    refine Prod.ext rfl ?_
    show (if (k : Int) < 0 then max ((k : Int) + (n : Int)) (-1) else min (k : Int) ((n : Int) - 1)) = (k : Int)
    rw [if_neg (by omega)]
    omega
  show wpAny _ _ (match Builtin.Slice.sliceAdjust none (some (k : Int)) (-1) (n : Int) with | (lo, hi) => pure (lo, (-1 : Int), Builtin.Slice.slicePlaces lo hi (-1))) _ _ s
  rw [e1]
  show wpAny _ _ (pure ((n : Int) - 1, (-1 : Int), Builtin.Slice.slicePlaces ((n : Int) - 1) (k : Int) (-1))) _ _ s
  have e2 : Builtin.Slice.slicePlaces ((n : Int) - 1) (k : Int) (-1) = n - 1 - k := by
    unfold Builtin.Slice.slicePlaces
    have h1 : ¬ (-1 : Int) > 0 := by decide
    simp only [h1, if_false]
    have h2 : -(-1 : Int) = 1 := by decide
    rw [h2, Int.ediv_one]
    split <;> omega
  rw [e2]
  exact wpAny_pure h
theorem fm_map {α β : Type} {f : α → Option β} {g : α → β} : ∀ l : List α, (∀ m ∈ l, f m = some (g m)) → l.filterMap f = l.map g
  | [], _ => rfl
  | a :: l, h => by
    rw [List.filterMap_cons, h a List.mem_cons_self, List.map_cons, fm_map l fun m hm => h m (List.mem_cons_of_mem _ hm)]
theorem pick_back (xs : Array Value) (n k : Nat) (hn : xs.size = n) (hk : k < n) : ((List.range (n - 1 - k)).filterMap fun (m : Nat) => xs[((n : Int) - 1 + (m : Int) * (-1)).toNat]?) = (xs.toList.drop (k + 1)).reverse := by
  have e : ∀ m ∈ List.range (n - 1 - k), xs[((n : Int) - 1 + (m : Int) * (-1)).toNat]? = some (xs.toList.getD (n - 1 - m) .none) := fun m hm => by
    have hm2 := List.mem_range.mp hm
    have : ((n : Int) - 1 + (m : Int) * (-1)).toNat = n - 1 - m := by omega
    rw [this]
    have hl : n - 1 - m < xs.toList.length := by rw [Array.length_toList]; omega
    rw [← Array.getElem?_toList, List.getD, List.getElem?_eq_getElem hl]
    rfl
  have e2 : ((List.range (n - 1 - k)).filterMap fun (m : Nat) => xs[((n : Int) - 1 + (m : Int) * (-1)).toNat]?) = (List.range (n - 1 - k)).map fun m => xs.toList.getD (n - 1 - m) .none := by
    exact fm_map _ e
  rw [e2]
  refine List.ext_getElem ?_ fun i h1 h2 => ?_
  · rw [List.length_map, List.length_range, List.length_reverse, List.length_drop, Array.length_toList]
    omega
  · rw [List.getElem_map, List.getElem_range, List.getElem_reverse, List.getElem_drop]
    rw [List.length_reverse, List.length_drop, Array.length_toList] at h2
    have hl : n - 1 - i < xs.toList.length := by rw [Array.length_toList]; omega
    rw [List.getD, List.getElem?_eq_getElem hl]
    show xs.toList[n - 1 - i] = _
    congr 1
    rw [List.length_drop, Array.length_toList]
    omega
theorem getItem_tuple_back {t sl : Addr} {items : Array Value} {vl vu vs : Value} {k : Nat} {Q : Value → Shared → Prop} (ht : IsTup s.heap t items) (hs : s.heap.IsSliceOf sl vl vu vs) (pl : IsPart vl none) (pu : IsPart vu (some (k : Int))) (ps : IsPart vs (some (-1))) (hk : k < items.size)
    (h : Q (.ref s.heap.objs.size) { s with heap := s.heap.push { cls := .type "tuple", data := .seq ((items.toList.drop (k + 1)).reverse).toArray } })
    (hsz : items.size ≤ sizeLine) : wpAny (model prog w) A (getItem (.ref t) (.ref sl)) Q E s := by
  have htake : sizeOk (.seq ((items.toList.drop (k + 1)).reverse).toArray) := by
    show ((items.toList.drop (k + 1)).reverse).toArray.size ≤ sizeLine
    rw [List.size_toArray, List.length_reverse, List.length_drop, Array.length_toList]
    omega
  obtain ⟨os, hos, hcs, hds⟩ := id hs
  have hTs : s.TypeIs (.ref sl) "slice" := ⟨os, hos, hcs⟩
  unfold getItem
  try with_reducible refine wpAny_holding ?_
  first | refine wpAny_bind (wpAny_pure ?_) | skip
  refine wpAny_bind (wpAny_sequenceKey ht.typeIs (by decide) ?_)
  refine wpAny_bind (wpAny_callSpecial?_slot (name := Str.ofString "__getitem__") ht.typeIs PyProof.Rows.slot_tuple_getitem
    (wpAny_call_entry PyProof.Rows.slot_tuple_getitem ht.typeIs entry_tuple_getitem ?_ (args_tuple_getitem _ _)))
  show wpAny _ _ (Builtin.Tuple.tupleItemsOf (.ref t) >>= _) _ _ s
  refine wpAny_bind (tupleItemsOf_ ht ?_)
  refine wpAny_bind (wpAny_typeOf hTs ?_)
  rw [if_pos (by decide)]
  refine wpAny_bind (applied_back hs pl pu ps hk ?_)
  show wpAny _ _ (if ((((items.size : Int) - 1) == 0 && (-1 : Int) == 1) && (items.size - 1 - k == items.size)) = true then _ else _) _ _ s
  rw [if_neg (by simp), pick_back items items.size k rfl hk]
  first
    | exact wpAny_bind (m := Builtin.Tuple.tupleExact _) (wpAny_newObj_type (wpAny_pure ⟨_, rfl, wpAny_pure h⟩) htake)
    | exact wpAny_bind (m := Builtin.Tuple.tupleExact _) (wpAny_newObj_type (wpAny_bind (wpAny_pure (wpAny_pure ⟨_, rfl, wpAny_pure h⟩))) htake)
    | exact wpAny_bind (wpAny_bind (m := Builtin.Tuple.tupleExact _) (wpAny_newObj_type (wpAny_pure (wpAny_pure ⟨_, rfl, wpAny_pure h⟩)) htake))
    | exact wpAny_bind (wpAny_bind (m := Builtin.Tuple.tupleExact _) (wpAny_newObj_type (wpAny_pure ⟨_, rfl, wpAny_pure h⟩) htake))
end
end HT
namespace VM
open PySem L2 PyProof.Rows
section
variable {t : Tx} {T : Tab} {cl : Call} {lv : Nat} {N : List Str} {X : Cx} {sc : Scope} {Wx : WX} {e : Expr} {a b c lo hi : E} {x y z : Expr} {pos : Pos} {as ks : A} {es : List Expr}
def tBackT (K : PySem.W.Frag) (k : Nat) (te : TE) : TE := fun σ H Q => te σ H fun x H1 => ∃ a xs, x = .ref a ∧ SqT K H1 a xs ∧ k < xs.length ∧ ∀ p, H1 p = none → Q (.ref p) (upd H1 p (.tup (xs.drop (k + 1)).reverse))
theorem pe_backT {te : TE} {kk k2 k3 : Nat} {p0 p1 p2 p3 pos : Pos} (he : PE X e te) : PE X (.Subscript e (.Slice none (some (.Constant (.int (kk : Int)) k2 p0)) (some (.UnaryOp .USub (.Constant (.int 1) k3 p1) p2)) p3) pos) (tBackT X.K kk te) := by
  refine ⟨fun pins s σ H Q I h => ?_⟩
  refine Subscript_ (thn (he.run pins s σ H _ I h) fun v s1 ⟨x, H1, I1, r1, q1⟩ => ?_)
  obtain ⟨a, xs, ex, hx, hk, q⟩ := q1
  subst ex
  cases r1
  have hst : PO X (some (.UnaryOp .USub (.Constant (.int 1) k3 p1) p2)) (tPart (tUn (rU fun i => .int (-i)) (tC (.int 1)))) := po_some (pe_un un_neg pe_int)
  have hup : PO X (some (.Constant (.int (kk : Int)) k2 p0)) (tPart (tC (.int (kk : Int)))) := po_some pe_int
  refine wpAny_Slice (thn (po_none.run pins s1 σ H1 (fun o H2 => o = none ∧ H2 = H1) I1 ⟨rfl, rfl⟩) fun vl s2 ⟨l, H2, I2, pl, el, e2⟩ => ?_)
  subst el e2
  refine thn (hup.run pins s2 σ H2 (fun o H3 => o = some (kk : Int) ∧ H3 = H2) I2 ⟨kk, rfl, rfl, rfl⟩) fun vu s3 ⟨u, H3, I3, pu, eu, e3⟩ => ?_
  subst eu e3
  refine thn (hst.run pins s3 σ H3 (fun o H4 => o = some (-1) ∧ H4 = H3) I3 ⟨1, rfl, -1, rfl, rfl, rfl⟩) fun vs s4 ⟨o, H4, I4, ps, eo, e4⟩ => ?_
  subst eo e4
  have I5 : L2.Inv X pins σ H4 { s4 with heap := s4.heap.push { cls := .type "slice", data := .fields #[vl, vu, vs] } } := I4.kept (t' := s4.toks) fun b ob q => Heap.get?_push_of_some _ q
  obtain ⟨its, r, ht, hz⟩ := I5.tuple hx
  have hlen := r.length
  show wpAny (model X.prog X.w) X.A (subscriptTail e _ (.ref a) (.ref s4.heap.objs.size)) (EP X pins σ Q) X.xe { s4 with heap := s4.heap.push { cls := .type "slice", data := .fields #[vl, vu, vs] } }
  refine tail_any (ops := [.ref a, .ref s4.heap.objs.size]) ht.typeIs (PyProof.Rows.slot_tuple_getitem.lookup) ?_ (by with_unfolding_all rfl)
  refine HT.getItem_tuple_back ht (Heap.IsSliceOf.new _ vl vu vs) pl pu ps (by rw [List.size_toArray, ← hlen]; exact hk) ?_ (by rw [List.size_toArray, ← hlen]; exact hz)
  refine ⟨.ref _, _, I5.laid (t' := s4.toks) (o := .tup (xs.drop (kk + 1)).reverse) (fun b ob q => Heap.get?_push_of_some _ q) (Nat.le_refl _) ?_, rfl, q _ (I5.hok.fresh (Nat.le_refl _))⟩
  exact ⟨by rw [List.length_reverse, List.length_drop]; omega, _, (r.drop (kk + 1)).reverse, IsTup.new _ _⟩
theorem RL.reverse {w : Wd} : ∀ {ds : List D} {vs : List V}, RL t w ds vs → RL t w ds.reverse vs.reverse
  | [], vs, h => by
    rw [show vs = [] from h]
    exact (rfl : ([] : List V).reverse = [])
  | d :: ds, vs, h => by
    obtain ⟨v, r, rfl, h1, h2⟩ := (show ∃ v r, vs = v :: r ∧ R t w d v ∧ RL t w ds r from h)
    rw [List.reverse_cons, List.reverse_cons]
    exact (RL.reverse h2).snoc h1
theorem r_back {kk k2 k3 : Nat} {p0 p1 p2 p3 : Pos} (hK : X.K = t.K) (ha : PE X x (tE t T cl Wx a)) : PE X (.Subscript x (.Slice none (some (.Constant (.int (kk : Int)) k2 p0)) (some (.UnaryOp .USub (.Constant (.int 1) k3 p1) p2)) p3) pos) (tE t T cl Wx (.back a kk)) :=
  PEimp (pe_backT ha) fun σ H Q ⟨w, σd, e, k, g, p⟩ => by
    refine ⟨w, σd, e, k, g, (Post.bind p).imp ?_⟩
    rintro v1 H1 ⟨w1, d1, rfl, k1, s1, r1, p1⟩
    obtain ⟨z, e1, p2⟩ := p1.orBad
    cases d1 with
    | tup ds =>
      obtain ⟨q, vs, rfl, hq, hz, rl⟩ := (show ∃ a vs, v1 = .ref a ∧ Fz w1 a (.tup vs) ∧ ds.length ≤ sizeLine ∧ RL t w1 ds vs from r1)
      have e2 : (if kk < ds.length then some (D.tup (ds.drop (kk + 1)).reverse) else none) = some z := e1
      by_cases hc : kk < ds.length
      · rw [if_pos hc] at e2
        cases e2
        refine ⟨q, vs, rfl, .inl (.inl hq.1), by rw [← rl.length]; exact hc, fun l' hl' => ?_⟩
        refine Ret.tup (fun w' v a b c d => p2 w' v a b c d) k1 ?_ (RL.reverse (RL.drop _ rl)) hl'
        rw [List.length_reverse, List.length_drop]
        omega
      · rw [if_neg hc] at e2
        cases e2
    | _ => cases e1
end
end VM

set_option Elab.async false
set_option linter.all false
set_option maxRecDepth 100000
set_option maxHeartbeats 16000000
/-! VmL: every checked code is its text: the theorem of expressions. Printed by genL.py. -/
namespace VM
open PySem L2 PyProof.Rows
section
variable {t : Tx} {T : Tab} {cl : Call} {lv : Nat} {N : List Str} {X : Cx} {sc : Scope} {Wx : WX} {e : Expr} {a b c : E} {x y z : Expr} {pos apos : Pos} {as : A} {es : List Expr}
theorem me1_of (h1 : noSup x = true) (h2 : (apos.endLine == pos.line) = true) (h3 : chkE T N sc a y = true) : Me1 X x y apos pos := by
  have s := star1 h3 [] X.env
  refine ⟨h1, h2, ?_, s⟩
  rw [s]
  rfl
theorem m2_of {m : Str} (h1 : noSup x = true) (h2 : (apos.endLine == pos.line) = true) (h3 : chkE T N sc a y = true) (h4 : chkE T N sc b z = true) : M2 X x m apos y z pos := by
  have s := star1 h3 [z] X.env
  have s2 := star1 h4 [] X.env
  refine ⟨base_ok h1 _ _ _, ?_, h2, ?_⟩
  · rw [s, s2]
    rfl
  · rw [s, s2]
    rfl
theorem noStarIx : ∀ (es : List Expr) (env : Env), (es.map fun e => (false, assign e env)).findIdx? (·.1) = none
  | [], _ => rfl
  | e :: es, env => by
    rw [List.map_cons, List.findIdx?_cons, noStarIx es env]
    rfl
theorem subTree (h : chkE T N sc a y = true) : ∀ v, assign (.Subscript x y pos) X.env v = (do
      let ov ← holding [v] (eval x X.env)
      let iv ← holding [v, ov] (eval y X.env)
      standAt pos
      holding [v, ov, iv] (setItem ov iv v)
      release [v, ov, iv] []) := by
  intro v
  cases y with
  | Slice l u s p =>
    rw [notSlice] at h
    cases h
  | _ => rfl
/-- an expression's rules: as a value, as a test, as an and, an or -/
structure Snd (t : Tx) (T : Tab) (cl : Call) (Wx : WX) (X : Cx) (e : Expr) (c : E) : Prop where
  pe : PE X e (tE t T cl Wx c)
  pt : PT X e (tT t T cl Wx c)
  pw : (∃ bo vs p, e = .BoolOp bo vs p) → PW X e (tT t T cl Wx c)
theorem mkS (B : Txt t T cl lv X) (h : chkE T N sc c e = true) (p : PE X e (tE t T cl Wx c)) (ho : ownT c = false := by rfl) : Snd t T cl Wx X e c :=
  ⟨p, r_truth B.K p (plainE ho h), fun ⟨bo, vs, q, z⟩ => by
    have := plainE ho h
    rw [z] at this
    cases this⟩

end
section
variable {t : Tx} {T : Tab} {cl : Call} {lv : Nat} {N : List Str}
mutual
theorem sE : ∀ (c : E) {X : Cx} {sc : Scope} {e : Expr} {Wx : WX}, Txt t T cl lv X → X.N = N → ScOk X sc → Takes X Wx → chkE T N sc c e = true → Snd t T cl Wx X e c
  | .var i, X, sc, e, Wx, B, hN, S, tk, h => mkS B h (by
    cases e with
    | Name x p =>
      obtain ⟨h1, h2⟩ := band h
      obtain ⟨h2, h3⟩ := band h2
      subst hN
      exact r_var (dec h1) (S.vis x h2) (notB h3)
    | _ => cases h)
  | .int i, X, sc, e, Wx, B, hN, S, tk, h => mkS B h (by
    cases e with
    | Constant k j p =>
      cases k with
      | int i2 =>
        have h1 : i = i2 := dec h
        subst h1
        exact r_int
      | _ => cases h
    | _ => cases h)
  | .bl i, X, sc, e, Wx, B, hN, S, tk, h => mkS B h (by
    cases e with
    | Constant k j p =>
      cases k with
      | bool i2 =>
        have h1 : i = i2 := dec h
        subst h1
        exact r_bl
      | _ => cases h
    | _ => cases h)
  | .non, X, sc, e, Wx, B, hN, S, tk, h => mkS B h (by
    cases e with
    | Constant k j p =>
      cases k with
      | none =>
        exact r_non
      | _ => cases h
    | _ => cases h)
  | .str i, X, sc, e, Wx, B, hN, S, tk, h => mkS B h (by
    cases e with
    | Constant k j p =>
      cases k with
      | str i2 =>
        have h1 : i = i2 := dec h
        subst h1
        exact r_str
      | _ => cases h
    | _ => cases h)
  | .bin op a b, X, sc, e, Wx, B, hN, S, tk, h => mkS B h (by
    cases e with
    | BinOp x op2 y p =>
      obtain ⟨h1, h2⟩ := band h
      obtain ⟨h2, h3⟩ := band h2
      have h4 : op = op2 := dec h1
      subst h4
      exact r_bin B.K (sE a B hN S tk h2).pe (sE b B hN S tk h3).pe
    | _ => cases h)
  | .neg a, X, sc, e, Wx, B, hN, S, tk, h => mkS B h (by
    cases e with
    | UnaryOp op x p =>
      cases op with
      | USub => exact r_neg (sE a B hN S tk h).pe
      | _ => cases h
    | _ => cases h)
  | .cmp op a b, X, sc, e, Wx, B, hN, S, tk, h => by
    cases e with
    | Compare x ops ys p =>
      cases ops with
      | nil => cases h
      | cons op2 r =>
        cases r with
        | cons _ _ => cases ys <;> cases h
        | nil =>
          cases ys with
          | nil => cases h
          | cons y r2 =>
            cases r2 with
            | cons _ _ => cases h
            | nil =>
              obtain ⟨h1, h2⟩ := band h
              obtain ⟨h2, h3⟩ := band h2
              have h4 : op = op2 := dec h1
              subst h4
              have i1 := sE a B hN S tk h2
              have i2 := sE b B hN S tk h3
              exact ⟨r_cmp B.K (hu1 B) i1.pe i2.pe (noMark h3 op), rt_cmp B.K (hu1 B) i1.pe i2.pe (noMark h3 op), (fun ⟨_, _, _, z⟩ => by cases z)⟩
    | _ => cases h
  | .chain op op2 a b c, X, sc, e, Wx, B, hN, S, tk, h => by
    cases e with
    | Compare x ops ys p =>
      cases ops with
      | nil => cases h
      | cons o1 r =>
        cases r with
        | nil => cases ys with
          | nil => cases h
          | cons _ ys2 => cases ys2 <;> cases h
        | cons o2 r2 =>
          cases r2 with
          | cons _ _ => cases h
          | nil =>
            cases ys with
            | nil => cases h
            | cons y r3 =>
              cases r3 with
              | nil => cases h
              | cons z r4 =>
                cases r4 with
                | cons _ _ => cases h
                | nil =>
                  obtain ⟨h1, h2⟩ := band h
                  obtain ⟨h2, h3⟩ := band h2
                  obtain ⟨h3, h4⟩ := band h3
                  obtain ⟨h4, h5⟩ := band h4
                  have q1 : op = o1 := dec h1
                  have q2 : op2 = o2 := dec h2
                  subst q1 q2
                  exact ⟨r_chain B.K (hu1 B) (sE a B hN S tk h3).pe (sE b B hN S tk h4).pe (sE c B hN S tk h5).pe (noMark h5 op2), rt_chain B.K (hu1 B) (sE a B hN S tk h3).pe (sE b B hN S tk h4).pe (sE c B hN S tk h5).pe (noMark h5 op2), (fun ⟨_, _, _, z⟩ => by cases z)⟩
    | _ => cases h
  | .and_ a b, X, sc, e, Wx, B, hN, S, tk, h => by
    cases e with
    | BoolOp bo vs p =>
      cases bo with
      | And =>
        cases vs with
        | nil => cases h
        | cons x r =>
          cases r with
          | nil => cases h
          | cons y r2 =>
            cases r2 with
            | nil =>
              obtain ⟨h1, h2⟩ := band h
              have i1 := sE a B hN S tk h1
              have i2 := sE b B hN S tk h2
              have w : PW X (.BoolOp .And [x, y] p) _ := rt_and i1.pt (pw_and1 i2.pt)
              exact ⟨r_and B.K i1.pe (pe_one i2.pe), w.pt, fun _ => w⟩
            | cons z r3 =>
              obtain ⟨h1, h2⟩ := band h
              have i1 := sE a B hN S tk h1
              have i2 := sE b B hN S tk h2
              have w : PW X (.BoolOp .And (x :: y :: z :: r3) p) _ := rt_and i1.pt (i2.pw ⟨_, _, _, rfl⟩)
              exact ⟨r_and B.K i1.pe i2.pe, w.pt, fun _ => w⟩
      | _ => cases h
    | _ => cases h
  | .or_ a b, X, sc, e, Wx, B, hN, S, tk, h => by
    cases e with
    | BoolOp bo vs p =>
      cases bo with
      | Or =>
        cases vs with
        | nil => cases h
        | cons x r =>
          cases r with
          | nil => cases h
          | cons y r2 =>
            cases r2 with
            | nil =>
              obtain ⟨h1, h2⟩ := band h
              have i1 := sE a B hN S tk h1
              have i2 := sE b B hN S tk h2
              have w : PW X (.BoolOp .Or [x, y] p) _ := rt_or i1.pt (pw_or1 i2.pt)
              exact ⟨r_or B.K i1.pe (pe_one i2.pe), w.pt, fun _ => w⟩
            | cons z r3 =>
              obtain ⟨h1, h2⟩ := band h
              have i1 := sE a B hN S tk h1
              have i2 := sE b B hN S tk h2
              have w : PW X (.BoolOp .Or (x :: y :: z :: r3) p) _ := rt_or i1.pt (i2.pw ⟨_, _, _, rfl⟩)
              exact ⟨r_or B.K i1.pe i2.pe, w.pt, fun _ => w⟩
      | _ => cases h
    | _ => cases h
  | .not_ a, X, sc, e, Wx, B, hN, S, tk, h => by
    cases e with
    | UnaryOp op x p =>
      cases op with
      | Not =>
        have i1 := sE a B hN S tk h
        exact ⟨r_not B.K i1.pe, rt_not i1.pt, (fun ⟨_, _, _, z⟩ => by cases z)⟩
      | _ => cases h
    | _ => cases h
  | .ife c a b, X, sc, e, Wx, B, hN, S, tk, h => by
    cases e with
    | IfExp x y z p =>
      obtain ⟨h1, h2⟩ := band h
      obtain ⟨h2, h3⟩ := band h2
      have i1 := sE c B hN S tk h1
      have i2 := sE a B hN S tk h2
      have i3 := sE b B hN S tk h3
      exact ⟨r_ife i1.pt i2.pe i3.pe, rt_ife i1.pt i2.pt i3.pt, (fun ⟨_, _, _, z⟩ => by cases z)⟩
    | _ => cases h
  | .tup as, X, sc, e, Wx, B, hN, S, tk, h => mkS B h (by
    cases e with
    | Tuple es k p =>
      exact r_tup (sA as B hN S tk h)
    | _ => cases h)
  | .frz f, X, sc, e, Wx, B, hN, S, tk, h => mkS B h (by
    exact r_frz (sF f B hN S tk (band h).2))
  | .heap f, X, sc, e, Wx, B, hN, S, tk, h => mkS B h (by
    exact r_heap (sF f B hN S tk (band h).2))
  | .frzr c, X, sc, e, Wx, B, hN, S, tk, h => mkS B h (by
    exact r_frzr (sE c B hN S tk (band h).2).pe)
  | .ix a b, X, sc, e, Wx, B, hN, S, tk, h => mkS B h (by
    cases e with
    | Subscript x y p =>
      obtain ⟨h1, h2⟩ := band h
      exact r_ix B.K (hu0 B) (sE a B hN S tk h1).pe (sE b B hN S tk h2).pe (plainIx h2)
    | _ => cases h)
  | .fld a f, X, sc, e, Wx, B, hN, S, tk, h => mkS B h (by
    cases e with
    | Attribute x nm p =>
      obtain ⟨h1, h2⟩ := band h
      obtain ⟨h2, h3⟩ := band h2
      exact r_fld B (B.nm f nm (dec h1)).1 (sE a B hN S tk h3).pe (base_ok h2 _ _ _)
    | _ => cases h)
  | .call f as, X, sc, e, Wx, B, hN, S, tk, h => mkS B h (by
    cases e with
    | Call fe es kws pos =>
      cases fe with
      | Name n p =>
        cases kws with
        | cons _ _ => cases h
        | nil =>
          obtain ⟨h1, k1⟩ := band h
          obtain ⟨h2, k2⟩ := band k1
          obtain ⟨h3, h4⟩ := band k2
          clear h k1 k2
          obtain ⟨ft, hf, hn⟩ := Option.map_eq_some_iff.mp (dec h1)
          cases es with
          | nil =>
            cases as with
            | nil => exact r_call0 B tk hf hn (S.gl n h2) (notB h3)
            | cons _ _ => cases h4
          | cons y ys =>
            cases as with
            | nil => cases h4
            | cons c cs =>
              obtain ⟨g1, g2⟩ := band h4
              exact r_call B tk hf hn (S.gl n h2) (notB h3) (sA (.cons c cs) B hN S tk h4) (star1 g1 _ _) (plainA _ _ g2)
      | _ => cases h
    | _ => cases h)
  | .meth o m as, X, sc, e, Wx, B, hN, S, tk, h => mkS B h (by
    cases e with
    | Call fe es kws pos =>
      cases fe with
      | Attribute x nm apos =>
        cases kws with
        | cons _ _ => cases h
        | nil =>
          obtain ⟨h1, h2⟩ := band h
          obtain ⟨h2, h3⟩ := band h2
          obtain ⟨h3, h4⟩ := band h3
          obtain ⟨h4, h5⟩ := band h4
          obtain ⟨h5, h6⟩ := band h5
          obtain ⟨q1, q2⟩ := B.nm m nm (dec h1)
          refine r_meth B tk q1 q2 (sE o B hN S tk h5).pe (sA as B hN S tk h6) (fun y ys e => ?_) (fun e => ?_) (meth_tree h2 h3 (formA _ h6 (dec h4)))
          · subst e
            cases as with
            | nil => cases h6
            | cons c cs =>
              obtain ⟨g1, g2⟩ := band h6
              exact ⟨star1 g1 _ _, plainA _ _ g2⟩
          · subst e
            cases as with
            | nil => rfl
            | cons c cs => cases h6
      | _ => cases h
    | _ => cases h)
  | .mk c as, X, sc, e, Wx, B, hN, S, tk, h => mkS B h (by
    cases e with
    | Call fe es kws pos =>
      cases fe with
      | Name n p =>
        cases kws with
        | cons _ _ => cases h
        | nil =>
          obtain ⟨h1, h2⟩ := band h
          obtain ⟨h0, h2⟩ := band h2
          obtain ⟨h2, h3⟩ := band h2
          obtain ⟨h3, h4⟩ := band h3
          obtain ⟨ct, hf, hn⟩ := Option.map_eq_some_iff.mp (dec h1)
          rw [hf] at h0
          obtain ⟨ift, hi⟩ := Option.isSome_iff_exists.mp h0
          refine r_mk B tk hf hn hi (S.gl n h2) (notB h3) (sA as B hN S tk h4) (fun y ys e => ?_) (fun e => ?_)
          · subst e
            cases as with
            | nil => cases h4
            | cons c cs =>
              obtain ⟨g1, g2⟩ := band h4
              exact ⟨star1 g1 _ _, plainA _ _ g2⟩
          · subst e
            cases as with
            | nil => rfl
            | cons c cs => cases h4
      | _ => cases h
    | _ => cases h)
  | .len a, X, sc, e, Wx, B, hN, S, tk, h => mkS B h (by
    cases e with
    | Call f args kws pos =>
      cases f with
      | Name n p =>
        cases args with
        | nil => cases h
        | cons y r1 =>
          cases r1 with
          | cons _ _ => cases h
          | nil =>
            cases kws with
            | cons _ _ => cases h
            | nil =>
              obtain ⟨h1, h2⟩ := band h
              obtain ⟨q1, q2⟩ := isG_ok S h1
              subst q1
              exact r_len B.K q2 (B.blt _ (by decide)) (star1 h2 _ _) (sE a B hN S tk h2).pe
      | _ => cases h
    | _ => cases h)
  | .abs a, X, sc, e, Wx, B, hN, S, tk, h => mkS B h (by
    cases e with
    | Call f args kws pos =>
      cases f with
      | Name n p =>
        cases args with
        | nil => cases h
        | cons y r1 =>
          cases r1 with
          | cons _ _ => cases h
          | nil =>
            cases kws with
            | cons _ _ => cases h
            | nil =>
              obtain ⟨h1, h2⟩ := band h
              obtain ⟨q1, q2⟩ := isG_ok S h1
              subst q1
              exact r_abs q2 (B.blt _ (by decide)) (star1 h2 _ _) (sE a B hN S tk h2).pe
      | _ => cases h
    | _ => cases h)
  | .sum a, X, sc, e, Wx, B, hN, S, tk, h => mkS B h (by
    cases e with
    | Call f args kws pos =>
      cases f with
      | Name n p =>
        cases args with
        | nil => cases h
        | cons y r1 =>
          cases r1 with
          | cons _ _ => cases h
          | nil =>
            cases kws with
            | cons _ _ => cases h
            | nil =>
              obtain ⟨h1, h2⟩ := band h
              obtain ⟨q1, q2⟩ := isG_ok S h1
              subst q1
              exact r_sum B.K B.calm q2 (B.blt _ (by decide)) (star1 h2 _ _) (sE a B hN S tk h2).pe
      | _ => cases h
    | _ => cases h)
  | .isi a q, X, sc, e, Wx, B, hN, S, tk, h => mkS B h (by
    cases e with
    | Call f args kws pos =>
      cases f with
      | Name n p =>
        cases args with
        | nil => cases h
        | cons y r1 =>
          cases r1 with
          | nil => cases h
          | cons z r2 =>
            cases r2 with
            | cons _ _ => cases h
            | nil =>
              cases kws with
              | cons _ _ => cases h
              | nil =>
                obtain ⟨h1, h2⟩ := band h
                obtain ⟨h2, h3⟩ := band h2
                obtain ⟨q1, q2⟩ := isG_ok S h1
                subst q1
                exact r_isi B S q2 (star1 h2 _ _) (sE a B hN S tk h2).pe h3
      | _ => cases h
    | _ => cases h)
  | .isiT a ts, X, sc, e, Wx, B, hN, S, tk, h => mkS B h (by
    cases e with
    | Call f args kws pos =>
      cases f with
      | Name n p =>
        cases args with
        | nil => cases kws <;> cases h
        | cons y r1 =>
          cases r1 with
          | nil => cases kws <;> cases h
          | cons z r2 =>
            cases z with
            | Tuple zs kk p2 =>
              cases r2 with
              | cons _ _ => cases h
              | nil =>
                cases kws with
                | cons _ _ => cases h
                | nil =>
                  obtain ⟨h1, h2⟩ := band h
                  obtain ⟨h2, h3⟩ := band h2
                  obtain ⟨h3, h4⟩ := band h3
                  obtain ⟨q1, q2⟩ := isG_ok S h1
                  subst q1
                  exact r_isiT B S q2 (star1 h2 _ _) (sE a B hN S tk h2).pe h3 (dec h4)
            | _ => cases h
      | _ => cases h
    | _ => cases h)
  | .all a, X, sc, e, Wx, B, hN, S, tk, h => mkS B h (by
    cases e with
    | Call f args kws pos =>
      cases f with
      | Name n p =>
        cases args with
        | nil => cases h
        | cons y r1 =>
          cases r1 with
          | cons _ _ => cases h
          | nil =>
            cases kws with
            | cons _ _ => cases h
            | nil =>
              obtain ⟨h1, h2⟩ := band h
              obtain ⟨q1, q2⟩ := isG_ok S h1
              subst q1
              exact r_all B.K B.calm q2 (B.blt _ (by decide)) (star1 h2 _ _) (sE a B hN S tk h2).pe
      | _ => cases h
    | _ => cases h)
  | .any a, X, sc, e, Wx, B, hN, S, tk, h => mkS B h (by
    cases e with
    | Call f args kws pos =>
      cases f with
      | Name n p =>
        cases args with
        | nil => cases h
        | cons y r1 =>
          cases r1 with
          | cons _ _ => cases h
          | nil =>
            cases kws with
            | cons _ _ => cases h
            | nil =>
              obtain ⟨h1, h2⟩ := band h
              obtain ⟨q1, q2⟩ := isG_ok S h1
              subst q1
              exact r_any B.K B.calm q2 (B.blt _ (by decide)) (star1 h2 _ _) (sE a B hN S tk h2).pe
      | _ => cases h
    | _ => cases h)
  | .slice fl fh a lo hi, X, sc, e, Wx, B, hN, S, tk, h => mkS B h (by
    cases e with
    | Subscript x y p =>
      cases y with
      | Slice l u st p2 =>
        cases st with
        | some _ => cases h
        | none =>
          obtain ⟨h1, h2⟩ := band h
          obtain ⟨h2, h3⟩ := band h2
          obtain ⟨p1, n1⟩ := po_of (X := X) (t := t) (cl := cl) (Wx := Wx) (T := T) (N := N) (sc := sc) h2 (fun y q => (sE lo B hN S tk q).pe)
          obtain ⟨p3, n3⟩ := po_of (X := X) (t := t) (cl := cl) (Wx := Wx) (T := T) (N := N) (sc := sc) h3 (fun y q => (sE hi B hN S tk q).pe)
          exact r_slice B.K (sE a B hN S tk h1).pe p1 p3 n1 n3
      | _ => cases h
    | _ => cases h)
  | .back a kk, X, sc, e, Wx, B, hN, S, tk, h => mkS B h (by
    cases e with
    | Subscript x y p =>
      cases y with
      | Slice l u st p2 =>
        cases l with
        | some _ => cases h
        | none =>
          cases u with
          | none => cases h
          | some u =>
            cases u with
            | Constant cu ju pu =>
              cases cu with
              | int j =>
                cases st with
                | none => cases h
                | some st =>
                  cases st with
                  | UnaryOp op z pz =>
                    cases op with
                    | USub =>
                      cases z with
                      | Constant cz jz pz2 =>
                        cases cz with
                        | int i =>
                          by_cases hi : i = 1
                          · subst hi
                            obtain ⟨h1, h2⟩ := band h
                            have h3 := dec h1
                            subst h3
                            exact r_back B.K (sE a B hN S tk h2).pe
                          · exfalso
                            have : chkE T N sc (.back a kk) (.Subscript x (.Slice none (some (.Constant (.int j) ju pu)) (some (.UnaryOp .USub (.Constant (.int i) jz pz2) pz)) p2) p) = false := by
                              unfold chkE
                              split <;> first | rfl | (rename_i q; simp at q; exact absurd q.2.1 hi) | simp_all
                            rw [this] at h
                            cases h
                        | _ => cases h
                      | _ => cases h
                    | _ => cases h
                  | _ => cases h
              | _ => cases h
            | _ => cases h
      | _ => cases h
    | _ => cases h)
  | .glo kk, X, sc, e, Wx, B, hN, S, tk, h => mkS B h (by
    cases e with
    | Name n p =>
      obtain ⟨h1, h2⟩ := band h
      obtain ⟨h2, h3⟩ := band h2
      exact r_glo B (dec h1) (S.gl n h2) (notB h3)
    | _ => cases h)
  | .mkK c kk as ks, X, sc, e, Wx, B, hN, S, tk, h => mkS B h (by
    cases e with
    | Call fe es kws pos =>
      cases fe with
      | Name n p =>
        obtain ⟨h1, h2⟩ := band h
        obtain ⟨h0, h2⟩ := band h2
        obtain ⟨h2, h3⟩ := band h2
        obtain ⟨h3, h4⟩ := band h3
        obtain ⟨h4, h5⟩ := band h4
        obtain ⟨h5, h6⟩ := band h5
        obtain ⟨h60, h6⟩ := band h6
        obtain ⟨ct, hf, hn⟩ := Option.map_eq_some_iff.mp (dec h1)
        rw [hf] at h0
        obtain ⟨ift, hi⟩ := Option.isSome_iff_exists.mp h0
        have h7 := dec h6
        cases hk : T.kws[kk]? with
        | none =>
          rw [hk] at h60
          cases h60
        | some kd =>
          rw [hk] at h7
          refine r_mkK B tk hf hn hi hk h7.symm (S.gl n h2) (notB h3) (sA as B hN S tk h4) (sK ks B hN S tk h5) (fun y ys e => ?_) (fun e => ?_)
          · subst e
            cases as with
            | nil => cases h4
            | cons c cs =>
              obtain ⟨g1, g2⟩ := band h4
              exact ⟨star1 g1 _ _, plainA _ _ h4⟩
          · subst e
            cases as with
            | nil => rfl
            | cons c cs => cases h4
      | _ => cases h
    | _ => cases h)
  | .eqI ng m a b, X, sc, e, Wx, B, hN, S, tk, h => by
    cases e with
    | Compare x ops ys p =>
      cases ops with
      | nil => cases h
      | cons op2 r =>
        cases r with
        | cons _ _ => cases ys <;> cases h
        | nil =>
          cases ys with
          | nil => cases h
          | cons y r2 =>
            cases r2 with
            | cons _ _ => cases h
            | nil =>
              obtain ⟨h1, h2⟩ := band h
              obtain ⟨h2, h3⟩ := band h2
              obtain ⟨h3, h4⟩ := band h3
              have i1 := sE a B hN S tk h3
              have i2 := sE b B hN S tk h4
              exact ⟨r_eqI B (dec h1) (dec h2) i1.pe i2.pe (noMark h4 op2), rt_eqI B (dec h1) (dec h2) i1.pe i2.pe (noMark h4 op2), (fun ⟨_, _, _, z⟩ => by cases z)⟩
    | _ => cases h
  | .append o a, X, sc, e, Wx, B, hN, S, tk, h => mkS B h (by
    cases e with
    | Call f args kws pos =>
      cases f with
      | Attribute x nm apos =>
        cases args with
        | nil => cases h
        | cons y r1 =>
          cases r1 with
          | cons _ _ => cases h
          | nil =>
            cases kws with
            | cons _ _ => cases h
            | nil =>
              obtain ⟨h1, h2⟩ := band h
              obtain ⟨h2, h3⟩ := band h2
              obtain ⟨h3, h4⟩ := band h3
              obtain ⟨h4, h5⟩ := band h4
              have q1 := dec h1
              subst q1
              exact r_append (me1_of h2 h3 h5) (sE o B hN S tk h4).pe (sE a B hN S tk h5).pe
      | _ => cases h
    | _ => cases h)
  | .pop o, X, sc, e, Wx, B, hN, S, tk, h => mkS B h (by
    cases e with
    | Call f args kws pos =>
      cases f with
      | Attribute x nm apos =>
        cases args with
        | cons _ _ => cases h
        | nil =>
          cases kws with
          | cons _ _ => cases h
          | nil =>
            obtain ⟨h1, h2⟩ := band h
            obtain ⟨h2, h3⟩ := band h2
            obtain ⟨h3, h4⟩ := band h3
            have q1 := dec h1
            subst q1
            exact r_pop h2 h3 (sE o B hN S tk h4).pe
      | _ => cases h
    | _ => cases h)
  | .popAt o a, X, sc, e, Wx, B, hN, S, tk, h => mkS B h (by
    cases e with
    | Call f args kws pos =>
      cases f with
      | Attribute x nm apos =>
        cases args with
        | nil => cases h
        | cons y r1 =>
          cases r1 with
          | cons _ _ => cases h
          | nil =>
            cases kws with
            | cons _ _ => cases h
            | nil =>
              obtain ⟨h1, h2⟩ := band h
              obtain ⟨h2, h3⟩ := band h2
              obtain ⟨h3, h4⟩ := band h3
              obtain ⟨h4, h5⟩ := band h4
              have q1 := dec h1
              subst q1
              exact r_popAt (me1_of h2 h3 h5) (sE o B hN S tk h4).pe (sE a B hN S tk h5).pe
      | _ => cases h
    | _ => cases h)
  | .dget2 o a b, X, sc, e, Wx, B, hN, S, tk, h => mkS B h (by
    cases e with
    | Call f args kws pos =>
      cases f with
      | Attribute x nm apos =>
        cases args with
        | nil => cases h
        | cons y r1 =>
          cases r1 with
          | nil => cases h
          | cons z r2 =>
            cases r2 with
            | cons _ _ => cases h
            | nil =>
              cases kws with
              | cons _ _ => cases h
              | nil =>
                obtain ⟨h1, h2⟩ := band h
                obtain ⟨h2, h3⟩ := band h2
                obtain ⟨h3, h4⟩ := band h3
                obtain ⟨h4, h5⟩ := band h4
                obtain ⟨h5, h6⟩ := band h5
                have q1 := dec h1
                subst q1
                exact r_dget2 (hu0 B) (m2_of h2 h3 h5 h6) (sE o B hN S tk h4).pe (sE a B hN S tk h5).pe (sE b B hN S tk h6).pe
      | _ => cases h
    | _ => cases h)
  | .dnew tt, X, sc, e, Wx, B, hN, S, tk, h => mkS B h (by
    cases e with
    | Dict ks vs p =>
      cases ks with
      | cons _ _ => cases h
      | nil =>
        cases vs with
        | cons _ _ => cases h
        | nil => exact r_dnew
    | _ => cases h)
theorem sA : ∀ (c : A) {X : Cx} {sc : Scope} {es : List Expr} {Wx : WX}, Txt t T cl lv X → X.N = N → ScOk X sc → Takes X Wx → chkA T N sc c es = true → PA X es (tA t T cl Wx c)
  | .nil, X, sc, es, Wx, B, hN, S, tk, h => by
    cases es with
    | nil => exact r_anil
    | cons _ _ => cases h
  | .cons a as, X, sc, es, Wx, B, hN, S, tk, h => by
    cases es with
    | nil => cases h
    | cons e es =>
      obtain ⟨h1, h2⟩ := band h
      exact r_acons (sE a B hN S tk h1).pe (sA as B hN S tk h2) (star1 h1 _ _)
theorem sK : ∀ (c : A) {X : Cx} {sc : Scope} {kws : List Keyword} {Wx : WX}, Txt t T cl lv X → X.N = N → ScOk X sc → Takes X Wx → chkA T N sc c (kws.map (·.value)) = true → PK X kws (tA t T cl Wx c)
  | .nil, X, sc, kws, Wx, B, hN, S, tk, h => by
    cases kws with
    | nil => exact r_knil
    | cons _ _ => cases h
  | .cons a as, X, sc, kws, Wx, B, hN, S, tk, h => by
    cases kws with
    | nil => cases h
    | cons kw kws =>
      obtain ⟨nm, e, kp⟩ := kw
      obtain ⟨h1, h2⟩ := band h
      exact r_kcons (sE a B hN S tk h1).pe (sK as B hN S tk h2)
theorem sF : ∀ (c : F) {X : Cx} {sc : Scope} {e : Expr} {Wx : WX}, Txt t T cl lv X → X.N = N → ScOk X sc → Takes X Wx → chkF T N sc c e = true → PE X e (tF t T cl Wx c)
  | .disp as, X, sc, e, Wx, B, hN, S, tk, h => by
    cases e with
    | List es p =>
      exact r_disp (sA as B hN S tk h)
    | _ => cases h
  | .list a, X, sc, e, Wx, B, hN, S, tk, h => by
    cases e with
    | Call f args kws pos =>
      cases f with
      | Name n p =>
        cases args with
        | nil => cases h
        | cons y r1 =>
          cases r1 with
          | cons _ _ => cases h
          | nil =>
            cases kws with
            | cons _ _ => cases h
            | nil =>
              obtain ⟨h1, h2⟩ := band h
              obtain ⟨q1, q2⟩ := isG_ok S h1
              subst q1
              exact r_list B.K q2 (B.blt _ (by decide)) (star1 h2 _ _) (sE a B hN S tk h2).pe
      | _ => cases h
    | _ => cases h
  | .comp own g it test ce, X, sc, e, Wx, B, hN, S, tk, h => by
    cases e with
    | ListComp elt gens scope p =>
      cases gens with
      | nil => cases h
      | cons g1 r =>
        cases r with
        | cons _ _ =>
          obtain ⟨tg, iter, ifs, k⟩ := g1
          cases h
        | nil =>
          obtain ⟨tg, iter, ifs, k⟩ := g1
          obtain ⟨h0, h⟩ := band h
          have h0' : k = 0 := dec h0
          subst h0'
          · obtain ⟨h1, h2⟩ := band h
            obtain ⟨h1, h3⟩ := band h1
            obtain ⟨h2, h4⟩ := band h2
            obtain ⟨h2, h5⟩ := band h2
            obtain ⟨h4, h6⟩ := band h4
            obtain ⟨h7, h6⟩ := band h6
            have e1 : (own.map fun i => (N.getD i Str.empty, i)).map (·.2) = own := by rw [List.map_map]; exact List.map_id own
            have bo := blkOk_by h3
            have bo2 : BlkOk X.N X.env.scope scope (own.map fun i => (N.getD i Str.empty, i)) := by
              rw [hN]
              exact ⟨bo.kind, bo.uniq, bo.ix, fun y hy z => S.fre _ (bo.free y hy z), bo.own⟩
            have hn : ∀ j ∈ g.names, j ∈ (own.map fun i => (N.getD i Str.empty, i)).map (·.2) := fun j hj => by
              rw [e1]
              exact List.contains_iff_mem.mp (List.all_eq_true.mp h5 j hj)
            have hi := sI it B hN S tk h1
            have hg := fun (s : Shared) (H : Hp) (C : Addr) (cl' : List (Str × Addr)) (fp : List Addr) => sG g (X := X.blk s H scope (compEnvC scope cl' C X.env) fp) B.blk hN sc_blk takes0 h2
            have he := fun (s : Shared) (H : Hp) (C : Addr) (cl' : List (Str × Addr)) (fp : List Addr) => (sE ce (X := X.blk s H scope (compEnvC scope cl' C X.env) fp) B.blk hN sc_blk takes0 h4).pe
            have ht : ∀ (s : Shared) (H : Hp) (C : Addr) (cl' : List (Str × Addr)) (fp : List Addr), PTs (X.blk s H scope (compEnvC scope cl' C X.env) fp) ifs (tTs t T cl test) := fun s H C cl' fp => by
              cases test with
              | nil =>
                cases ifs with
                | nil => exact pts_nil
                | cons _ _ => cases h6
              | cons d ds =>
                cases ifs with
                | nil => cases h6
                | cons f r =>
                  obtain ⟨h8, h9⟩ := band h6
                  cases r with
                  | cons _ _ =>
                    have := dec h7
                    simp at this
                  | nil => exact pts_one (sE d (X := X.blk s H scope (compEnvC scope cl' C X.env) fp) B.blk hN sc_blk takes0 h8).pt
            have main : PE X (.ListComp elt [⟨tg, iter, ifs, 0⟩] scope p) _ := PEimp (pe_lc B.calm B.nd hi bo2 hg ht he (notSetI h1 X.env)) (f_comp (Wx := Wx) B.K B.calm B.nd hi bo2 hg ht he hn)
            rw [e1] at main
            exact main
    | _ => cases h
  | .rep a b, X, sc, e, Wx, B, hN, S, tk, h => by
    cases e with
    | BinOp x op y p =>
      cases op with
      | Mult =>
        obtain ⟨h1, h2⟩ := band h
        exact f_rep (sE a B hN S tk h1).pe (sE b B hN S tk h2).pe
      | _ => cases h
    | _ => cases h
  | .slice fl fh a lo hi, X, sc, e, Wx, B, hN, S, tk, h => by
    cases e with
    | Subscript x y p =>
      cases y with
      | Slice l u st p2 =>
        cases st with
        | some _ => cases h
        | none =>
          obtain ⟨h1, h2⟩ := band h
          obtain ⟨h2, h3⟩ := band h2
          obtain ⟨p1, n1⟩ := po_of (X := X) (t := t) (cl := cl) (Wx := Wx) (T := T) (N := N) (sc := sc) h2 (fun y q => (sE lo B hN S tk q).pe)
          obtain ⟨p3, n3⟩ := po_of (X := X) (t := t) (cl := cl) (Wx := Wx) (T := T) (N := N) (sc := sc) h3 (fun y q => (sE hi B hN S tk q).pe)
          exact f_slice B.K (sE a B hN S tk h1).pe p1 p3 n1 n3
      | _ => cases h
    | _ => cases h
  | .cat _ _, X, sc, e, Wx, B, hN, S, tk, h => by cases e <;> cases h
  | .sorted _, X, sc, e, Wx, B, hN, S, tk, h => by cases e <;> cases h
theorem sI : ∀ (c : I) {X : Cx} {sc : Scope} {tg e : Expr} {Wx : WX}, Txt t T cl lv X → X.N = N → ScOk X sc → Takes X Wx → chkI T N sc c tg e = true → PI X tg e (tI t T cl Wx c)
  | .seq a, X, sc, tg, e, Wx, B, hN, S, tk, h => i_seq B.K (sE a B hN S tk h).pe
  | .range a, X, sc, tg, e, Wx, B, hN, S, tk, h => by
    cases e with
    | Call f args kws pos =>
      cases f with
      | Name n p =>
        cases args with
        | nil => cases h
        | cons y r1 =>
          cases r1 with
          | cons _ _ => cases h
          | nil =>
            cases kws with
            | cons _ _ => cases h
            | nil =>
              obtain ⟨h1, h2⟩ := band h
              obtain ⟨q1, q2⟩ := isG_ok S h1
              subst q1
              exact i_range q2 (B.blt _ (by decide)) (star1 h2 _ _) (sE a B hN S tk h2).pe
      | _ => cases h
    | _ => cases h
  | .range2 a b, X, sc, tg, e, Wx, B, hN, S, tk, h => by
    cases e with
    | Call f args kws pos =>
      cases f with
      | Name n p =>
        cases args with
        | nil => cases h
        | cons y r1 =>
          cases r1 with
          | nil => cases h
          | cons z r2 =>
            cases r2 with
            | cons _ _ => cases h
            | nil =>
              cases kws with
              | cons _ _ => cases h
              | nil =>
                obtain ⟨h1, h2⟩ := band h
                obtain ⟨h2, h3⟩ := band h2
                obtain ⟨q1, q2⟩ := isG_ok S h1
                subst q1
                exact i_range2 q2 (B.blt _ (by decide)) (by rw [star1 h2, star1 h3]; rfl) (star1 h3 _ _) (sE a B hN S tk h2).pe (sE b B hN S tk h3).pe
      | _ => cases h
    | _ => cases h
  | .enum a, X, sc, tg, e, Wx, B, hN, S, tk, h => by
    cases tg with
    | Tuple es k tp =>
      cases e with
      | Call f args kws pos =>
        cases f with
        | Name n p =>
          cases args with
          | nil => cases h
          | cons y r1 =>
            cases r1 with
            | cons _ _ => cases h
            | nil =>
              cases kws with
              | cons _ _ => cases h
              | nil =>
                obtain ⟨h1, h2⟩ := band h
                obtain ⟨q1, q2⟩ := isG_ok S h1
                subst q1
                exact i_enum B.K q2 (B.blt _ (by decide)) (star1 h2 _ _) (sE a B hN S tk h2).pe
        | _ => cases h
      | _ => cases h
    | _ => cases h
theorem sG : ∀ (c : G) {X : Cx} {sc : Scope} {e : Expr} {Wx : WX}, Txt t T cl lv X → X.N = N → ScOk X sc → Takes X Wx → chkG T N sc c e = true → PG X e (tG t T cl Wx c)
  | .name i, X, sc, e, Wx, B, hN, S, tk, h => by
    cases e with
    | Name x p =>
      obtain ⟨h1, h2⟩ := band h
      subst hN
      exact g_name B.nd (dec h1) (S.loc x h2)
    | _ => cases h
  | .tup gs, X, sc, e, Wx, B, hN, S, tk, h => by
    cases e with
    | Tuple es k p =>
      obtain ⟨h1, h2⟩ := starGs X.env (show chkGs T N sc gs es = true from h)
      exact g_tup B.calm (sGs gs B hN S tk h) (by rw [h1, List.length_map, h2]) (by rw [h1]; exact noStarIx es X.env)
    | _ => cases h
  | .sub o i, X, sc, e, Wx, B, hN, S, tk, h => by
    cases e with
    | Subscript x y p =>
      obtain ⟨h1, h2⟩ := band h
      exact g_sub (hu0 B) (sE o B hN S tk h1).pe (sE i B hN S tk h2).pe (subTree h2)
    | _ => cases h
  | .fld o f, X, sc, e, Wx, B, hN, S, tk, h => by
    cases e with
    | Attribute x nm p =>
      obtain ⟨h1, h2⟩ := band h
      exact g_fld B (B.nm f nm (dec h1)).1 (sE o B hN S tk h2).pe
    | _ => cases h
theorem sGs : ∀ (c : Gs) {X : Cx} {sc : Scope} {es : List Expr} {Wx : WX}, Txt t T cl lv X → X.N = N → ScOk X sc → Takes X Wx → chkGs T N sc c es = true → PGs X es (tGs t T cl Wx c)
  | .nil, X, sc, es, Wx, B, hN, S, tk, h => by
    cases es with
    | nil => exact g_nil
    | cons _ _ => cases h
  | .cons g gs, X, sc, es, Wx, B, hN, S, tk, h => by
    cases es with
    | nil => cases h
    | cons e es =>
      obtain ⟨h1, h2⟩ := band h
      exact g_cons (sG g B hN S tk h1) (sGs gs B hN S tk h2) (starG h1 _ _)
end
end
end VM

set_option Elab.async false
set_option linter.all false
set_option maxRecDepth 100000
set_option maxHeartbeats 16000000
/-! VmM: statements. -/
namespace VM
open PySem L2 PyProof.Rows
/-! ### which code is which statement -/
/-- a comprehension that is stored to a name of its own line: it is stored within its frame -/
def swC (sc : Scope) : Expr → Expr → Bool
  | .Name y py, .ListComp _ _ scope pos => lclB sc y && ((py.line == pos.line) && !(scope.names.any fun (n, k) => n == y && (k == .local || k == .cell)))
  | _, _ => false
/-- no such store -/
def noSw (sc : Scope) : Expr → Expr → Bool
  | .Name y py, .ListComp _ _ scope pos => !(py.line == pos.line)
  | .Name y py, .SetComp _ _ scope pos => false
  | .Name y py, .DictComp _ _ _ scope pos => !(py.line == pos.line)
  | .Tuple ts _ _, .Tuple vs _ _ => (ts.any fun | .Name _ _ => false | _ => true) || vs.all (foldedForSure 8)
  | .List _ _, _ => false
  | _, _ => true
def G.isName : G → Bool
  | .name _ => true
  | _ => false
def E.isComp : E → Bool
  | .frz (.comp _ _ _ _ _) => true
  | .heap (.comp _ _ _ _ _) => true
  | _ => false
def notComp : Expr → Bool
  | .ListComp _ _ _ _ => false
  | .SetComp _ _ _ _ => false
  | .DictComp _ _ _ _ _ => false
  | _ => true
section
variable (T : Tab) (N : List Str)
mutual
def chkS (sc : Scope) : S → Stmt → Bool
  | .skip, .Pass _ => true
  | .skip, .Expr (.Constant (.str _) _ _) _ => true
  | .asg g e, .Assign [tg] v _ => chkG T N sc g tg && (chkE T N sc e v && (noSw sc tg v || (g.isName && (e.isComp && swC sc tg v))))
  | .asg2 i j a b, .Assign [.Tuple [.Name x px, .Name y py] _ _] (.Tuple [v, u] _ _) _ => decide (N[i]? = some x) && (decide (N[j]? = some y) && (decide (i ≠ j) && (lclB sc x && (lclB sc y && (chkE T N sc a v && (chkE T N sc b u && ((py.line == px.line) && (!([v, u].all (foldedForSure 8)) && (!([v, u].all (constantsAlone 8)) && !(x == y))))))))))
  | .expr e, .Expr v _ => notComp v && chkE T N sc e v
  | .ret e, .Return (some v) _ => chkE T N sc e v
  | .retN, .Return none _ => true
  | .if_ c a b, .If x p q _ => chkE T N sc c x && (chkB sc a p && chkB sc b q)
  | .for_ g it b, .For tg iter p [] _ => chkI T N sc it tg iter && (chkG T N sc g tg && chkB sc b p)
  | .while_ c b, .While x p [] _ => chkE T N sc c x && chkB sc b p
  | .brk, .Break _ => true
  | .cont, .Continue _ => true
  | .never, _ => true
  | _, _ => false
def chkB (sc : Scope) : S → List Stmt → Bool
  | .skip, [] => true
  | .never, _ => true
  | .seq a b, s :: r => chkS sc a s && chkB sc b r
  | _, _ => false
end
end
section
variable {t : Tx} {T : Tab} {cl : Call} {W : Nat} {lv : Nat} {N : List Str} {X : Cx} {sc : Scope} {Wx : WX} {e : Expr} {a b c : E} {x y z : Expr} {pos apos : Pos} {as : A} {es : List Expr}
def PostS (t : Tx) (Wx : WX) (n : Nat) (D : Ends) (w : Wd) : Out → Prop
  | .nx σd h => ∀ w' σ', w'.Ok t → Step w w' → w'.h = h → Good t w' σd σ' → σ'.length = n → D.nx σ' w'.H
  | .rt d h => ∀ w' v, w'.Ok t → Step w w' → w'.h = h → R t w' d v → D.rt v w'.H
  | .bk σd h => ∀ w' σ', w'.Ok t → Step w w' → w'.h = h → Good t w' σd σ' → σ'.length = n → D.bk σ' w'.H
  | .ct σd h => ∀ w' σ', w'.Ok t → Step w w' → w'.h = h → Good t w' σd σ' → σ'.length = n → D.ct σ' w'.H
  | .ex x σd h => ∀ w' c d σ', w'.Ok t → Step w w' → w'.h = h → RX t w' x c d → Good t w' σd σ' → σ'.length = n → Wx c d σ' w'.H
  | .bad => False
def tS (t : Tx) (T : Tab) (cl : Call) (W : Nat) (Wx : WX) (c : S) : TS := fun D σ H => ∃ w σd, w.H = H ∧ w.Ok t ∧ Good t w σd σ ∧ PostS t Wx σ.length D w (exec T cl W c σd w.h)
theorem PSimp {st : Stmt} {t1 t2 : TS} (h : PS X st t1) (i : ∀ D σ H, t2 D σ H → t1 D σ H) : PS X st t2 := ⟨fun pins s σ H D I q => h.run pins s σ H D I (i D σ H q)⟩
theorem PSsimp {st : List Stmt} {t1 t2 : TS} (h : PSs X st t1) (i : ∀ D σ H, t2 D σ H → t1 D σ H) : PSs X st t2 := ⟨fun pins s σ H D I q => h.run pins s σ H D I (i D σ H q)⟩
theorem PostS.to {n : Nat} {D : Ends} {w w1 : Wd} {o : Out} (s : Step w w1) (h : PostS t Wx n D w o) : PostS t Wx n D w1 o := by
  cases o with
  | nx σd h' => exact fun w' σ' k st e g l => h w' σ' k (s.trans st) e g l
  | rt d h' => exact fun w' v k st e r => h w' v k (s.trans st) e r
  | bk σd h' => exact fun w' σ' k st e g l => h w' σ' k (s.trans st) e g l
  | ct σd h' => exact fun w' σ' k st e g l => h w' σ' k (s.trans st) e g l
  | ex x σd h' => exact fun w' c d σ' k st e r g l => h w' c d σ' k (s.trans st) e r g l
  | bad => exact h
/-- an expression at a statement's start -/
theorem PostS.of {α β : Type} {D : Ends} {w : Wd} {σd : Sl} {σ : L2.St} {RA : Wd → α → β → Prop} {r : Res α} {f : α → Hs → Out} (g : Good t w σd σ) (h : PostS t Wx σ.length D w (r.out σd f)) :
    Post t Wx σ w RA (fun v H1 => ∃ w1 d, w1.H = H1 ∧ w1.Ok t ∧ Step w w1 ∧ RA w1 d v ∧ PostS t Wx σ.length D w1 (f d w1.h)) r := by
  cases r with
  | ok d h' =>
    intro w' v k st e rr
    refine ⟨w', d, rfl, k, st, rr, ?_⟩
    rw [e]
    exact PostS.to st h
  | ex x h' => exact fun w' c d k s e r => h w' c d σ k s e r (g.mono s.toExt) rfl
  | bad => exact h
theorem none_good {w : Wd} {σ0 : Sl} {σ : L2.St} (h : σ0.length = σ.length) : Good t w (σ0.map fun _ => none) σ :=
  ⟨by rw [List.length_map, h], fun i d e => by
    unfold getSl at e
    rw [List.getElem?_map] at e
    cases q : σ0[i]? with
    | none =>
      rw [q] at e
      cases e
    | some u =>
      rw [q] at e
      cases e⟩
/-- a store within a statement -/
theorem PostG.out {ns : List Nat} {n : Nat} {D : Ends} {w : Wd} {σd : Sl} {σ : L2.St} {r : Res Sl} {f : Sl → Hs → Out} (hn : σ.length = n) (g : σd.length = σ.length) (h : PostS t Wx n D w (r.out (σd.map fun _ => none) f)) :
    PostG t Wx ns σ w (fun σ' H' => ∃ w1 σ1, w1.H = H' ∧ w1.Ok t ∧ Step w w1 ∧ Good t w1 σ1 σ' ∧ σ'.length = σ.length ∧ PostS t Wx n D w1 (f σ1 w1.h)) r := by
  cases r with
  | ok σ1 h' =>
    intro w' σ' k st e g' l _
    refine ⟨w', σ1, rfl, k, st, g', l, ?_⟩
    rw [e]
    exact PostS.to st h
  | ex x h' => exact fun w' c d σ' k s e r l => h w' c d σ' k s e r (none_good (g.trans l.symm)) (l.trans hn)
  | bad => exact h
theorem r_skip {st : Stmt} (h : PS X st tNext) : PS X st (tS t T cl W Wx .skip) := PSimp h fun D σ H ⟨w, σd, e, k, g, p⟩ => by
  subst e
  exact p w σ k (Step.refl _) rfl g rfl
theorem r_bnil : PSs X [] (tS t T cl W Wx .skip) := PSsimp pss_nil fun D σ H ⟨w, σd, e, k, g, p⟩ => by
  subst e
  exact p w σ k (Step.refl _) rfl g rfl
theorem r_seq {st : Stmt} {rest : List Stmt} {p q : S} (h1 : PS X st (tS t T cl W Wx p)) (h2 : PSs X rest (tS t T cl W Wx q)) : PSs X (st :: rest) (tS t T cl W Wx (.seq p q)) :=
  PSsimp (pss_cons h1 h2) fun D σ H ⟨w, σd, e, k, g, pp⟩ => by
    refine ⟨w, σd, e, k, g, ?_⟩
    have p1 : PostS t Wx σ.length D w ((exec T cl W p σd w.h).andThen fun σ1 h1 => exec T cl W q σ1 h1) := pp
    cases ho : exec T cl W p σd w.h with
    | nx σ1 h' =>
      rw [ho] at p1
      intro w' σ' k' s' e' g' l'
      refine ⟨w', σ1, rfl, k', g', ?_⟩
      rw [e', l']
      exact PostS.to s' p1
    | rt d h' =>
      rw [ho] at p1
      exact p1
    | bk σ1 h' =>
      rw [ho] at p1
      exact p1
    | ct σ1 h' =>
      rw [ho] at p1
      exact p1
    | ex u σ1 h' =>
      rw [ho] at p1
      exact p1
    | bad =>
      rw [ho] at p1
      exact p1
theorem r_asg' {st : Stmt} {g : G} {te : TE} {tg : TG} (hs : PS X st (tAsg te tg)) (h1 : ∀ σ H Q, tE t T cl Wx a σ H Q → te σ H Q) (h2 : ∀ v σ H Q, tG t T cl Wx g v σ H Q → tg v σ H Q) : PS X st (tS t T cl W Wx (.asg g a)) :=
  PSimp hs fun D σ H ⟨w, σd, e, k, gd, p⟩ => by
    refine h1 σ H _ ⟨w, σd, e, k, gd, (PostS.of gd p).imp ?_⟩
    rintro v1 H1 ⟨w1, d1, rfl, k1, s1, r1, p1⟩
    have gd1 := gd.mono s1.toExt
    refine h2 _ _ _ _ ⟨w1, σd, d1, rfl, k1, gd1, r1, ?_⟩
    have p2 := PostG.out (ns := g.names) rfl gd1.len p1
    cases ho : evG T cl g d1 σd w1.h with
    | ok σ1 h' =>
      rw [ho] at p2
      intro w' σ' k' s' e' g' l' a'
      obtain ⟨w2, σ2, e2, k2, s2, g2, l2, p3⟩ := p2 w' σ' k' s' e' g' l' a'
      rw [← e2]
      exact p3 w2 σ' k2 (Step.refl _) rfl g2 l2
    | ex u h' =>
      rw [ho] at p2
      exact p2
    | bad =>
      rw [ho] at p2
      exact p2
theorem r_asg {tg v : Expr} {g : G} (he : PE X v (tE t T cl Wx a)) (hg : PG X tg (tG t T cl Wx g)) (hs : swapsWithSole [tg] v pos.line X.env = pure false) (hw : swappedStores [tg] v X.env = pure none) (h1 : (assignEach [tg] X.env).map (·.2) = [assign tg X.env]) :
    PS X (.Assign [tg] v pos) (tS t T cl W Wx (.asg g a)) := r_asg' (ps_asg he hg hs hw h1) (fun _ _ _ h => h) (fun _ _ _ _ h => h)
theorem r_par {i j : Nat} {n m : Str} {px py pt : Pos} {kt k2 pt2} (hc : X.calm = true) (hN : X.N.Nodup) (hi : X.N[i]? = some n) (hj : X.N[j]? = some m) (hij : i ≠ j)
    (hx : X.env.scope.names.lookup n = some .local) (hy : X.env.scope.names.lookup m = some .local) (ha : PE X x (tE t T cl Wx a)) (hb : PE X y (tE t T cl Wx b)) (s1 : starEach [x, y] X.env = (false, eval x X.env) :: starEach [y] X.env) (s2 : starEach [y] X.env = (false, eval y X.env) :: starEach [] X.env)
    (hw : swappedStores [.Tuple [.Name n px, .Name m py] kt pt] (.Tuple [x, y] k2 pt2) X.env = pure (some [n, m])) : PS X (.Assign [.Tuple [.Name n px, .Name m py] kt pt] (.Tuple [x, y] k2 pt2) pos) (tS t T cl W Wx (.asg2 i j a b)) :=
  PSimp (ps_par hc hN hi hj hij hx hy (pa_cons ha (pa_cons hb pa_nil s2) s1) hw rfl) fun D σ H ⟨w, σd, e, k, g, p⟩ => by
    refine ⟨w, σd, e, k, g, (PostS.of g p).imp ?_⟩
    rintro v1 H1 ⟨w1, d1, rfl, k1, st1, r1, p1⟩
    have g1 := g.mono st1.toExt
    refine ⟨w1, σd, rfl, k1, g1, (PostS.of g1 p1).imp ?_⟩
    rintro v2 H2 ⟨w2, d2, rfl, k2, st2, r2, p2⟩
    refine ⟨v1, v2, rfl, p2 w2 _ k2 (Step.refl _) rfl (((g1.mono st2.toExt).set (r1.mono t st2.toExt)).set r2) (by rw [List.length_set, List.length_set])⟩
theorem r_expr (he : PE X x (tE t T cl Wx a)) (hs : swapsWith x none pos.line X.env = pure false) : PS X (.Expr x pos) (tS t T cl W Wx (.expr a)) :=
  PSimp (ps_expr he hs) fun D σ H ⟨w, σd, e, k, g, p⟩ => by
    refine ⟨w, σd, e, k, g, (PostS.of g p).imp ?_⟩
    rintro v1 H1 ⟨w1, d1, rfl, k1, st1, r1, p1⟩
    exact p1 w1 σ k1 (Step.refl _) rfl (g.mono st1.toExt) rfl
theorem r_ret (he : PE X x (tE t T cl Wx a)) : PS X (.Return (some x) pos) (tS t T cl W Wx (.ret a)) :=
  PSimp (ps_ret he) fun D σ H ⟨w, σd, e, k, g, p⟩ => by
    refine ⟨w, σd, e, k, g, (PostS.of g p).imp ?_⟩
    rintro v1 H1 ⟨w1, d1, rfl, k1, st1, r1, p1⟩
    exact p1 w1 v1 k1 (Step.refl _) rfl r1
theorem r_retN : PS X (.Return none pos) (tS t T cl W Wx .retN) := PSimp ps_retN fun D σ H ⟨w, σd, e, k, g, p⟩ => by
  subst e
  exact p w .non k (Step.refl _) rfl rfl
theorem r_if {p q : S} {l1 l2 : List Stmt} (hc : PT X x (tT t T cl Wx c)) (h1 : PSs X l1 (tS t T cl W Wx p)) (h2 : PSs X l2 (tS t T cl W Wx q)) : PS X (.If x l1 l2 pos) (tS t T cl W Wx (.if_ c p q)) :=
  PSimp (ps_if hc h1 h2) fun D σ H ⟨w, σd, e, k, g, pp⟩ => by
    refine ⟨w, σd, e, k, g, (PostS.of g pp).imp ?_⟩
    rintro v1 H1 ⟨w1, d1, rfl, k1, st1, r1, p1⟩
    have e1 : d1 = v1 := r1
    subst e1
    cases d1 with
    | true =>
      rw [if_pos rfl]
      exact ⟨w1, σd, rfl, k1, g.mono st1.toExt, p1⟩
    | false =>
      rw [if_neg Bool.false_ne_true]
      exact ⟨w1, σd, rfl, k1, g.mono st1.toExt, p1⟩
theorem r_brk : PS X (.Break pos) (tS t T cl W Wx .brk) := PSimp ps_break fun D σ H ⟨w, σd, e, k, g, p⟩ => by
  subst e
  exact p w σ k (Step.refl _) rfl g rfl
theorem r_cont : PS X (.Continue pos) (tS t T cl W Wx .cont) := PSimp ps_continue fun D σ H ⟨w, σd, e, k, g, p⟩ => by
  subst e
  exact p w σ k (Step.refl _) rfl g rfl
/-- a loop's body within a loop: what follows the turn -/
theorem PostS.turn {n : Nat} {D : Ends} {w : Wd} {o : Out} {go : Sl → Hs → Out} {NX : L2.St → Hp → Prop} (h : PostS t Wx n D w (o.turn go)) (i : ∀ w' σ' σd, w'.Ok t → Step w w' → Good t w' σd σ' → σ'.length = n → PostS t Wx n D w' (go σd w'.h) → NX σ' w'.H) :
    PostS t Wx n { D with nx := NX, ct := NX, bk := D.nx } w o := by
  cases o with
  | nx σd h' =>
    intro w' σ' k st e g l
    refine i w' σ' σd k st g l ?_
    rw [e]
    exact PostS.to st h
  | ct σd h' =>
    intro w' σ' k st e g l
    refine i w' σ' σd k st g l ?_
    rw [e]
    exact PostS.to st h
  | bk σd h' => exact h
  | rt d h' => exact h
  | ex u σd h' => exact h
  | bad => exact h
theorem r_for {tg iter : Expr} {g : G} {it : I} {q : S} {l : List Stmt} (hp : PassesOwn (model X.prog X.w) X.A X.env X.xe) (hc : X.calm = true) (hi : PI X tg iter (tI t T cl Wx it)) (hg : PG X tg (tG t T cl Wx g)) (hb : PSs X l (tS t T cl W Wx q)) (hs : ∀ x, foldedSetIterable iter X.env x = pure x) :
    PS X (.For tg iter l [] pos) (tS t T cl W Wx (.for_ g it q)) :=
  PSimp (ps_for hp hc hi hg hb hs) fun D σ H ⟨w, σd, e, k, gd, p⟩ => by
    refine ⟨w, σd, e, k, gd, ?_⟩
    have p1 : PostS t Wx σ.length D w ((evI T cl it σd w.h).out σd fun ds h1 => loopD (fun d σ1 h2 => (evG T cl g d σ1 h2).out (σ1.map fun _ => none) fun σ2 h3 => exec T cl W q σ2 h3) ds σd h1) := p
    cases q0 : evI T cl it σd w.h with
    | ex u h' =>
      rw [q0] at p1
      exact fun w' c d k' s' e' r' => p1 w' c d σ k' s' e' r' (gd.mono s'.toExt) rfl
    | bad =>
      rw [q0] at p1
      exact p1
    | ok ds h' =>
      rw [q0] at p1
      intro w1 J k1 s1 e1 j
      have p2 : PostS t Wx σ.length D w1 (loopD (fun d σ1 h2 => (evG T cl g d σ1 h2).out (σ1.map fun _ => none) fun σ2 h3 => exec T cl W q σ2 h3) ds σd w1.h) := by
        rw [e1]
        exact PostS.to s1 p1
      refine ⟨fun i m σ' H' => m = ds.length - i ∧ i ≤ ds.length ∧ σ'.length = σ.length ∧ ∃ w2 σ2, w2.H = H' ∧ w2.Ok t ∧ Step w1 w2 ∧ Good t w2 σ2 σ' ∧ PostS t Wx σ.length D w2 (loopD (fun d σ1 h2 => (evG T cl g d σ1 h2).out (σ1.map fun _ => none) fun σ2 h3 => exec T cl W q σ2 h3) (ds.drop i) σ2 w2.h), ⟨ds.length, by simp, Nat.zero_le _, rfl, w1, σd, rfl, k1, Step.refl _, gd.mono s1.toExt, p2⟩, ?_⟩
      rintro i m σ' H' ⟨rfl, hi', hl', w2, σ2, rfl, k2, s2, g2, p3⟩
      by_cases hlt : i < ds.length
      · obtain ⟨h1, h2⟩ := j.turn w2 k2 s2.toExt i ds[i] (List.getElem?_eq_getElem hlt)
        refine .inr ⟨h1, fun σ'' H'' => σ''.length = σ.length ∧ ∃ w3 σ3, w3.H = H'' ∧ w3.Ok t ∧ Step w1 w3 ∧ Good t w3 σ3 σ'' ∧ PostS t Wx σ.length D w3 (loopD (fun d σ1 h2 => (evG T cl g d σ1 h2).out (σ1.map fun _ => none) fun σ2 h3 => exec T cl W q σ2 h3) (ds.drop (i + 1)) σ3 w3.h), fun σ'' H'' p' => ⟨ds.length - (i + 1), by omega, rfl, hlt, p'.1, p'.2⟩, fun x H'' y => ?_⟩
        obtain ⟨w3, rfl, k3, s3, e3, r3⟩ := h2 x H'' y
        have hd : ds.drop i = ds[i] :: ds.drop (i + 1) := List.drop_eq_getElem_cons hlt
        rw [hd] at p3
        have p4 : PostS t Wx σ.length D w2 (((evG T cl g ds[i] σ2 w2.h).out (σ2.map fun _ => none) fun σ2 h3 => exec T cl W q σ2 h3).turn fun σ1 h1 => loopD (fun d σ1 h2 => (evG T cl g d σ1 h2).out (σ1.map fun _ => none) fun σ2 h3 => exec T cl W q σ2 h3) (ds.drop (i + 1)) σ1 h1) := p3
        rw [← e3] at p4
        have p5 := PostS.turn (NX := fun σ'' H'' => σ''.length = σ.length ∧ ∃ w3 σ3, w3.H = H'' ∧ w3.Ok t ∧ Step w1 w3 ∧ Good t w3 σ3 σ'' ∧ PostS t Wx σ.length D w3 (loopD (fun d σ1 h2 => (evG T cl g d σ1 h2).out (σ1.map fun _ => none) fun σ2 h3 => exec T cl W q σ2 h3) (ds.drop (i + 1)) σ3 w3.h)) (PostS.to s3 p4) fun w' σ' σd' k' s' g' l' pp => ⟨l', w', σd', rfl, k', (s2.trans s3).trans s', g', pp⟩
        refine ⟨w3, σ2, ds[i], rfl, k3, g2.mono s3.toExt, r3, ?_⟩
        have p6 := PostG.out (ns := g.names) hl' (g2.len) p5
        cases ho : evG T cl g ds[i] σ2 w3.h with
        | ok σ5 h5 =>
          rw [ho] at p6
          intro w5 σ6 k5 s5 e5 g5 l5 a5
          obtain ⟨w6, σ7, e6, k6, s6, g6, l6, p7⟩ := p6 w5 σ6 k5 s5 e5 g5 l5 a5
          refine ⟨w6, σ7, e6, k6, g6, ?_⟩
          rw [l6, hl']
          exact p7
        | ex u h5 =>
          rw [ho] at p6
          exact p6
        | bad =>
          rw [ho] at p6
          exact p6
      · have e : i = ds.length := by omega
        subst e
        rw [List.drop_length] at p3
        exact .inl ⟨j.stop w2 k2 s2.toExt, p3 w2 σ' k2 (Step.refl _) rfl g2 hl'⟩
theorem r_while {q : S} {l : List Stmt} (hp : PassesOwn (model X.prog X.w) X.A X.env X.xe) (hc : PT X x (tT t T cl Wx c)) (hb : PSs X l (tS t T cl W Wx q)) : PS X (.While x l [] pos) (tS t T cl W Wx (.while_ c q)) :=
  PSimp (ps_while hp hc hb) fun D σ H ⟨w, σd, e, k, gd, p⟩ => by
    refine ⟨fun m σ' H' => σ'.length = σ.length ∧ ∃ w2 σ2, w2.H = H' ∧ w2.Ok t ∧ Good t w2 σ2 σ' ∧ PostS t Wx σ.length D w2 (loopW (fun σ1 h1 => evT T cl c σ1 h1) (fun σ1 h1 => exec T cl W q σ1 h1) m σ2 w2.h), ⟨W, rfl, w, σd, e, k, gd, p⟩, ?_⟩
    rintro m σ' H' ⟨hl', w2, σ2, rfl, k2, g2, p2⟩
    cases m with
    | zero => exact p2.elim
    | succ m =>
      have p3 : PostS t Wx σ.length D w2 ((evT T cl c σ2 w2.h).out σ2 fun t h1 => if t then (exec T cl W q σ2 h1).turn fun σ1 h2 => loopW (fun σ1 h1 => evT T cl c σ1 h1) (fun σ1 h1 => exec T cl W q σ1 h1) m σ1 h2 else .nx σ2 h1) := p2
      rw [← hl'] at p3
      refine ⟨w2, σ2, rfl, k2, g2, (PostS.of g2 p3).imp ?_⟩
      rintro v1 H1 ⟨w3, d3, rfl, k3, s3, r3, p4⟩
      have e1 : d3 = v1 := r3
      subst e1
      cases d3 with
      | false =>
        rw [if_neg Bool.false_ne_true]
        exact p4 w3 σ' k3 (Step.refl _) rfl (g2.mono s3.toExt) rfl
      | true =>
        rw [if_pos rfl]
        refine ⟨fun σ'' H'' => σ''.length = σ.length ∧ ∃ w4 σ4, w4.H = H'' ∧ w4.Ok t ∧ Good t w4 σ4 σ'' ∧ PostS t Wx σ.length D w4 (loopW (fun σ1 h1 => evT T cl c σ1 h1) (fun σ1 h1 => exec T cl W q σ1 h1) m σ4 w4.h), fun σ'' H'' p' => ⟨m, Nat.lt_succ_self m, p'⟩, w3, σ2, rfl, k3, g2.mono s3.toExt, ?_⟩
        refine PostS.turn (show PostS t Wx σ'.length D w3 ((exec T cl W q σ2 w3.h).turn fun σ1 h2 => loopW (fun σ1 h1 => evT T cl c σ1 h1) (fun σ1 h1 => exec T cl W q σ1 h1) m σ1 h2) from p4) fun w' σ'' σd' k' s' g' l' pp => ⟨l'.trans hl', w', σd', rfl, k', g', ?_⟩
        rw [← hl']
        exact pp
end
end VM

set_option Elab.async false
set_option linter.all false
set_option maxRecDepth 100000
set_option maxHeartbeats 16000000
/-! VmN: every checked statement is its text; a def's body. -/
namespace VM
open PySem L2 PyProof.Rows
section
variable {t : Tx} {T : Tab} {cl : Call} {W : Nat} {lv : Nat} {N : List Str} {X : Cx} {sc : Scope} {Wx : WX}
theorem notComp_ok {v : Expr} (h : notComp v = true) (tg : Option Expr) (n : Nat) (env : Env) : swapsWith v tg n env = pure false := by
  cases v with
  | ListComp _ _ _ _ => cases h
  | SetComp _ _ _ _ => cases h
  | DictComp _ _ _ _ _ => cases h
  | _ => rfl
theorem noSw_sw {tg v : Expr} (h : noSw sc tg v = true) (n : Nat) (env : Env) : swapsWith v (some tg) n env = pure false := by
  cases v with
  | ListComp elt gs scope pos =>
    cases tg with
    | Name y py =>
      have e : (py.line == pos.line) = false := notB h
      show (pure (env.blockKind == .function && env.kindOf y == some .local && py.line == pos.line && !(scope.names.any fun (n, k) => n == y && (k == .local || k == .cell))) : Sem Bool) = pure false
      rw [e, Bool.and_false, Bool.false_and]
    | _ => rfl
  | DictComp k2 elt gs scope pos =>
    cases tg with
    | Name y py =>
      have e : (py.line == pos.line) = false := notB h
      show (pure (env.blockKind == .function && env.kindOf y == some .local && py.line == pos.line && !(scope.names.any fun (n, k) => n == y && (k == .local || k == .cell))) : Sem Bool) = pure false
      rw [e, Bool.and_false, Bool.false_and]
    | _ => rfl
  | SetComp elt gs scope pos =>
    cases tg with
    | Name y py => cases h
    | _ => rfl
  | _ => rfl
theorem filterMap_lt {α β : Type} {f : α → Option β} {p : α → Bool} (hf : ∀ x, p x = true → f x = none) : ∀ {l : List α}, l.any p = true → (l.filterMap f).length ≠ l.length := fun {l} h => by
  have le : ∀ l : List α, (l.filterMap f).length ≤ l.length := fun l => List.length_filterMap_le f l
  induction l with
  | nil => cases h
  | cons x r ih =>
    rw [List.any_cons] at h
    cases hx : p x with
    | true =>
      rw [List.filterMap_cons, hf x hx]
      have := le r
      show (r.filterMap f).length ≠ r.length + 1
      omega
    | false =>
      rw [hx, Bool.false_or] at h
      have i := ih h
      rw [List.filterMap_cons]
      cases hfx : f x with
      | none =>
        have := le r
        show (r.filterMap f).length ≠ r.length + 1
        omega
      | some y =>
        show (r.filterMap f).length + 1 ≠ r.length + 1
        omega
theorem noSw_st {tg v : Expr} (h : noSw sc tg v = true) (env : Env) : swappedStores [tg] v env = pure none := by
  cases tg with
  | Tuple ts k p =>
    cases v with
    | Tuple vs k2 p2 =>
      unfold swappedStores
      simp only []
      split
      · rfl
      · split
        · rfl
        · rcases Bool.or_eq_true_iff.mp (show ((ts.any fun | .Name _ _ => false | _ => true) || vs.all (foldedForSure 8)) = true from h) with h1 | h1
          · rw [if_pos]
            have := filterMap_lt (f := fun (x : Expr) => match x with
              | .Name id pos => if env.kindOf id == some .local && pos.line == (ts.head?.map (·.pos.line)).getD 0 then some id else none
              | _ => none) (p := fun (x : Expr) => match x with | .Name _ _ => false | _ => true) (fun x hx => by cases x <;> first | rfl | cases hx) h1
            rw [Bool.or_eq_true_iff]
            exact .inl (bne_iff_ne.mpr this)
          · split
            · rfl
            · first
                | rfl
                | (rw [if_pos h1]; rfl)
    | _ => rfl
  | List l p => cases v <;> cases h
  | _ => cases v <;> rfl
theorem sw2 {n m : Str} {px py pt : Pos} {kt k2 : Nat} {pt2 : Pos} {x y : Expr} {env : Env} (hk : env.scope.kind = .function) (hx : env.scope.names.lookup n = some .local) (hy : env.scope.names.lookup m = some .local) (hl : (py.line == px.line) = true) (h1 : [x, y].all (foldedForSure 8) = false) (h2 : [x, y].all (constantsAlone 8) = false) (hne : (n == m) = false)
    (hs : starEach [x, y] env = (false, eval x env) :: starEach [y] env) (hs2 : starEach [y] env = (false, eval y env) :: starEach [] env) (nx : ∀ z p, x ≠ .Starred z p) (ny : ∀ z p, y ≠ .Starred z p) :
    swappedStores [.Tuple [.Name n px, .Name m py] kt pt] (.Tuple [x, y] k2 pt2) env = pure (some [n, m]) := by
  have kn : env.kindOf n = some .local := hx
  have km : env.kindOf m = some .local := hy
  have hb : env.blockKind = .function := by unfold Env.blockKind; rw [hk]; rfl
  have hm : (m == n) = false := by
    cases q : (m == n) with
    | false => rfl
    | true =>
      rw [beq_iff_eq.mp q, beq_self_eq_true] at hne
      cases hne
  have hst : ([x, y].any fun | .Starred .. => true | _ => false) = false := by
    have a1 : (match x with | .Starred .. => true | _ => false) = false := by
      cases x with
      | Starred z p => exact absurd rfl (nx z p)
      | _ => rfl
    have a2 : (match y with | .Starred .. => true | _ => false) = false := by
      cases y with
      | Starred z p => exact absurd rfl (ny z p)
      | _ => rfl
    simp only [List.any_cons, List.any_nil, a1, a2]
    rfl
  unfold swappedStores
  simp only [hb, hst, h1, h2, kn, km, Expr.pos, List.head?_cons, Option.map_some, Option.getD_some, beq_self_eq_true, hl, List.filterMap_cons, List.filterMap_nil, Bool.and_true, if_true, List.length_cons, List.length_nil]
  have hd : [n, m].eraseDups = [n, m] := by
    unfold List.eraseDups
    simp [List.eraseDupsBy, List.eraseDupsBy.loop, hm]
  simp [hd]
end
section
variable {t : Tx} {T : Tab} {cl : Call} {W : Nat} {lv : Nat} {N : List Str}
theorem comp_pieces {own : List Nat} {g : G} {it : I} {test : A} {ce : E} {X : Cx} {sc : Scope} {Wx : WX} {elt : Expr} {gens : List Comprehension} {scope : Scope} {p : Pos} (B : Txt t T cl lv X) (hN : X.N = N) (S : ScOk X sc) (tk : Takes X Wx) (h : chkF T N sc (.comp own g it test ce) (.ListComp elt gens scope p) = true) :
    ∃ (tg iter : Expr) (ifs : List Expr) (own' : List (Str × Nat)), gens = [⟨tg, iter, ifs, 0⟩] ∧ own'.map (·.2) = own ∧ PI X tg iter (tI t T cl Wx it) ∧ BlkOk X.N X.env.scope scope own' ∧
      (∀ (s : Shared) (H : Hp) (C : Addr) (cl' : List (Str × Addr)) (fp : List Addr), PG (X.blk s H scope (compEnvC scope cl' C X.env) fp) tg (tG t T cl W0 g)) ∧
      (∀ (s : Shared) (H : Hp) (C : Addr) (cl' : List (Str × Addr)) (fp : List Addr), PTs (X.blk s H scope (compEnvC scope cl' C X.env) fp) ifs (tTs t T cl test)) ∧
      (∀ (s : Shared) (H : Hp) (C : Addr) (cl' : List (Str × Addr)) (fp : List Addr), PE (X.blk s H scope (compEnvC scope cl' C X.env) fp) elt (tE t T cl W0 ce)) ∧
      (∀ x, foldedSetIterable iter X.env x = pure x) ∧ (∀ j ∈ g.names, j ∈ own'.map (·.2)) := by
  cases gens with
  | nil => cases h
  | cons g1 r =>
    cases r with
    | cons _ _ =>
      obtain ⟨tg, iter, ifs, k⟩ := g1
      cases h
    | nil =>
      obtain ⟨tg, iter, ifs, k⟩ := g1
      obtain ⟨h0, h⟩ := band h
      have h0' : k = 0 := dec h0
      subst h0'
      obtain ⟨h1, h2⟩ := band h
      obtain ⟨h1, h3⟩ := band h1
      obtain ⟨h2, h4⟩ := band h2
      obtain ⟨h2, h5⟩ := band h2
      obtain ⟨h4, h6⟩ := band h4
      obtain ⟨h7, h6⟩ := band h6
      have e1 : (own.map fun i => (N.getD i Str.empty, i)).map (·.2) = own := by rw [List.map_map]; exact List.map_id own
      have bo := blkOk_by h3
      refine ⟨tg, iter, ifs, own.map fun i => (N.getD i Str.empty, i), rfl, e1, sI it B hN S tk h1, ?_, fun s H C cl' fp => sG g (X := X.blk s H scope (compEnvC scope cl' C X.env) fp) B.blk hN sc_blk takes0 h2, fun s H C cl' fp => ?_,
        fun s H C cl' fp => (sE ce (X := X.blk s H scope (compEnvC scope cl' C X.env) fp) B.blk hN sc_blk takes0 h4).pe, notSetI h1 X.env, fun j hj => ?_⟩
      · rw [hN]
        exact ⟨bo.kind, bo.uniq, bo.ix, fun y hy z => S.fre _ (bo.free y hy z), bo.own⟩
      · cases test with
        | nil =>
          cases ifs with
          | nil => exact pts_nil
          | cons _ _ => cases h6
        | cons d ds =>
          cases ifs with
          | nil => cases h6
          | cons f r =>
            obtain ⟨h8, h9⟩ := band h6
            cases r with
            | cons _ _ =>
              have := dec h7
              simp at this
            | nil => exact pts_one (sE d (X := X.blk s H scope (compEnvC scope cl' C X.env) fp) B.blk hN sc_blk takes0 h8).pt
      · rw [e1]
        exact List.contains_iff_mem.mp (List.all_eq_true.mp h5 j hj)
/-- a comprehension stored to a local of its line -/
theorem r_setLc {own : List Nat} {g : G} {it : I} {test : A} {ce a : E} {X : Cx} {sc : Scope} {Wx : WX} {elt : Expr} {gens : List Comprehension} {scope : Scope} {p py pos : Pos} {i : Nat} {y : Str} (B : Txt t T cl lv X) (hN : X.N = N) (S : ScOk X sc) (tk : Takes X Wx) (h : chkF T N sc (.comp own g it test ce) (.ListComp elt gens scope p) = true)
    (hy : X.N[i]? = some y) (hs : swC sc (.Name y py) (.ListComp elt gens scope p) = true) (hc : ∀ σ H Q, tE t T cl Wx a σ H Q → tF t T cl Wx (.comp own g it test ce) σ H Q) : PS X (.Assign [.Name y py] (.ListComp elt gens scope p) pos) (tS t T cl W Wx (.asg (.name i) a)) := by
  obtain ⟨tg, iter, ifs, own', rfl, e1, hi, bo, hg, ht, he, hf, hn⟩ := comp_pieces B hN S tk h
  obtain ⟨h1, h2⟩ := band hs
  obtain ⟨h2, h3⟩ := band h2
  subst e1
  have P : PS X (.Assign [.Name y py] (.ListComp elt [⟨tg, iter, ifs, 0⟩] scope p) pos) (tAsg (tLc (tI t T cl Wx it) (tG t T cl W0 g) (tTs t T cl test) (tE t T cl W0 ce) (own'.map (·.2))) (gName i)) :=
    ⟨fun pins s σ H D I q => (ps_setLc B.calm B.nd hy (S.lcl y h1) (sw_true I.ok.kind (S.lcl y h1) h2 (notB h3)) hi bo hg ht he hf).run pins s σ H D I q⟩
  refine r_asg' P (fun σ H Q q => f_comp B.K B.calm B.nd hi bo hg ht he hn σ H Q (hc σ H Q q)) fun v σ H Q ⟨w, σd, d, e, k, gd, r, pg⟩ => ?_
  subst e
  exact pg w (σ.set i (some v)) k (Step.refl w) rfl (gd.set r) (List.length_set ..) fun j hj => List.getElem?_set_ne fun q => hj (by rw [← q]; exact List.mem_singleton.mpr rfl)
theorem sAsg {g : G} {a : E} {X : Cx} {sc : Scope} {st : Stmt} {Wx : WX} (B : Txt t T cl lv X) (hN : X.N = N) (S : ScOk X sc) (tk : Takes X Wx) (h : chkS T N sc (.asg g a) st = true) : PS X st (tS t T cl W Wx (.asg g a)) := by
    cases st with
    | Assign tgs v p =>
      cases tgs with
      | nil => cases h
      | cons tg r =>
        cases r with
        | cons _ _ => cases h
        | nil =>
          obtain ⟨h1, k1⟩ := band h
          obtain ⟨h2, k2⟩ := band k1
          clear h k1
          rcases Bool.or_eq_true_iff.mp k2 with h4 | h4
          · exact r_asg (sE a B hN S tk h2).pe (sG g B hN S tk h1) (noSw_sw h4 _ _) (noSw_st h4 _) (by rw [starG h1]; rfl)
          · obtain ⟨h5, k5⟩ := band h4
            obtain ⟨h6, h7⟩ := band k5
            clear h4 k5 k2
            cases g with
            | name i =>
              cases tg with
              | Name y py =>
                cases v with
                | ListComp elt gens scope q =>
                  obtain ⟨g1, g2⟩ := band h1
                  have hy : X.N[i]? = some y := by rw [hN]; exact dec g1
                  cases a with
                  | frz f =>
                    cases f with
                    | comp own g it test ce => exact r_setLc B hN S tk (band h2).2 hy h7 c_frz
                    | _ => cases h6
                  | heap f =>
                    cases f with
                    | comp own g it test ce => exact r_setLc B hN S tk (band h2).2 hy h7 c_heap
                    | _ => cases h6
                  | _ => cases h6
                | _ => cases h7
              | _ => cases h7
            | _ => cases h5
    | _ => cases h
theorem sAsg2 {i j : Nat} {a b : E} {X : Cx} {sc : Scope} {st : Stmt} {Wx : WX} (B : Txt t T cl lv X) (hN : X.N = N) (S : ScOk X sc) (tk : Takes X Wx) (h : chkS T N sc (.asg2 i j a b) st = true) : PS X st (tS t T cl W Wx (.asg2 i j a b)) := by
    cases st with
    | Assign tgs v p =>
      cases tgs with
      | nil => cases h
      | cons tg r =>
        cases tg with
        | Tuple ts kt pt =>
          cases ts with
          | nil => cases r <;> cases v <;> cases h
          | cons t1 tr =>
            cases t1 with
            | Name n px =>
              cases tr with
              | nil => cases r <;> cases v <;> cases h
              | cons t2 tr2 =>
                cases t2 with
                | Name m py =>
                  cases tr2 with
                  | cons _ _ => cases r <;> cases v <;> cases h
                  | nil =>
                    cases r with
                    | cons _ _ => cases v <;> cases h
                    | nil =>
                      cases v with
                      | Tuple vs k2 pt2 =>
                        cases vs with
                        | nil => cases h
                        | cons x vr =>
                          cases vr with
                          | nil => cases h
                          | cons y vr2 =>
                            cases vr2 with
                            | cons _ _ => cases h
                            | nil =>
                              obtain ⟨h1, k1⟩ := band h
                              obtain ⟨h2, k2⟩ := band k1
                              obtain ⟨h3, k3⟩ := band k2
                              obtain ⟨h4, k4⟩ := band k3
                              obtain ⟨h5, k5⟩ := band k4
                              obtain ⟨h6, k6⟩ := band k5
                              obtain ⟨h7, k7⟩ := band k6
                              obtain ⟨h8, k8⟩ := band k7
                              obtain ⟨h9, k9⟩ := band k8
                              obtain ⟨h10, h11⟩ := band k9
                              have s1 := star1 h6 [y] X.env
                              have s2 := star1 h7 [] X.env
                              refine ⟨fun pins s σ H D I q => (r_par B.calm B.nd (by rw [hN]; exact dec h1) (by rw [hN]; exact dec h2) (dec h3) (S.lcl n h4) (S.lcl m h5) (sE a B hN S tk h6).pe (sE b B hN S tk h7).pe s1 s2 (sw2 I.ok.kind (S.lcl n h4) (S.lcl m h5) h8 (notB h9) (notB h10) (notB h11) s1 s2 (fun z q e => ?_) (fun z q e => ?_))).run pins s σ H D I q⟩
                              · rw [e, notStar] at h6
                                cases h6
                              · rw [e, notStar] at h7
                                cases h7
                      | _ => cases h
                | _ => cases tr2 <;> cases r <;> cases v <;> cases h
            | _ => cases r <;> cases v <;> cases h
        | _ => cases r <;> cases v <;> cases h
    | _ => cases h
mutual
theorem sS : ∀ (c : S) {X : Cx} {sc : Scope} {st : Stmt} {Wx : WX}, Txt t T cl lv X → X.N = N → ScOk X sc → Takes X Wx → PassesOwn (model X.prog X.w) X.A X.env X.xe → chkS T N sc c st = true → PS X st (tS t T cl W Wx c)
  | .skip, X, sc, st, Wx, B, hN, S, tk, po, h => by
    cases st with
    | Pass p => exact r_skip ps_pass
    | Expr v p =>
      cases v with
      | Constant k j q =>
        cases k with
        | str x => exact r_skip ps_doc
        | _ => cases h
      | _ => cases h
    | _ => cases h
  | .seq _ _, X, sc, st, Wx, B, hN, S, tk, po, h => by cases st <;> cases h
  | .asg g a, X, sc, st, Wx, B, hN, S, tk, po, h => sAsg B hN S tk h
  | .asg2 i j a b, X, sc, st, Wx, B, hN, S, tk, po, h => sAsg2 B hN S tk h
  | .expr a, X, sc, st, Wx, B, hN, S, tk, po, h => by
    cases st with
    | Expr v p =>
      obtain ⟨h1, h2⟩ := band h
      exact r_expr (sE a B hN S tk h2).pe (notComp_ok h1 _ _ _)
    | _ => cases h
  | .ret a, X, sc, st, Wx, B, hN, S, tk, po, h => by
    cases st with
    | Return v p =>
      cases v with
      | some v => exact r_ret (sE a B hN S tk h).pe
      | none => cases h
    | _ => cases h
  | .retN, X, sc, st, Wx, B, hN, S, tk, po, h => by
    cases st with
    | Return v p =>
      cases v with
      | some v => cases h
      | none => exact r_retN
    | _ => cases h
  | .if_ c p q, X, sc, st, Wx, B, hN, S, tk, po, h => by
    cases st with
    | If x l1 l2 pos =>
      obtain ⟨h1, h2⟩ := band h
      obtain ⟨h2, h3⟩ := band h2
      exact r_if (sE c B hN S tk h1).pt (sB p B hN S tk po h2) (sB q B hN S tk po h3)
    | _ => cases h
  | .for_ g it q, X, sc, st, Wx, B, hN, S, tk, po, h => by
    cases st with
    | For tg iter l oe pos =>
      cases oe with
      | cons _ _ => cases h
      | nil =>
        obtain ⟨h1, h2⟩ := band h
        obtain ⟨h2, h3⟩ := band h2
        exact r_for po B.calm (sI it B hN S tk h1) (sG g B hN S tk h2) (sB q B hN S tk po h3) (notSetI h1 X.env)
    | _ => cases h
  | .while_ c q, X, sc, st, Wx, B, hN, S, tk, po, h => by
    cases st with
    | While x l oe pos =>
      cases oe with
      | cons _ _ => cases h
      | nil =>
        obtain ⟨h1, h2⟩ := band h
        exact r_while po (sE c B hN S tk h1).pt (sB q B hN S tk po h2)
    | _ => cases h
  | .brk, X, sc, st, Wx, B, hN, S, tk, po, h => by
    cases st with
    | Break p => exact r_brk
    | _ => cases h
  | .cont, X, sc, st, Wx, B, hN, S, tk, po, h => by
    cases st with
    | Continue p => exact r_cont
    | _ => cases h
  | .never, X, sc, st, Wx, B, hN, S, tk, po, h => PSimp ps_never fun D σ H ⟨w, σd, e, k, g, p⟩ => p
theorem sB : ∀ (c : S) {X : Cx} {sc : Scope} {l : List Stmt} {Wx : WX}, Txt t T cl lv X → X.N = N → ScOk X sc → Takes X Wx → PassesOwn (model X.prog X.w) X.A X.env X.xe → chkB T N sc c l = true → PSs X l (tS t T cl W Wx c)
  | .skip, X, sc, l, Wx, B, hN, S, tk, po, h => by
    cases l with
    | nil => exact r_bnil
    | cons _ _ => cases h
  | .seq p q, X, sc, l, Wx, B, hN, S, tk, po, h => by
    cases l with
    | nil => cases h
    | cons s r =>
      obtain ⟨h1, h2⟩ := band h
      exact r_seq (sS p B hN S tk po h1) (sB q B hN S tk po h2)
  | .never, X, sc, l, Wx, B, hN, S, tk, po, h => PSsimp pss_never fun D σ H ⟨w, σd, e, k, g, p⟩ => p
  | .asg _ _, X, sc, l, Wx, B, hN, S, tk, po, h => by cases l <;> cases h
  | .asg2 _ _ _ _, X, sc, l, Wx, B, hN, S, tk, po, h => by cases l <;> cases h
  | .expr _, X, sc, l, Wx, B, hN, S, tk, po, h => by cases l <;> cases h
  | .ret _, X, sc, l, Wx, B, hN, S, tk, po, h => by cases l <;> cases h
  | .retN, X, sc, l, Wx, B, hN, S, tk, po, h => by cases l <;> cases h
  | .if_ _ _ _, X, sc, l, Wx, B, hN, S, tk, po, h => by cases l <;> cases h
  | .for_ _ _ _, X, sc, l, Wx, B, hN, S, tk, po, h => by cases l <;> cases h
  | .while_ _ _, X, sc, l, Wx, B, hN, S, tk, po, h => by cases l <;> cases h
  | .brk, X, sc, l, Wx, B, hN, S, tk, po, h => by cases l <;> cases h
  | .cont, X, sc, l, Wx, B, hN, S, tk, po, h => by cases l <;> cases h
end
end
end VM

set_option Elab.async false
set_option linter.all false
set_option maxRecDepth 100000
set_option maxHeartbeats 4000000
/-! VmO: the defs of a table. -/
namespace VM
open PySem L2 PyProof.Rows
/-- plain parameters: every one is given by place -/
def Pb (p : Arguments) (ps : List Str) : Prop := ∀ (x qual : Str) (body : List Stmt) (scope : Scope) (kV doc pm : Value) (an : Option Addr) (cdv ct : Value) (us : List Value), us.length = ps.length →
  bindArgs (PySem.W.fnOf x qual p body scope .none kV doc pm an cdv ct) ⟨us, []⟩ = pure (ps.zip us)
/-- a call with keywords binds -/
def Pk (p : Arguments) (ps : List Str) (kd : KwT) : Prop := ∀ (x qual : Str) (body : List Stmt) (scope : Scope) (kV doc pm : Value) (an : Option Addr) (cdv ct : Value) (us ws : List Value), us.length = kd.n → ws.length = kd.names.length →
  bindArgs (PySem.W.fnOf x qual p body scope .none kV doc pm an cdv ct) ⟨us, kd.names.zip ws⟩ = pure (ps.zip (us ++ pick kd.perm ws))
structure FOk (T : Tab) (ft : FnT) (d : He.DefD) : Prop where
  at_ : d.at_ = ft.at_
  dfl : d.dfl = []
  kwd : d.kwd = []
  sc : FnScope ft.N (ft.N.take ft.ps) d.scope
  np : ft.ps ≤ ft.N.length
  chk : chkB T ft.N d.scope ft.body d.body = true
  bnd : Pb d.params (ft.N.take ft.ps)
inductive AllOk (T : Tab) : List FnT → List He.DefD → Prop
  | nil : AllOk T [] []
  | cons {ft : FnT} {d : He.DefD} {fs : List FnT} {ds : List He.DefD} (h : FOk T ft d) (r : AllOk T fs ds) : AllOk T (ft :: fs) (d :: ds)
theorem AllOk.at_ {T : Tab} {fs : List FnT} {ds : List He.DefD} (A : AllOk T fs ds) : ∀ {f : Nat} {ft : FnT}, fs[f]? = some ft → ∃ d, ds[f]? = some d ∧ FOk T ft d := by
  induction A with
  | nil => intro f ft h; cases h
  | cons h r ih =>
    intro f ft e
    cases f with
    | zero =>
      cases e
      exact ⟨_, rfl, h⟩
    | succ f => exact ih e
inductive KAll (T : Tab) (ds : List He.DefD) : List KwT → Prop
  | nil : KAll T ds []
  | cons {kd : KwT} {ks : List KwT} {ft : FnT} {d : He.DefD} (h1 : T.fns[kd.f]? = some ft) (h2 : ds[kd.f]? = some d) (h3 : Pk d.params (ft.N.take ft.ps) kd) (r : KAll T ds ks) : KAll T ds (kd :: ks)
theorem KAll.at_ {T : Tab} {ds : List He.DefD} {ks : List KwT} (A : KAll T ds ks) : ∀ {k : Nat} {kd : KwT}, ks[k]? = some kd → ∃ ft d, T.fns[kd.f]? = some ft ∧ ds[kd.f]? = some d ∧ Pk d.params (ft.N.take ft.ps) kd := by
  induction A with
  | nil => intro k kd h; cases h
  | cons h1 h2 h3 r ih =>
    intro k kd e
    cases k with
    | zero =>
      cases e
      exact ⟨_, _, h1, h2, h3⟩
    | succ k => exact ih e
theorem vals_pick {vs : List V} {us : List Value} (h : Vals vs us) : ∀ p : List Nat, Vals (pick p vs) (pick p us)
  | [] => .nil
  | i :: p => by
    have ih := vals_pick h p
    unfold pick at ih ⊢
    rw [List.filterMap_cons, List.filterMap_cons]
    cases q : vs[i]? with
    | none =>
      have : us[i]? = none := by
        rw [List.getElem?_eq_none_iff] at q ⊢
        rw [← h.length]
        exact q
      rw [this]
      exact ih
    | some d =>
      obtain ⟨u, e1, e2⟩ := h.get q
      rw [e1]
      exact .cons e2 ih
/-- what the head's run tells of the text -/
structure TabOk (t : Tx) (T : Tab) (ds : List He.DefD) (K : PySem.W.Frag) (mg : Str → Option Value) : Prop where
  eK : K = t.K
  all : AllOk T T.fns ds
  fun_ : ∀ d ∈ ds, ∃ fd, FunD K d.name d.qual d.params d.body d.scope (d.dvs K) (d.kws K) (He.fAd K d.at_) fd
  glo : ∀ (f : Nat) (ft : FnT) (x : Str), T.fns[f]? = some ft → ft.at_ = (x, none) → mg x = some (.ref (He.ga K x))
  me : ∀ (c : Nat) (ct : ClsT) (m f : Nat), T.cls[c]? = some ct → ct.meths.lookup m = some f → ∃ ft : FnT, T.fns[f]? = some ft ∧ Meth K (t.cls c) (t.nm m) (He.fAd K ft.at_)
  mkr : ∀ (c : Nat) (ct : ClsT) (ft : FnT), T.cls[c]? = some ct → T.fns[ct.init]? = some ft → Mk K (t.cls c) (He.fAd K ft.at_)
  cgl : ∀ (c : Nat) (ct : ClsT), T.cls[c]? = some ct → mg ct.name = some (.ref (t.cls c))
  cls : ∀ (c : Nat) (ct : ClsT), T.cls[c]? = some ct → Cls K (t.cls c)
  noat : ∀ c f, hasF T c f = true → NoAttr K (t.cls c) (t.nm f) ∧ f < t.n
  nm : ∀ f x, T.nm[f]? = some x → t.nm f = x ∧ f < t.n
  blt : ∀ x ∈ bltNames, mg x = none
  kws : KAll T ds T.kws
  kit : KitOk T K t.cls
  gl : ∀ (k : Nat) (x : Str) (d : D), T.gls[k]? = some (x, d) → ∃ u v, mg x = some u ∧ RelV v u ∧ ∀ w, R t w d v
section
variable {t : Tx} {T : Tab} {ds : List He.DefD} {K : PySem.W.Frag} {mg : Str → Option Value} {P : Program} {w : World} {base : Heap} {W : Nat}
theorem TabOk.fn (O : TabOk t T ds K mg) {f : Nat} {ft : FnT} (h : T.fns[f]? = some ft) : ∃ d fd, ds[f]? = some d ∧ FOk T ft d ∧ FunD K d.name d.qual d.params d.body d.scope [] [] (He.fAd K ft.at_) fd := by
  obtain ⟨d, e, q⟩ := O.all.at_ h
  obtain ⟨fd, F⟩ := O.fun_ d (List.mem_of_getElem? e)
  have e1 : d.dvs K = [] := by unfold He.DefD.dvs; rw [q.dfl]; rfl
  have e2 : d.kws K = [] := by unfold He.DefD.kws; rw [q.kwd]; rfl
  rw [e1, e2, q.at_] at F
  exact ⟨d, fd, e, q, F⟩
theorem TabOk.kwAll (O : TabOk t T ds K mg) {f : Nat} {ft : FnT} {d : He.DefD} {fd : FuncData} (h : T.fns[f]? = some ft) (hd : ds[f]? = some d) (F : FunD K d.name d.qual d.params d.body d.scope [] [] (He.fAd K ft.at_) fd) : KwAll T K f fd (ft.N.take ft.ps) := by
  intro k kd hk ef
  obtain ⟨ft', d', e1, e2, e3⟩ := O.kws.at_ hk
  rw [ef, h] at e1
  cases e1
  rw [ef, hd] at e2
  cases e2
  obtain ⟨oc, od, dV, kV, doc, pm, an, cdv, ct, osl, rfl, lk, hcd, hD, hK⟩ := F.ex
  rcases hD with ⟨_, rfl⟩ | ⟨z, _⟩
  · exact ⟨fun s us ws _ l1 l2 => BindsTo.of_eq (e3 _ _ _ _ kV doc pm an cdv ct us ws l1 l2), fun r1 r2 => r1.append (vals_pick r2 kd.perm)⟩
  · exact absurd rfl z
theorem good_start {N : List Str} {w : Wd} {ds : List D} {vs : List V} (r : RL t w ds vs) : Good t w (startD N.length ds) (L2.start N vs) := by
  refine ⟨?_, fun i d e => ?_⟩
  · unfold startD L2.start
    rw [List.length_append, List.length_append, List.length_map, List.length_map, List.length_replicate, List.length_replicate, r.length]
  · unfold startD at e
    unfold getSl at e
    have hi : i < ds.length := by
      by_cases hi : i < ds.length
      · exact hi
      · exfalso
        rw [List.getElem?_append_right (by rw [List.length_map]; omega), List.getElem?_replicate] at e
        split at e <;> cases e
    rw [List.getElem?_append_left (by rw [List.length_map]; exact hi), List.getElem?_map] at e
    cases q : ds[i]? with
    | none =>
      rw [q] at e
      cases e
    | some d' =>
      rw [q] at e
      cases e
      obtain ⟨v, e1, e2⟩ := RL.get r q
      refine ⟨v, ?_, e2⟩
      unfold L2.start
      rw [List.getElem?_append_left (by rw [List.length_map, ← r.length]; exact hi), List.getElem?_map, e1]
      rfl
theorem val_post {n : Nat} {w0 : Wd} {Q : VK} {E : XK} {o : Out} (h : Post t (fun c d _ H' => E c d H') [] w0 (R t) Q o.val) :
    PostS t (fun c d _ H' => E c d H') n { nx := fun _ H' => Q .non H', rt := Q } w0 o := by
  cases o with
  | nx σ h' => exact fun w' σ' k st e g l => h w' .non k st e rfl
  | rt d h' => exact h
  | bk σ h' => exact h.elim
  | ct σ h' => exact h.elim
  | ex x σ h' => exact fun w' c d σ' k st e r g l => h w' c d k st e r
  | bad => exact h.elim
theorem scOk_fn {qual : Str} {scope : Scope} {f : Addr} {cdv : Value} {A : Around} {outer : List Env} {s : Shared} {H : Hp} {E : XK} {N : List Str} : ScOk (cxOf (L2.CX P w) P w K mg base N qual scope f cdv A outer s H E) scope := by
  refine ⟨fun x h => h, fun x h => ?_, fun x h => ?_, fun x h => ?_, fun x h => ⟨?_, .inl rfl⟩⟩
  · unfold visB at h
    split at h
    · rename_i e; exact .inl e
    · rename_i e; exact .inr (.inl e)
    · rename_i e; exact .inr (.inr e)
    · cases h
  · unfold glB at h
    split at h
    · rename_i e; exact e
    · cases h
  · unfold lclB at h
    split at h
    · rename_i e; exact e
    · cases h
  · unfold locB at h
    split at h
    · rename_i e; exact .inl e
    · rename_i e; exact .inr e
    · cases h
/-- THE RULE of all defs of a table -/
theorem fns_ok (O : TabOk t T ds K mg) : ∀ (k f : Nat) (ft : FnT), T.fns[f]? = some ft → ∀ (d : He.DefD) (fd : FuncData), FOk T ft d → FunD K d.name d.qual d.params d.body d.scope [] [] (He.fAd K ft.at_) fd → FnOk P w K mg base (L2.CX P w) (3 * k) (He.fAd K ft.at_) fd (ft.N.take ft.ps) (spF t (run T W k) f) ∧ Binds K fd (ft.N.take ft.ps) []
  | 0, f, ft, hf, d, fd, q, F => by
    refine ⟨⟨fun vs H Q E ⟨w, ds, _, _, _, p⟩ => p.elim, fun A outer s H args us vs Q E _ _ _ _ ⟨w, ds, _, _, _, p⟩ => p.elim⟩, F.bindsN fun kV doc pm an cdv ct us hl => q.bnd _ _ _ _ kV doc pm an cdv ct us hl⟩
  | k + 1, f, ft, hf, d, fd, q, F => by
    have go : ∀ {w0 : Wd} {ds : List D} {σ : L2.St} {Wx : WX} {Q : VK}, Post t Wx σ w0 (R t) Q (run T W (k + 1) f ds w0.h) → ds.length = ft.ps ∧ Post t Wx σ w0 (R t) Q (exec T (run T W k) W ft.body (startD ft.N.length ds) w0.h).val := by
      intro w0 ds σ Wx Q p
      have e : run T W (k + 1) f ds w0.h = if ds.length = ft.ps then (exec T (run T W k) W ft.body (startD ft.N.length ds) w0.h).val else .bad := by
        show (match T.fns[f]? with
          | some ft => if ds.length = ft.ps then (exec T (run T W k) W ft.body (startD ft.N.length ds) w0.h).val else .bad
          | none => .bad) = _
        rw [hf]
      rw [e] at p
      by_cases hl : ds.length = ft.ps
      · rw [if_pos hl] at p
        exact ⟨hl, p⟩
      · rw [if_neg hl] at p
        exact p.elim
    have lps : (ft.N.take ft.ps).length = ft.ps := by rw [List.length_take]; exact Nat.min_eq_left q.np
    have ok : FnOk P w K mg base (L2.CX P w) (3 * k + 2 + 1) (He.fAd K ft.at_) fd (ft.N.take ft.ps) (spF t (run T W (k + 1)) f) := by
      refine F.ok q.sc (fun vs H Q E ⟨w0, ds, _, _, r, p⟩ => ?_) (fun cdv A outer s H vs Q E hr ⟨w0, ds, e, k0, r, p⟩ => ?_)
      · obtain ⟨hl, _⟩ := go p
        rw [lps, ← hl, r.length]
      · obtain ⟨hl, p1⟩ := go p
        subst e
        have B : Txt t T (run T W k) (3 * k) (cxOf (L2.CX P w) P w K mg base ft.N d.qual d.scope (He.fAd K ft.at_) cdv A outer s w0.H E) := by
          refine ⟨O.eK, rfl, q.sc.nd, hr, fun f2 ft2 x h2 e2 => ?_, fun c ct m f2 h2 h3 => ?_, fun c ct ft2 h2 h3 => ?_, O.cls, O.noat, O.nm, O.blt, O.cgl, O.kit, O.gl⟩
          · obtain ⟨d2, fd2, z2, q2, G2⟩ := O.fn h2
            obtain ⟨F2, b2⟩ := fns_ok O k f2 ft2 h2 d2 fd2 q2 G2
            have e3 : He.fAd K ft2.at_ = He.ga K x := by rw [e2]; rfl
            have KW := O.kwAll h2 z2 G2
            rw [e3] at F2 G2
            exact ⟨_, fd2, _, F2, b2, G2.kp, O.glo f2 ft2 x h2 e2, KW⟩
          · obtain ⟨ft2, h4, M⟩ := O.me c ct m f2 h2 h3
            obtain ⟨d2, fd2, z2, q2, G2⟩ := O.fn h4
            obtain ⟨F2, b2⟩ := fns_ok O k f2 ft2 h4 d2 fd2 q2 G2
            exact ⟨_, fd2, _, F2, b2, M, O.kwAll h4 z2 G2⟩
          · obtain ⟨d2, fd2, z2, q2, G2⟩ := O.fn h3
            obtain ⟨F2, b2⟩ := fns_ok O k ct.init ft2 h3 d2 fd2 q2 G2
            exact ⟨_, fd2, _, F2, b2, O.mkr c ct ft2 h2 h3, O.cgl c ct h2, O.kwAll h3 z2 G2⟩
        exact ⟨_, sB ft.body (Wx := fun c d _ H' => E c d H') B rfl scOk_fn (takes_of rfl rfl rfl rfl) (passes_of rfl) q.chk, w0, _, rfl, k0, good_start r, val_post p1⟩
    exact ⟨ok, F.bindsN fun kV doc pm an cdv ct us hl => q.bnd _ _ _ _ kV doc pm an cdv ct us hl⟩
end
end VM

set_option Elab.async false
set_option linter.all false
set_option maxRecDepth 100000
set_option maxHeartbeats 4000000
/-! VmP: from the head's facts to the law. -/
namespace VM
open PySem L2 PyProof.Rows
/-- the facts that a table asks of the head -/
def needFa0 (T : Tab) : List He.Fa := bltNames.map He.Fa.free ++ ((T.fns.flatMap fun ft => match ft.at_.2 with
    | none => [He.Fa.glo ft.at_.1]
    | some _ => []) ++ T.cls.flatMap fun ct => [He.Fa.glo ct.name, He.Fa.cls ct.name] ++ ((ct.flds.map fun f => He.Fa.noat ct.name (T.nm.getD f Str.empty)) ++
      ((ct.meths.map fun mf => He.Fa.meth ct.name (T.nm.getD mf.1 Str.empty)) ++ match T.fns[ct.init]? with
        | some _ => [He.Fa.mkr ct.name]
        | none => [])))
/-- numbers and texts of the module -/
def glFa : Str × D → List He.Fa
  | (x, .int i) => [.int x i]
  | (x, .str z) => [.str x z]
  | _ => []
def glOk : Str × D → Bool
  | (_, .int _) => true
  | (_, .str _) => true
  | _ => false
/-- what the head looks at more: isinstance, own == -/
def exB (T : Tab) (K : PySem.W.Frag) : Bool := (decide (PySem.W.specialIn K (.builtin "object.__class__") "__get__" = some (some (.builtin "getset_descriptor.__get__"))) && decide (PySem.W.takesIn K (.builtin "object.__class__") = some true)) &&
  T.cls.all fun ct => ((List.range T.cls.length).all fun k => match T.cls[k]? with
    | some kt => decide (PySem.W.kitOne K (.ref (He.ga K ct.name)) (.ref (He.ga K kt.name)) = some (decide (k ∈ ct.anc)))
    | none => true) && ((tyNs.all fun n => decide (PySem.W.kitOne K (.ref (He.ga K ct.name)) (.type n) = some false)) && ((tyAll.all fun n => decide (PySem.W.kitOne K (.type n) (.ref (He.ga K ct.name)) = some false)) &&
      (decide (PySem.W.findIn K (.ref (He.ga K ct.name)) "__class__" = some (some (.builtin "object.__class__"))) && (decide (PySem.W.mroIn K (He.ga K ct.name) (.type "object") = some true) && decide (PySem.W.findIn K (.ref (He.ga K ct.name)) "__ne__" = some (some (.builtin "object.__ne__")))))))
/-- the table stands by itself -/
def Tab.okB (T : Tab) : Bool := decide T.nm.Nodup && T.cls.all fun ct => (ct.flds.all fun f => decide (f < T.nm.length)) && ((ct.meths.all fun mf => decide (mf.1 < T.nm.length) && match T.fns[mf.2]? with
    | some ft => decide (ft.at_ = (ct.name, some (T.nm.getD mf.1 Str.empty)))
    | none => false) && match T.fns[ct.init]? with
      | some ft => decide (ft.at_ = (ct.name, some ("__init__" : Str)))
      | none => true)
theorem mem_lookup {α : Type} {m : Nat} {v : α} : ∀ {l : List (Nat × α)}, l.lookup m = some v → (m, v) ∈ l
  | [], h => by cases h
  | (n, u) :: r, h => by
    rw [List.lookup_cons] at h
    cases q : (m == n) with
    | true =>
      rw [q] at h
      cases h
      cases beq_iff_eq.mp q
      exact List.mem_cons_self
    | false =>
      rw [q] at h
      exact List.mem_cons_of_mem _ (mem_lookup h)
def clsAd (T : Tab) (K : PySem.W.Frag) (c : Nat) : Addr := match T.cls[c]? with
  | some ct => He.ga K ct.name
  | none => 0
theorem nm_inj {l : List Str} (h : l.Nodup) (f g : Nat) (hf : f < l.length) (hg : g < l.length) (e : l.getD f Str.empty = l.getD g Str.empty) : f = g := by
  have e1 : l.getD f Str.empty = l[f] := by simp [List.getD, hf]
  have e2 : l.getD g Str.empty = l[g] := by simp [List.getD, hg]
  rw [e1, e2] at e
  exact (List.getElem_inj h).mp e
def needFa (T : Tab) : List He.Fa := needFa0 T ++ T.gls.flatMap glFa
theorem kit_ok {T : Tab} {K : PySem.W.Frag} (h : exB T K = true) : KitOk T K (clsAd T K) := by
  obtain ⟨h1, h2⟩ := band h
  obtain ⟨h3, h4⟩ := band h1
  have cAd : ∀ {c : Nat} {ct : ClsT}, T.cls[c]? = some ct → clsAd T K c = He.ga K ct.name := fun {c ct} e => by
    unfold clsAd
    rw [e]
  have at_ : ∀ {c : Nat} {ct : ClsT}, T.cls[c]? = some ct → _ := fun {c ct} e => List.all_eq_true.mp h2 ct (List.mem_of_getElem? e)
  refine ⟨fun c k ct kt e1 e2 => ?_, fun c ct n e1 hn => ?_, fun n k kt hn e1 => ?_, fun c ct e1 => ?_, fun c ct e1 => of_decide_eq_true h3, fun c ct e1 => of_decide_eq_true h4, fun c ct e1 => ?_, fun c ct e1 => ?_⟩
  · obtain ⟨g1, _⟩ := band (at_ e1)
    have hk : k < T.cls.length := (List.getElem?_eq_some_iff.mp e2).1
    have g2 := List.all_eq_true.mp g1 k (List.mem_range.mpr hk)
    rw [e2] at g2
    rw [cAd e1, cAd e2]
    exact of_decide_eq_true g2
  · obtain ⟨_, g1⟩ := band (at_ e1)
    obtain ⟨g1, _⟩ := band g1
    rw [cAd e1]
    exact of_decide_eq_true (List.all_eq_true.mp g1 n hn)
  · obtain ⟨_, g1⟩ := band (at_ e1)
    obtain ⟨_, g1⟩ := band g1
    obtain ⟨g1, _⟩ := band g1
    rw [cAd e1]
    exact of_decide_eq_true (List.all_eq_true.mp g1 n hn)
  · obtain ⟨_, g1⟩ := band (at_ e1)
    obtain ⟨_, g1⟩ := band g1
    obtain ⟨_, g1⟩ := band g1
    obtain ⟨g1, _⟩ := band g1
    rw [cAd e1]
    exact of_decide_eq_true g1
  · obtain ⟨_, g1⟩ := band (at_ e1)
    obtain ⟨_, g1⟩ := band g1
    obtain ⟨_, g1⟩ := band g1
    obtain ⟨_, g1⟩ := band g1
    obtain ⟨g1, _⟩ := band g1
    rw [cAd e1]
    exact of_decide_eq_true g1
  · obtain ⟨_, g1⟩ := band (at_ e1)
    obtain ⟨_, g1⟩ := band g1
    obtain ⟨_, g1⟩ := band g1
    obtain ⟨_, g1⟩ := band g1
    obtain ⟨_, g1⟩ := band g1
    rw [cAd e1]
    exact of_decide_eq_true g1
def mkTx (T : Tab) (K : PySem.W.Frag) (h : T.okB = true) : Tx := ⟨K, clsAd T K, fun f => T.nm.getD f Str.empty, T.nm.length, nm_inj (of_decide_eq_true (Bool.and_eq_true_iff.mp h).1)⟩
section
variable {T : Tab} {ds : List He.DefD} {K : PySem.W.Frag} {mg : Str → Option Value} {h : Heap} {fa : List He.Fa}
theorem tab_ok (hT : T.okB = true) (A : AllOk T T.fns ds) (X : K.In h) (G : h.Ns mainGlobals mg) (hfa2 : ∀ f ∈ needFa T, f.ok K = true) (hgl : T.gls.all glOk = true) (hex : exB T K = true) (hkw : KAll T ds T.kws) (fun_ : ∀ d ∈ ds, ∃ fd, FunD K d.name d.qual d.params d.body d.scope (d.dvs K) (d.kws K) (He.fAd K d.at_) fd) :
    TabOk (mkTx T K hT) T ds K mg := by
  have hfa : ∀ f ∈ needFa0 T, f.ok K = true := fun f m => hfa2 f (List.mem_append_left _ m)
  obtain ⟨h1, h2⟩ := band hT
  have inC : ∀ {c : Nat} {ct : ClsT} {f : He.Fa}, T.cls[c]? = some ct → f ∈ [He.Fa.glo ct.name, He.Fa.cls ct.name] ++ ((ct.flds.map fun f => He.Fa.noat ct.name (T.nm.getD f Str.empty)) ++
      ((ct.meths.map fun mf => He.Fa.meth ct.name (T.nm.getD mf.1 Str.empty)) ++ match T.fns[ct.init]? with
        | some _ => [He.Fa.mkr ct.name]
        | none => [])) → f.ok K = true := fun e m => hfa _ (List.mem_append_right _ (List.mem_append_right _ (List.mem_flatMap.mpr ⟨_, List.mem_of_getElem? e, m⟩)))
  have cAd : ∀ {c : Nat} {ct : ClsT}, T.cls[c]? = some ct → (mkTx T K hT).cls c = He.ga K ct.name := fun {c ct} e => by
    show clsAd T K c = _
    unfold clsAd
    rw [e]
  refine ⟨rfl, A, fun_, fun f ft x e1 e2 => ?_, fun c ct m f e1 e2 => ?_, fun c ct ft e1 e2 => ?_, fun c ct e1 => ?_, fun c ct e1 => ?_, fun c f e => ?_, fun f x e => ?_, fun x m => ?_, hkw, kit_ok hex, fun k x d e => ?_⟩
  · refine He.glo_ok X G (hfa _ (List.mem_append_right _ (List.mem_append_left _ (List.mem_flatMap.mpr ⟨ft, List.mem_of_getElem? e1, ?_⟩))))
    rw [e2]
    exact List.mem_singleton.mpr rfl
  · have k := List.all_eq_true.mp h2 ct (List.mem_of_getElem? e1)
    obtain ⟨_, k⟩ := band k
    obtain ⟨k, _⟩ := band k
    have mm : (m, f) ∈ ct.meths := mem_lookup e2
    obtain ⟨k1, k2⟩ := band (List.all_eq_true.mp k _ mm)
    have k2' : (match T.fns[f]? with
      | some ft => decide (ft.at_ = (ct.name, some (T.nm.getD m Str.empty)))
      | none => false) = true := k2
    cases q : T.fns[f]? with
    | none =>
      rw [q] at k2'
      cases k2'
    | some ft =>
      rw [q] at k2'
      have e3 : ft.at_ = (ct.name, some (T.nm.getD m Str.empty)) := of_decide_eq_true k2'
      refine ⟨ft, rfl, ?_⟩
      rw [cAd e1, e3]
      exact He.meth_ok (inC e1 (List.mem_append_right _ (List.mem_append_right _ (List.mem_append_left _ (List.mem_map.mpr ⟨(m, f), mm, rfl⟩)))))
  · have k := List.all_eq_true.mp h2 ct (List.mem_of_getElem? e1)
    obtain ⟨_, k⟩ := band k
    obtain ⟨_, k⟩ := band k
    rw [e2] at k
    have e3 : ft.at_ = (ct.name, some ("__init__" : Str)) := of_decide_eq_true k
    rw [cAd e1, e3]
    refine He.mkr_ok (inC e1 (List.mem_append_right _ (List.mem_append_right _ (List.mem_append_right _ ?_))))
    rw [e2]
    exact List.mem_singleton.mpr rfl
  · rw [cAd e1]
    exact He.glo_ok X G (inC e1 (List.mem_append_left _ List.mem_cons_self))
  · rw [cAd e1]
    exact He.cls_ok (inC e1 (List.mem_append_left _ (List.mem_cons_of_mem _ List.mem_cons_self)))
  · unfold hasF at e
    cases q : T.cls[c]? with
    | none =>
      rw [q] at e
      cases e
    | some ct =>
      rw [q] at e
      have mf : f ∈ ct.flds := List.contains_iff_mem.mp e
      have k := List.all_eq_true.mp h2 ct (List.mem_of_getElem? q)
      obtain ⟨k, _⟩ := band k
      refine ⟨?_, of_decide_eq_true (List.all_eq_true.mp k f mf)⟩
      rw [cAd q]
      exact He.noat_ok (inC q (List.mem_append_right _ (List.mem_append_left _ (List.mem_map.mpr ⟨f, mf, rfl⟩))))
  · have hf : f < T.nm.length := (List.getElem?_eq_some_iff.mp e).1
    refine ⟨?_, hf⟩
    show T.nm.getD f Str.empty = x
    rw [List.getD, e]
    rfl
  · exact He.free_ok X G (hfa _ (List.mem_append_left _ (List.mem_map.mpr ⟨x, m, rfl⟩)))
  · have m := List.mem_of_getElem? e
    have ok := List.all_eq_true.mp hgl _ m
    have inG : ∀ f ∈ glFa (x, d), f.ok K = true := fun f m2 => hfa2 f (List.mem_append_right _ (List.mem_flatMap.mpr ⟨_, m, m2⟩))
    cases d with
    | int i =>
      obtain ⟨tk, e1⟩ := He.int_ok X G (inG (.int x i) (List.mem_singleton.mpr rfl))
      exact ⟨_, .int i, e1, ⟨tk, rfl⟩, fun w => rfl⟩
    | str z =>
      obtain ⟨tk, e1⟩ := He.str_ok X G (inG (.str x z) (List.mem_singleton.mpr rfl))
      exact ⟨_, .str z, e1, ⟨tk, rfl⟩, fun w => rfl⟩
    | _ => cases ok
end
section
open PySem.W PySem.Calls
/-- THE LAW: the machine's run says True at every script -/
theorem law_of {l : PySem.W.OpenLaw} {q : Program} {loose : List Str} {XP : (Str → Option Value) → Heap → Prop} {d : DefRec} {T : Tab} {ds : List He.DefD} {n hops W k f : Nat} {x : Str} {ft : FnT}
    (hn : l.most = some n) (hn2 : n ≤ sizeLine) (hdf : d.params.defaults = []) (hT : T.okB = true) (A : AllOk T T.fns ds) (hgl : T.gls.all glOk = true) (hkw : KAll T ds T.kws) (hf : T.fns[f]? = some ft) (hat : ft.at_ = (d.name, none)) (hps : ft.N.take ft.ps = [x]) (hr : Room (3 * k) callerA)
    (hrun : ∀ ns : List Int, ns.length ≤ n → ∃ h, run T W k f [.rl (ns.map D.int)] [] = .ok (.bl true) h) :
    PySem.W.WalkO q loose XP (He.hookX hops (needFa T) ds [] [] (exB T)).says l.row.toRowW d [] (fun f vs => PySem.call f vs) := by
  refine Att.attach_call hn hdf fun w s₀ s₁ mg mb fa o pm cd doc a vs ns G Y ho hd hcd hmg hobj hints hlen hg => ?_
  obtain ⟨K, KX, c⟩ := Y
  have cD : He.SaysD (needFa T) ds K := congrArg Prod.fst c.t
  have O := tab_ok (mg := mg) hT A KX G.T.g (fun f m => cD.facts m) hgl c.more hkw (fun d m => cD.defs m)
  obtain ⟨d1, fd1, _, q1, F1⟩ := O.fn hf
  have e0 : He.fAd K ft.at_ = He.ga K d.name := by rw [hat]; rfl
  have e1 : fa = He.fAd K ft.at_ := by
    have z : some (Value.ref fa) = some (Value.ref (He.ga K d.name)) := hmg.symm.trans (O.glo f ft d.name hf hat)
    cases z
    exact e0.symm
  subst e1
  have hb : ∀ (s : Shared) (u : Value), BindsTo s fd1 ⟨[u], []⟩ [(x, u)] := fun s u => by
    have b := FunD.bindsA (ps := ft.N.take ft.ps) F1 (fun kV doc pm an cdv ct us hl => q1.bnd _ _ _ _ kV doc pm an cdv ct us hl) s [u] (by rw [hps]; rfl)
    rw [hps] at b
    exact b
  have hF : ∀ base : Heap, K.In base → base.Ns mainGlobals mg → FnOk l.prog w K mg base (L2.CX l.prog w) (3 * k) (He.fAd K ft.at_) fd1 [x] (spF (mkTx T K hT) (run T W k) f) := fun base _ _ => by
    rw [← hps]
    exact (fns_ok (P := l.prog) (w := w) (base := base) (W := W) O k f ft hf d1 fd1 q1 F1).1
  refine law_call KX G.T.g G.T.b G.T.builtins G.T.nolimit hg hobj hints (Nat.le_trans hlen hn2) hr hF hb (fun H hO hS => ?_) (fun H e s' ⟨_, _, _, _, _, _, _, _, _, _, _, _, z⟩ => z)
  obtain ⟨h, e⟩ := hrun ns hlen
  refine ⟨⟨[], [], H, []⟩, [.rl (ns.map D.int)], rfl, ⟨rfl, .nil, fun a m => (by cases m), fun n o a e => (by cases e), fun a m => (by cases m)⟩, ⟨.ref a, [], rfl, ⟨a, ns.map V.int, rfl, ?_, ?_, RL.of_ints ns⟩, rfl⟩, ?_⟩
  · have nl : ∀ b, ¬ Wd.live ⟨[], [], H, []⟩ b := fun b ⟨n, o, e1, _⟩ => by cases e1
    rcases hS with hS | hS
    · rcases hS with z | ⟨ob, z⟩
      · exact .inl ⟨z, nl a, fun m => by cases m⟩
      · exact .inr (.inl ⟨ob, z, nl a, fun m => by cases m⟩)
    · exact .inr (.inr hS)
  · rw [List.length_map]
    exact Nat.le_trans hlen hn2
  · show Post _ _ _ _ _ _ (run T W k f [.rl (ns.map D.int)] [])
    rw [e]
    exact fun w' v _ _ _ r => r
end
end VM

set_option Elab.async false
set_option linter.all false
set_option maxRecDepth 100000
set_option maxHeartbeats 4000000
/-! VmW: what the machine's steps must meet, backwards. -/
namespace VM
open PySem L2
def wR {α : Type} (r : Res α) (Q : α → Hs → Prop) : Prop := match r with
  | .ok a h => Q a h
  | _ => False
def wO {α : Type} (o : Option α) (P : α → Prop) : Prop := match o with
  | some a => P a
  | none => False
theorem wR_bind {α β : Type} {r : Res α} {f : α → Hs → Res β} {Q : β → Hs → Prop} (h : wR r fun a h => wR (f a h) Q) : wR (r.bind f) Q := by cases r <;> exact h
theorem wR_orBad {α β : Type} {o : Option α} {f : α → Res β} {Q : β → Hs → Prop} (h : wO o fun a => wR (f a) Q) : wR (orBad o f) Q := by cases o <;> exact h
theorem wR_mono {α : Type} {r : Res α} {Q Q' : α → Hs → Prop} (h : wR r Q) (i : ∀ a h, Q a h → Q' a h) : wR r Q' := by
  cases r with
  | ok a h' => exact i a h' h
  | _ => exact h
theorem wO_some {α : Type} {o : Option α} {a : α} {P : α → Prop} (e : o = some a) (h : P a) : wO o P := by rw [e]; exact h
theorem wR_ok {α : Type} {r : Res α} {a : α} {h' : Hs} {Q : α → Hs → Prop} (e : r = .ok a h') (h : Q a h') : wR r Q := by rw [e]; exact h
theorem wR_get {α : Type} {r : Res α} {Q : α → Hs → Prop} (h : wR r Q) : ∃ a h', r = .ok a h' ∧ Q a h' := by
  cases r with
  | ok a h' => exact ⟨a, h', rfl, h⟩
  | ex _ _ => exact h.elim
  | bad => exact h.elim
section
variable {T : Tab} {cl : Call} {W : Nat} {σ : Sl} {h : Hs} {Q : D → Hs → Prop} {a b c d lo hi : E} {as ks : A}
theorem w_var {i : Nat} {v : D} (e : getSl σ i = some v) (q : Q v h) : wR (ev T cl (.var i) σ h) Q := wR_orBad (wO_some e q)
theorem w_int {i : Int} (q : Q (.int i) h) : wR (ev T cl (.int i) σ h) Q := q
theorem w_bl {i : Bool} (q : Q (.bl i) h) : wR (ev T cl (.bl i) σ h) Q := q
theorem w_non (q : Q .non h) : wR (ev T cl .non σ h) Q := q
theorem w_str {s : Str} (q : Q (.str s) h) : wR (ev T cl (.str s) σ h) Q := q
theorem w_bin {op : Operator} (q : wR (ev T cl a σ h) fun x h1 => wR (ev T cl b σ h1) fun y h2 => wO (binV op h2 x y) fun z => Q z h2) : wR (ev T cl (.bin op a b) σ h) Q := wR_bind (wR_mono q fun _ _ q => wR_bind (wR_mono q fun _ _ q => wR_orBad q))
theorem w_cmp {op : CmpOp} (q : wR (ev T cl a σ h) fun x h1 => wR (ev T cl b σ h1) fun y h2 => wO (cmpV op h2 x y) fun z => Q (.bl z) h2) : wR (ev T cl (.cmp op a b) σ h) Q := wR_bind (wR_mono q fun _ _ q => wR_bind (wR_mono q fun _ _ q => wR_orBad q))
theorem w_and (q : wR (ev T cl a σ h) fun x h1 => wO (truth h1 x) fun t => (t = true → wR (ev T cl b σ h1) Q) ∧ (t = false → Q x h1)) : wR (ev T cl (.and_ a b) σ h) Q := wR_bind (wR_mono q fun _ _ q => wR_orBad (by
  revert q
  cases truth _ _ with
  | none => exact id
  | some t => cases t with
    | true => exact fun q => q.1 rfl
    | false => exact fun q => q.2 rfl))
theorem w_or (q : wR (ev T cl a σ h) fun x h1 => wO (truth h1 x) fun t => (t = true → Q x h1) ∧ (t = false → wR (ev T cl b σ h1) Q)) : wR (ev T cl (.or_ a b) σ h) Q := wR_bind (wR_mono q fun _ _ q => wR_orBad (by
  revert q
  cases truth _ _ with
  | none => exact id
  | some t => cases t with
    | true => exact fun q => q.1 rfl
    | false => exact fun q => q.2 rfl))
theorem w_not (q : wR (ev T cl a σ h) fun x h1 => wO (truth h1 x) fun t => Q (.bl (!t)) h1) : wR (ev T cl (.not_ a) σ h) Q := wR_bind (wR_mono q fun _ _ q => wR_orBad q)
theorem w_ife (q : wR (ev T cl c σ h) fun x h1 => wO (truth h1 x) fun t => (t = true → wR (ev T cl a σ h1) Q) ∧ (t = false → wR (ev T cl b σ h1) Q)) : wR (ev T cl (.ife c a b) σ h) Q := wR_bind (wR_mono q fun _ _ q => wR_orBad (by
  revert q
  cases truth _ _ with
  | none => exact id
  | some t => cases t with
    | true => exact fun q => q.1 rfl
    | false => exact fun q => q.2 rfl))
theorem w_tup (q : wR (evA T cl as σ h) fun ds h1 => ds.length ≤ lim ∧ Q (.tup ds) h1) : wR (ev T cl (.tup as) σ h) Q := wR_bind (wR_mono q fun ds h1 q => by
  show wR (if ds.length ≤ lim then _ else _) _
  rw [if_pos q.1]
  exact q.2)
theorem w_anil {Q : List D → Hs → Prop} (q : Q [] h) : wR (evA T cl .nil σ h) Q := q
theorem w_acons {Q : List D → Hs → Prop} (q : wR (ev T cl a σ h) fun x h1 => wR (evA T cl as σ h1) fun ds h2 => Q (x :: ds) h2) : wR (evA T cl (.cons a as) σ h) Q := wR_bind (wR_mono q fun _ _ q => wR_bind q)
theorem w_frz {f : F} (q : wR (evF T cl f σ h) fun ds h1 => Q (.lst ds) h1) : wR (ev T cl (.frz f) σ h) Q := wR_bind q
theorem w_heap {f : F} (q : wR (evF T cl f σ h) fun ds h1 => Q (.ref h1.length) (h1 ++ [.lst ds])) : wR (ev T cl (.heap f) σ h) Q := wR_bind q
theorem w_disp {Q : List D → Hs → Prop} (q : wR (evA T cl as σ h) fun ds h1 => ds.length ≤ lim ∧ Q ds h1) : wR (evF T cl (.disp as) σ h) Q := wR_bind (wR_mono q fun ds h1 q => by
  show wR (if ds.length ≤ lim then _ else _) _
  rw [if_pos q.1]
  exact q.2)
theorem w_rep {Q : List D → Hs → Prop} (q : wR (ev T cl a σ h) fun x h1 => wR (ev T cl b σ h1) fun y h2 => wO (mutI h2 x) fun ds => wO (repK ds y) fun es => Q es h2) : wR (evF T cl (.rep a b) σ h) Q := wR_bind (wR_mono q fun _ _ q => wR_bind (wR_mono q fun _ _ q => wR_orBad (by
  revert q
  cases mutI _ _ with
  | none => exact id
  | some ds => exact fun q => wR_orBad q)))
theorem w_fslice {Q : List D → Hs → Prop} {fl fh : Bool} (q : wR (ev T cl a σ h) fun x h1 => wR (ev T cl lo σ h1) fun y h2 => wO (partD fl y) fun l => wR (ev T cl hi σ h2) fun z h3 => wO (partD fh z) fun u => wO (lstI h3 x) fun ds => Q (cutD ds l u) h3) : wR (evF T cl (.slice fl fh a lo hi) σ h) Q := wR_bind (wR_mono q fun _ _ q => wR_bind (wR_mono q fun _ _ q => wR_orBad (by
  revert q
  cases partD _ _ with
  | none => exact id
  | some l => exact fun q => wR_bind (wR_mono q fun _ _ q => wR_orBad (by
    revert q
    cases partD _ _ with
    | none => exact id
    | some u => exact fun q => wR_orBad q)))))
theorem w_slice {fl fh : Bool} (q : wR (ev T cl a σ h) fun x h1 => wR (ev T cl lo σ h1) fun y h2 => wO (partD fl y) fun l => wR (ev T cl hi σ h2) fun z h3 => wO (partD fh z) fun u => wO (sliceD x l u) fun r => Q r h3) : wR (ev T cl (.slice fl fh a lo hi) σ h) Q := wR_bind (wR_mono q fun _ _ q => wR_bind (wR_mono q fun _ _ q => wR_orBad (by
  revert q
  cases partD _ _ with
  | none => exact id
  | some l => exact fun q => wR_bind (wR_mono q fun _ _ q => wR_orBad (by
    revert q
    cases partD _ _ with
    | none => exact id
    | some u => exact fun q => wR_orBad q)))))
theorem w_back {k : Nat} (q : wR (ev T cl a σ h) fun x h1 => wO (backD x k) fun r => Q r h1) : wR (ev T cl (.back a k) σ h) Q := wR_bind (wR_mono q fun _ _ q => wR_orBad q)
theorem w_ix (q : wR (ev T cl a σ h) fun x h1 => wR (ev T cl b σ h1) fun y h2 => wO (ixD h2 x y) fun z => Q z h2) : wR (ev T cl (.ix a b) σ h) Q := wR_bind (wR_mono q fun _ _ q => wR_bind (wR_mono q fun _ _ q => wR_orBad q))
theorem w_fld {f : Nat} (q : wR (ev T cl a σ h) fun x h1 => wO (fldD T h1 x f) fun z => Q z h1) : wR (ev T cl (.fld a f) σ h) Q := wR_bind (wR_mono q fun _ _ q => wR_orBad q)
theorem w_call {f : Nat} (q : wR (evA T cl as σ h) fun ds h1 => wR (cl f ds h1) Q) : wR (ev T cl (.call f as) σ h) Q := wR_bind q
theorem w_meth {m : Nat} (q : wR (ev T cl a σ h) fun x h1 => ∃ c fs f, clsD h1 x = some (c, fs) ∧ fs.lookup m = none ∧ ((T.cls[c]?).bind fun ct => ct.meths.lookup m) = some f ∧ wR (evA T cl as σ h1) fun ds h2 => wR (cl f (x :: ds) h2) Q) : wR (ev T cl (.meth a m as) σ h) Q := wR_bind (wR_mono q fun x h1 ⟨c, fs, f, e1, e2, e3, q⟩ => wR_orBad (wO_some e1 (by
  show wR (if (fs.lookup m).isSome then _ else _) _
  rw [e2]
  exact wR_orBad (wO_some e3 (wR_bind q)))))
theorem w_mk {c : Nat} {ct : ClsT} (e : T.cls[c]? = some ct) (q : wR (evA T cl as σ h) fun ds h1 => wR (cl ct.init (.ref h1.length :: ds) (h1 ++ [.ins c []])) fun v h2 => v = .non ∧ Q (.ref h1.length) h2) : wR (ev T cl (.mk c as) σ h) Q := wR_bind (wR_mono q fun ds h1 q => wR_orBad (wO_some e (wR_bind (wR_mono q fun v h2 ⟨e, q⟩ => by
  rw [e]
  exact q))))
theorem w_mkK {c k : Nat} {ct : ClsT} {kd : KwT} (e : T.cls[c]? = some ct) (e2 : T.kws[k]? = some kd) (q : wR (evA T cl as σ h) fun ds h1 => wR (evA T cl ks σ h1) fun es h2 => (kd.f = ct.init ∧ ds.length + 1 = kd.n ∧ es.length = kd.names.length) ∧ wR (cl ct.init (.ref h2.length :: (ds ++ pick kd.perm es)) (h2 ++ [.ins c []])) fun v h3 => v = .non ∧ Q (.ref h2.length) h3) : wR (ev T cl (.mkK c k as ks) σ h) Q := wR_bind (wR_mono q fun ds h1 q => wR_bind (wR_mono q fun es h2 q => wR_orBad (wO_some e (wR_orBad (wO_some e2 (by
  show wR (if _ then _ else _) _
  rw [if_pos q.1]
  exact wR_bind (wR_mono q.2 fun v h2 ⟨e, q⟩ => by
    rw [e]
    exact q)))))))
theorem w_len (q : wR (ev T cl a σ h) fun x h1 => (∃ ds, items h1 x = some ds ∧ Q (.int ds.length) h1)) : wR (ev T cl (.len a) σ h) Q := wR_bind (wR_mono q fun x h1 ⟨ds, e, q⟩ => by
  cases x <;> first | exact wR_orBad (wO_some e q) | cases e)
theorem w_abs (q : wR (ev T cl a σ h) fun x h1 => ∃ i, x = .int i ∧ Q (.int (if i < 0 then -i else i)) h1) : wR (ev T cl (.abs a) σ h) Q := wR_bind (wR_mono q fun x h1 ⟨i, e, q⟩ => by
  rw [e]
  exact q)
theorem w_isi {t : Ty} (q : wR (ev T cl a σ h) fun x h1 => wO (isTy T h1 x t) fun b => Q (.bl b) h1) : wR (ev T cl (.isi a t) σ h) Q := wR_bind (wR_mono q fun _ _ q => wR_orBad q)
theorem w_isiT {ts : List Ty} (q : wR (ev T cl a σ h) fun x h1 => wO (isTys T h1 x ts) fun b => Q (.bl b) h1) : wR (ev T cl (.isiT a ts) σ h) Q := wR_bind (wR_mono q fun _ _ q => wR_orBad q)
theorem w_all (q : wR (ev T cl a σ h) fun x h1 => wO ((lstI h1 x).bind boolsD) fun bs => Q (.bl (bs.all id)) h1) : wR (ev T cl (.all a) σ h) Q := wR_bind (wR_mono q fun _ _ q => wR_orBad q)
theorem w_eqI {ng : Bool} {m : Nat} (q : wR (ev T cl a σ h) fun x h1 => wR (ev T cl b σ h1) fun y h2 => ∃ c fs ct f, clsD h2 x = some (c, fs) ∧ T.cls[c]? = some ct ∧ ct.meths.lookup m = some f ∧ eqOk T h2 y c = true ∧ wR (cl f [x, y] h2) fun v h3 => ∃ r, v = .bl r ∧ Q (.bl (r != ng)) h3) : wR (ev T cl (.eqI ng m a b) σ h) Q := wR_bind (wR_mono q fun x _ q => wR_bind (wR_mono q fun y h2 ⟨c, fs, ct, f, e1, e2, e3, e4, q⟩ => wR_bind (by
  unfold eqIb
  refine wR_orBad (wO_some e1 (wR_orBad (wO_some e2 (wR_orBad (wO_some e3 ?_)))))
  rw [if_pos e4]
  obtain ⟨v, h3, e5, r, e6, q⟩ := wR_get q
  rw [e5, e6]
  exact q)))
theorem w_glo {k : Nat} {x : Str} {v : D} (e : T.gls[k]? = some (x, v)) (q : Q v h) : wR (ev T cl (.glo k) σ h) Q := wR_orBad (wO_some e q)
/-! stores -/
theorem g_nm {i : Nat} {v : D} {Q : Sl → Hs → Prop} (q : Q (σ.set i (some v)) h) : wR (evG T cl (.name i) v σ h) Q := q
theorem g_sb {v : D} {Q : Sl → Hs → Prop} (q : wR (ev T cl a σ h) fun x h1 => wR (ev T cl b σ h1) fun y h2 => ∃ n ob ob', x = .ref n ∧ h2[n]? = some ob ∧ storeO ob y v = some ob' ∧ Q σ (h2.set n ob')) : wR (evG T cl (.sub a b) v σ h) Q := wR_bind (wR_mono q fun x _ q => wR_bind (wR_mono q fun y h2 ⟨n, ob, ob', e1, e2, e3, q⟩ => by
  rw [e1]
  exact wR_orBad (wO_some e2 (wR_orBad (wO_some e3 q)))))
theorem g_fl {f : Nat} {v : D} {Q : Sl → Hs → Prop} (q : wR (ev T cl a σ h) fun x h1 => ∃ n c fs, x = .ref n ∧ h1[n]? = some (.ins c fs) ∧ (fs.length < 900 ∧ hasF T c f = true) ∧ Q σ (h1.set n (.ins c (putN f v fs)))) : wR (evG T cl (.fld a f) v σ h) Q := wR_bind (wR_mono q fun x h1 ⟨n, c, fs, e1, e2, e3, q⟩ => by
  rw [e1]
  show wR (match h1[n]? with
    | some (.ins c fs) => if fs.length < 900 ∧ hasF T c f = true then .ok σ (h1.set n (.ins c (putN f v fs))) else .bad
    | _ => .bad) _
  rw [e2]
  show wR (if _ then _ else _) _
  rw [if_pos e3]
  exact q)
end
/-! ### statements -/
structure Po where
  nx : Sl → Hs → Prop
  rt : D → Hs → Prop
  bk : Sl → Hs → Prop
  ct : Sl → Hs → Prop
def wX (o : Out) (P : Po) : Prop := match o with
  | .nx σ h => P.nx σ h
  | .rt d h => P.rt d h
  | .bk σ h => P.bk σ h
  | .ct σ h => P.ct σ h
  | _ => False
section
variable {T : Tab} {cl : Call} {W : Nat} {σ : Sl} {h : Hs} {P : Po} {a b : S} {e c : E}
theorem out_w {α : Type} {r : Res α} {σ' : Sl} {f : α → Hs → Out} (q : wR r fun x h1 => wX (f x h1) P) : wX (r.out σ' f) P := by cases r <;> exact q
theorem x_skip (q : P.nx σ h) : wX (exec T cl W .skip σ h) P := q
theorem x_seq (q : wX (exec T cl W a σ h) ⟨fun σ1 h1 => wX (exec T cl W b σ1 h1) P, P.rt, P.bk, P.ct⟩) : wX (exec T cl W (.seq a b) σ h) P := by
  show wX ((exec T cl W a σ h).andThen fun σ1 h1 => exec T cl W b σ1 h1) P
  cases q2 : exec T cl W a σ h <;> (rw [q2] at q; exact q)
theorem x_asg {g : G} (q : wR (ev T cl e σ h) fun d h1 => wR (evG T cl g d σ h1) P.nx) : wX (exec T cl W (.asg g e) σ h) P := out_w (wR_mono q fun _ _ q => out_w q)
theorem x_asg2 {i j : Nat} {e c : E} (q : wR (ev T cl e σ h) fun x h1 => wR (ev T cl c σ h1) fun y h2 => P.nx ((σ.set i (some x)).set j (some y)) h2) : wX (exec T cl W (.asg2 i j e c) σ h) P := out_w (wR_mono q fun _ _ q => out_w q)
theorem x_expr (q : wR (ev T cl e σ h) fun _ h1 => P.nx σ h1) : wX (exec T cl W (.expr e) σ h) P := out_w q
theorem x_ret (q : wR (ev T cl e σ h) P.rt) : wX (exec T cl W (.ret e) σ h) P := out_w q
theorem x_retN (q : P.rt .non h) : wX (exec T cl W .retN σ h) P := q
theorem x_if (q : wR (ev T cl c σ h) fun x h1 => wO (truth h1 x) fun t => (t = true → wX (exec T cl W a σ h1) P) ∧ (t = false → wX (exec T cl W b σ h1) P)) : wX (exec T cl W (.if_ c a b) σ h) P := by
  refine out_w (wR_bind (wR_mono q fun x h1 q => wR_orBad ?_))
  revert q
  cases truth _ _ with
  | none => exact id
  | some t => cases t with
    | true => exact fun q => q.1 rfl
    | false => exact fun q => q.2 rfl
theorem loop_w {turn : D → Sl → Hs → Out} {P : Po} (I : List D → Sl → Hs → Prop) (ht : ∀ d r σ h, I (d :: r) σ h → wX (turn d σ h) ⟨I r, P.rt, P.nx, I r⟩) (hn : ∀ σ h, I [] σ h → P.nx σ h) : ∀ (ds : List D) (σ : Sl) (h : Hs), I ds σ h → wX (loopD turn ds σ h) P
  | [], σ, h, i => hn σ h i
  | d :: ds, σ, h, i => by
    have q := ht d ds σ h i
    show wX ((turn d σ h).turn fun σ1 h1 => loopD turn ds σ1 h1) P
    cases q2 : turn d σ h with
    | nx σ1 h1 => rw [q2] at q; exact loop_w I ht hn ds σ1 h1 q
    | ct σ1 h1 => rw [q2] at q; exact loop_w I ht hn ds σ1 h1 q
    | bk σ1 h1 => rw [q2] at q; exact q
    | rt d h1 => rw [q2] at q; exact q
    | ex _ _ _ => rw [q2] at q; exact q
    | bad => rw [q2] at q; exact q
theorem x_for {g : G} {it : I} (J : List D → Sl → Hs → Prop) (q : wR (evI T cl it σ h) fun ds h1 => J ds σ h1) (ht : ∀ d r σ h, J (d :: r) σ h → wR (evG T cl g d σ h) fun σ1 h1 => wX (exec T cl W b σ1 h1) ⟨J r, P.rt, P.nx, J r⟩) (hn : ∀ σ h, J [] σ h → P.nx σ h) : wX (exec T cl W (.for_ g it b) σ h) P :=
  out_w (wR_mono q fun ds h1 q => loop_w J (fun d r σ h i => out_w (ht d r σ h i)) hn ds σ h1 q)
/-- a def -/
theorem w_run {k f : Nat} {ft : FnT} {ds : List D} {Q : D → Hs → Prop} (e : T.fns[f]? = some ft) (hl : ds.length = ft.ps) (q : wX (exec T (run T W k) W ft.body (startD ft.N.length ds) h) ⟨fun _ h1 => Q .non h1, Q, fun _ _ => False, fun _ _ => False⟩) : wR (run T W (k + 1) f ds h) Q := by
  have e1 : run T W (k + 1) f ds h = if ds.length = ft.ps then (exec T (run T W k) W ft.body (startD ft.N.length ds) h).val else .bad := by
    show (match T.fns[f]? with
      | some ft => if ds.length = ft.ps then (exec T (run T W k) W ft.body (startD ft.N.length ds) h).val else .bad
      | none => .bad) = _
    rw [e]
  rw [e1, if_pos hl]
  cases q2 : exec T (run T W k) W ft.body (startD ft.N.length ds) h <;> (rw [q2] at q; exact q)
/-! walks and lists that gather -/
theorem i_sq {c : E} {Q : List D → Hs → Prop} (q : wR (ev T cl c σ h) fun x h1 => wO (frozenItems x) fun ds => Q ds h1) : wR (evI T cl (.seq c) σ h) Q := wR_bind (wR_mono q fun _ _ q => wR_orBad q)
theorem i_rg {c : E} {Q : List D → Hs → Prop} (q : wR (ev T cl c σ h) fun x h1 => ∃ j : Int, x = .int j ∧ (-(2 ^ 62) ≤ j ∧ j < 2 ^ 62 ∧ j.toNat ≤ lim) ∧ Q (rangeD 0 j.toNat) h1) : wR (evI T cl (.range c) σ h) Q := wR_bind (wR_mono q fun x h1 ⟨j, e, e2, q⟩ => by
  rw [e]
  show wR (if _ then _ else _) _
  rw [if_pos e2]
  exact q)
theorem gather_w {turn : D → Hs → Res (Option D)} {Q : List D → Hs → Prop} (J : List D → List D → Hs → Prop) (ht : ∀ d r acc h, J (d :: r) acc h → wR (turn d h) fun o h1 => J r (match o with
    | some y => acc ++ [y]
    | none => acc) h1) (hn : ∀ acc h, J [] acc h → Q acc h) : ∀ (ds acc : List D) (h : Hs), J ds acc h → wR (gather turn ds acc h) Q
  | [], acc, h, i => hn acc h i
  | d :: ds, acc, h, i => by
    have q := ht d ds acc h i
    show wR (match turn d h with
      | .ok (some y) h' => gather turn ds (acc ++ [y]) h'
      | .ok none h' => gather turn ds acc h'
      | _ => .bad) Q
    cases q2 : turn d h with
    | ok o h1 =>
      rw [q2] at q
      cases o with
      | some y => exact gather_w J ht hn ds _ h1 q
      | none => exact gather_w J ht hn ds _ h1 q
    | ex _ _ => rw [q2] at q; exact q.elim
    | bad => rw [q2] at q; exact q.elim
/-- a comprehension without a test -/
theorem w_comp {own : List Nat} {tg : G} {it : I} {c : E} {Q : List D → Hs → Prop} (J : List D → List D → Hs → Prop) (q : wR (evI T cl it σ h) fun ds h1 => J ds [] h1) (ht : ∀ d r acc h, J (d :: r) acc h → wR (evG T cl tg d (wipeD σ own) h) fun σ2 h1 => wR (ev T cl c σ2 h1) fun y h2 => J r (acc ++ [y]) h2) (hn : ∀ acc h, J [] acc h → Q acc h) : wR (evF T cl (.comp own tg it .nil c) σ h) Q :=
  wR_bind (wR_mono q fun ds h1 q => gather_w J (fun d r acc h i => wR_bind (wR_mono (ht d r acc h i) fun σ2 h1 q => (show wR ((ev T cl c σ2 h1).bind fun y h5 => (Res.ok (some y) h5 : Res (Option D))) _ from wR_bind (wR_mono q fun y h2 q => q)))) hn ds [] h1 q)
end
end VM

set_option Elab.async false
set_option linter.all false
set_option maxRecDepth 100000
set_option maxHeartbeats 4000000
/-! VmX: operators, backwards. -/
namespace VM
open PySem L2
section
variable {h : Hs} {P : D → Prop} {R : Bool → Prop} {i j : Int}
theorem b_add (q : P (.int (i + j))) : wO (binV .Add h (.int i) (.int j)) P := q
theorem b_sub (q : P (.int (i - j))) : wO (binV .Sub h (.int i) (.int j)) P := q
theorem b_mul (hb : big i = true ∨ big j = true) (q : P (.int (i * j))) : wO (binV .Mult h (.int i) (.int j)) P := by
  refine wO_some (a := .int (i * j)) ?_ q
  show (if (big i || big j) = true then some (i * j) else none).map D.int = _
  rw [if_pos (Bool.or_eq_true_iff.mpr hb)]
  rfl
theorem b_div (hb : 0 < j ∧ j < 1073741824) (q : P (.int (i / j))) : wO (binV .FloorDiv h (.int i) (.int j)) P := by
  refine wO_some (a := .int (i / j)) ?_ q
  show (if 0 < j ∧ j < 1073741824 then some (i / j) else none).map D.int = _
  rw [if_pos hb]
  rfl
theorem b_mod (hb : 0 < j) (q : P (.int (i % j))) : wO (binV .Mod h (.int i) (.int j)) P := by
  refine wO_some (a := .int (i % j)) ?_ q
  show (if 0 < j then some (i % j) else none).map D.int = _
  rw [if_pos hb]
  rfl
theorem c_ge (q : R (decide (j ≤ i))) : wO (cmpV .GtE h (.int i) (.int j)) R := q
theorem c_gt (q : R (decide (j < i))) : wO (cmpV .Gt h (.int i) (.int j)) R := q
theorem c_le (q : R (decide (i ≤ j))) : wO (cmpV .LtE h (.int i) (.int j)) R := q
theorem c_lt (q : R (decide (i < j))) : wO (cmpV .Lt h (.int i) (.int j)) R := q
theorem ix_lst {n : Nat} {ds : List D} {y z : D} (e : h[n]? = some (.lst ds)) (e2 : atY ds y = some z) : ixD h (.ref n) y = some z := by
  show (match h[n]? with | some (.lst ds) => atY ds y | _ => (dlook h n y).join) = some z
  rw [e]
  exact e2
theorem it_ref {n : Nat} {ds : List D} (e : h[n]? = some (.lst ds)) : items h (.ref n) = some ds := by
  show (match h[n]? with | some (.lst ds) => some ds | _ => none) = some ds
  rw [e]
theorem big_of (h1 : -(2 ^ 64) < i) (h2 : i < 2 ^ 64) : big i = true := by
  unfold big
  rw [decide_eq_true h1, decide_eq_true h2]
  rfl
theorem at_map {cells : List Int} {k : Int} (h0 : 0 ≤ k) (h1 : k < cells.length) : ∃ x, cells[k.toNat]? = some x ∧ x ∈ cells ∧ atY (cells.map D.int) (.int k) = some (.int x) ∧ ixY0 (cells.map D.int).length (.int k) = some k.toNat := by
  have hk : k.toNat < cells.length := by omega
  refine ⟨cells[k.toNat], List.getElem?_eq_getElem hk, List.getElem_mem hk, ?_, ?_⟩
  · show L2.atI (cells.map D.int) k = _
    have e : L2.atI (cells.map D.int) ((k.toNat : Nat) : Int) = some (D.int cells[k.toNat]) := atI_nat (by rw [List.getElem?_map, List.getElem?_eq_getElem hk]; rfl)
    have e2 : ((k.toNat : Nat) : Int) = k := by omega
    rw [e2] at e
    exact e
  · show L2.ixN (cells.map D.int).length k = _
    unfold L2.ixN
    rw [if_pos h0, if_pos (by rw [List.length_map]; exact h1)]
/-- the law's state: its cells, where it reads, its number -/
structure Stt (h : Hs) (s c : Nat) (cells : List Int) (a b : Int) : Prop where
  hs : h[s]? = some (.lst [.ref c, .int a, .int b])
  hc : h[c]? = some (.lst (cells.map D.int))
  ne : 0 < cells.length
  pos : ∀ x ∈ cells, 0 ≤ x
  ha : 0 ≤ a
  hb : 0 ≤ b
  hb2 : b < 2147483648
  sc : s ≠ c
def St (h : Hs) (s c : Nat) : Prop := ∃ cells a b, Stt h s c cells a b
theorem St.frame {h h1 : Hs} {s c : Nat} (q : St h s c) (e1 : h1[s]? = h[s]?) (e2 : h1[c]? = h[c]?) : St h1 s c := by
  obtain ⟨cells, a, b, k⟩ := q
  exact ⟨cells, a, b, e1.trans k.hs, e2.trans k.hc, k.ne, k.pos, k.ha, k.hb, k.hb2, k.sc⟩
theorem St.app {h : Hs} {s c : Nat} (q : St h s c) (o : Ob) : St (h ++ [o]) s c := by
  obtain ⟨cells, a, b, k⟩ := id q
  have l1 : s < h.length := (List.getElem?_eq_some_iff.mp k.hs).1
  have l2 : c < h.length := (List.getElem?_eq_some_iff.mp k.hc).1
  exact q.frame (List.getElem?_append_left l1) (List.getElem?_append_left l2)
end
end VM

set_option Elab.async false
set_option linter.all false
set_option maxRecDepth 100000
set_option maxHeartbeats 4000000
namespace VM
open PySem L2 PyProof.Rows
def clsB : Stmt → List Stmt
  | .ClassDef (body := b) .. => b
  | _ => []
def top (i : Nat) : Stmt := PySem.Challenge.pw_ringless_k15_letters_told.main.body.getD i (.Pass ⟨0, 0, 0, 0⟩)
abbrev st0 : Stmt := ((clsB (top 1)).getD 0 (.Pass ⟨0, 0, 0, 0⟩))
def d0 : He.DefD := ⟨("Letter", some "__eq__"), "__eq__", "Letter.__eq__", defArgs st0, defBody st0, defScope st0, [], []⟩
def ft0 : FnT := ⟨("Letter", some "__eq__"), ["self", "other"], 2, (.seq (.ret (.and_ (.isi (.var 1) (.own 0)) (.cmp .Eq (.meth (.var 0) 1 .nil) (.meth (.var 1) 1 .nil)))) .skip)⟩
abbrev st1 : Stmt := ((clsB (top 1)).getD 1 (.Pass ⟨0, 0, 0, 0⟩))
def d1 : He.DefD := ⟨("Letter", some "told"), "told", "Letter.told", defArgs st1, defBody st1, defScope st1, [], []⟩
def ft1 : FnT := ⟨("Letter", some "told"), ["self"], 1, (.seq (.ret (.tup .nil)) .skip)⟩
abbrev st2 : Stmt := ((clsB (top 1)).getD 0 (.Pass ⟨0, 0, 0, 0⟩))
def d2 : He.DefD := ⟨("Say", some "__eq__"), "__eq__", "Letter.__eq__", defArgs st2, defBody st2, defScope st2, [], []⟩
def ft2 : FnT := ⟨("Say", some "__eq__"), ["self", "other"], 2, (.seq (.ret (.and_ (.isi (.var 1) (.own 0)) (.cmp .Eq (.meth (.var 0) 1 .nil) (.meth (.var 1) 1 .nil)))) .skip)⟩
abbrev st3 : Stmt := ((clsB (top 2)).getD 1 (.Pass ⟨0, 0, 0, 0⟩))
def d3 : He.DefD := ⟨("Say", some "told"), "told", "Say.told", defArgs st3, defBody st3, defScope st3, [], []⟩
def ft3 : FnT := ⟨("Say", some "told"), ["self"], 1, (.seq (.ret (.tup (.cons (.str "say") (.cons (.fld (.var 0) 2) (.cons (.fld (.var 0) 3) (.cons (.fld (.var 0) 4) .nil)))))) .skip)⟩
abbrev st4 : Stmt := ((clsB (top 2)).getD 0 (.Pass ⟨0, 0, 0, 0⟩))
def d4 : He.DefD := ⟨("Say", some "__init__"), "__init__", "Say.__init__", defArgs st4, defBody st4, defScope st4, [], []⟩
def ft4 : FnT := ⟨("Say", some "__init__"), ["self", "number", "root", "far"], 4, (.seq (.asg (.fld (.var 0) 2) (.var 1)) (.seq (.asg (.fld (.var 0) 3) (.var 2)) (.seq (.asg (.fld (.var 0) 4) (.var 3)) .skip)))⟩
abbrev st5 : Stmt := ((clsB (top 1)).getD 0 (.Pass ⟨0, 0, 0, 0⟩))
def d5 : He.DefD := ⟨("Agree", some "__eq__"), "__eq__", "Letter.__eq__", defArgs st5, defBody st5, defScope st5, [], []⟩
def ft5 : FnT := ⟨("Agree", some "__eq__"), ["self", "other"], 2, (.seq (.ret (.and_ (.isi (.var 1) (.own 0)) (.cmp .Eq (.meth (.var 0) 1 .nil) (.meth (.var 1) 1 .nil)))) .skip)⟩
abbrev st6 : Stmt := ((clsB (top 3)).getD 1 (.Pass ⟨0, 0, 0, 0⟩))
def d6 : He.DefD := ⟨("Agree", some "told"), "told", "Agree.told", defArgs st6, defBody st6, defScope st6, [], []⟩
def ft6 : FnT := ⟨("Agree", some "told"), ["self"], 1, (.seq (.ret (.tup (.cons (.str "agree") (.cons (.fld (.var 0) 2) .nil)))) .skip)⟩
abbrev st7 : Stmt := ((clsB (top 3)).getD 0 (.Pass ⟨0, 0, 0, 0⟩))
def d7 : He.DefD := ⟨("Agree", some "__init__"), "__init__", "Agree.__init__", defArgs st7, defBody st7, defScope st7, [], []⟩
def ft7 : FnT := ⟨("Agree", some "__init__"), ["self", "number"], 2, (.seq (.asg (.fld (.var 0) 2) (.var 1)) .skip)⟩
abbrev st8 : Stmt := (top 5)
def d8 : He.DefD := ⟨("_law_state", none), "_law_state", "_law_state", defArgs st8, defBody st8, defScope st8, [], []⟩
def ft8 : FnT := ⟨("_law_state", none), ["_law_script", "_law_cell"], 1, (.seq (.ret (.heap (.disp (.cons (.or_ (.heap (.comp [1] (.name 1) (.seq (.frz (.slice false true (.var 0) .non (.int 63)))) .nil (.abs (.var 1)))) (.heap (.disp (.cons (.int 7) .nil)))) (.cons (.int 0) (.cons (.int 1) .nil)))))) .skip)⟩
abbrev st9 : Stmt := (top 6)
def d9 : He.DefD := ⟨("_law_draw", none), "_law_draw", "_law_draw", defArgs st9, defBody st9, defScope st9, [], []⟩
def ft9 : FnT := ⟨("_law_draw", none), ["_law_state_here", "_law_many", "_law_cells", "_law_at", "_law_cell"], 2, (.seq (.asg (.name 2) (.ix (.var 0) (.int 0))) (.seq (.asg (.name 3) (.bin .Mod (.ix (.var 0) (.int 1)) (.len (.var 2)))) (.seq (.asg (.name 4) (.ix (.var 2) (.var 3))) (.seq (.if_ (.cmp .GtE (.var 4) (.int 1000000000000000000)) (.seq (.asg (.sub (.var 2) (.var 3)) (.bin .FloorDiv (.var 4) (.var 1))) (.seq (.ret (.bin .Mod (.var 4) (.var 1))) .skip)) .skip) (.seq (.asg (.sub (.var 0) (.int 1)) (.bin .Add (.ix (.var 0) (.int 1)) (.int 1))) (.seq (.asg (.sub (.var 0) (.int 2)) (.bin .Mod (.bin .Add (.bin .Add (.bin .Mult (.ix (.var 0) (.int 2)) (.int 69621)) (.var 4)) (.int 7919)) (.int 2147483647))) (.seq (.ret (.bin .Mod (.bin .FloorDiv (.bin .Mod (.bin .Mult (.ix (.var 0) (.int 2)) (.ix (.var 0) (.int 2))) (.int 2147483587)) (.int 8)) (.var 1))) .skip)))))))⟩
abbrev st10 : Stmt := (top 7)
def d10 : He.DefD := ⟨("_law_alike", none), "_law_alike", "_law_alike", defArgs st10, defBody st10, defScope st10, [], []⟩
def ft10 : FnT := ⟨("_law_alike", none), ["_law_one", "_law_other", "_law_k"], 2, (.seq (.if_ (.isiT (.var 1) [.list, .tuple]) (.seq (.if_ (.or_ (.cmp .NotEq (.isi (.var 0) .list) (.isi (.var 1) .list)) (.cmp .NotEq (.isi (.var 0) .tuple) (.isi (.var 1) .tuple))) (.seq (.ret (.bl false)) .skip) .skip) (.seq (.ret (.and_ (.cmp .Eq (.len (.var 0)) (.len (.var 1))) (.all (.frz (.comp [2] (.name 2) (.range (.len (.var 1))) .nil (.call 10 (.cons (.ix (.var 0) (.var 2)) (.cons (.ix (.var 1) (.var 2)) .nil)))))))) .skip)) .skip) (.seq (.if_ (.isi (.var 1) .str) (.seq (.ret (.and_ (.isi (.var 0) .str) (.cmp .Eq (.var 0) (.var 1)))) .skip) .skip) (.seq (.if_ (.or_ (.cmp .Is (.var 0) .non) (.cmp .Is (.var 1) .non)) (.seq (.ret (.and_ (.cmp .Is (.var 0) .non) (.cmp .Is (.var 1) .non))) .skip) .skip) (.seq (.if_ (.cmp .NotEq (.isi (.var 0) .bool) (.isi (.var 1) .bool)) (.seq (.ret (.bl false)) .skip) .skip) (.seq (.ret (.and_ (.isi (.var 0) .int) (.and_ (.isi (.var 1) .int) (.cmp .Eq (.var 0) (.var 1))))) .skip)))))⟩
abbrev st11 : Stmt := (top 8)
def d11 : He.DefD := ⟨("_law_letter", none), "_law_letter", "_law_letter", defArgs st11, defBody st11, defScope st11, [], []⟩
def ft11 : FnT := ⟨("_law_letter", none), ["_law_state_here", "_law_some", "_law_told", "_law_k"], 1, (.seq (.asg (.name 1) (.frz (.disp (.cons (.int 1) (.cons (.int 2) (.cons (.int 3) (.cons (.int 0) (.cons (.int 999) (.cons (.bin .Add (.int 1) (.call 9 (.cons (.var 0) (.cons (.int 400) .nil)))) (.cons (.bin .Pow (.int 10) (.int 30)) .nil)))))))))) (.seq (.asg (.name 2) (.frz (.comp [3] (.name 3) (.range (.int 3)) .nil (.ix (.var 1) (.call 9 (.cons (.var 0) (.cons (.int 7) .nil))))))) (.seq (.ret (.ife (.cmp .Eq (.call 9 (.cons (.var 0) (.cons (.int 2) .nil))) (.int 0)) (.tup (.cons (.str "agree") (.cons (.ix (.var 2) (.int 0)) .nil))) (.tup (.cons (.str "say") (.cons (.ix (.var 2) (.int 0)) (.cons (.ix (.var 2) (.int 1)) (.cons (.ix (.var 2) (.int 2)) .nil))))))) .skip)))⟩
abbrev st12 : Stmt := (top 9)
def d12 : He.DefD := ⟨("_law_made", none), "_law_made", "_law_made", defArgs st12, defBody st12, defScope st12, [], []⟩
def ft12 : FnT := ⟨("_law_made", none), ["_law_told", "_law_named"], 2, (.seq (.if_ (.cmp .Eq (.ix (.var 0) (.int 0)) (.str "agree")) (.seq (.ret (.ife (.var 1) (.mkK 2 0 .nil (.cons (.ix (.var 0) (.int 1)) .nil)) (.mk 2 (.cons (.ix (.var 0) (.int 1)) .nil)))) .skip) .skip) (.seq (.ret (.ife (.var 1) (.mkK 1 1 .nil (.cons (.ix (.var 0) (.int 3)) (.cons (.ix (.var 0) (.int 1)) (.cons (.ix (.var 0) (.int 2)) .nil)))) (.mk 1 (.cons (.ix (.var 0) (.int 1)) (.cons (.ix (.var 0) (.int 2)) (.cons (.ix (.var 0) (.int 3)) .nil)))))) .skip))⟩
abbrev st13 : Stmt := (top 10)
def d13 : He.DefD := ⟨("_law_bent", none), "_law_bent", "_law_bent", defArgs st13, defBody st13, defScope st13, [], []⟩
def ft13 : FnT := ⟨("_law_bent", none), ["_law_state_here", "_law_told", "_law_way", "_law_at"], 2, (.seq (.asg2 2 3 (.call 9 (.cons (.var 0) (.cons (.int 5) .nil))) (.bin .Add (.int 1) (.call 9 (.cons (.var 0) (.cons (.bin .Sub (.len (.var 1)) (.int 1)) .nil))))) (.seq (.if_ (.cmp .Eq (.var 2) (.int 4)) (.seq (.ret (.ife (.cmp .Eq (.var 3) (.int 1)) (.bin .Add (.slice false true (.var 1) .non (.int 1)) (.back (.var 1) 0)) (.bin .Add (.bin .Add (.slice false true (.var 1) .non (.int 1)) (.slice true false (.var 1) (.int 2) .non)) (.slice true true (.var 1) (.int 1) (.int 2))))) .skip) .skip) (.seq (.if_ (.cmp .Eq (.var 2) (.int 0)) (.seq (.ret (.var 1)) .skip) .skip) (.seq (.if_ (.cmp .Eq (.var 2) (.int 1)) (.seq (.ret (.call 11 (.cons (.var 0) .nil))) .skip) .skip) (.seq (.if_ (.cmp .Eq (.var 2) (.int 2)) (.seq (.ret (.ife (.cmp .Eq (.ix (.var 1) (.int 0)) (.str "say")) (.tup (.cons (.str "agree") (.cons (.ix (.var 1) (.int 1)) .nil))) (.tup (.cons (.str "say") (.cons (.ix (.var 1) (.int 1)) (.cons (.ix (.var 1) (.int 1)) (.cons (.ix (.var 1) (.int 1)) .nil))))))) .skip) .skip) (.seq (.ret (.bin .Add (.bin .Add (.slice false true (.var 1) .non (.var 3)) (.tup (.cons (.bin .Add (.ix (.var 1) (.var 3)) (.int 1)) .nil))) (.slice true false (.var 1) (.bin .Add (.var 3) (.int 1)) .non))) .skip))))))⟩
abbrev st14 : Stmt := (top 11)
def d14 : He.DefD := ⟨("_law_right", none), "_law_right", "_law_right", defArgs st14, defBody st14, defScope st14, [], []⟩
def ft14 : FnT := ⟨("_law_right", none), ["_law_state_here", "_law_told", "_law_second", "_law_one", "_law_other", "_law_wanted"], 1, (.seq (.asg (.name 1) (.call 11 (.cons (.var 0) .nil))) (.seq (.asg (.name 2) (.call 13 (.cons (.var 0) (.cons (.var 1) .nil)))) (.seq (.asg2 3 4 (.call 12 (.cons (.var 1) (.cons (.cmp .Eq (.call 9 (.cons (.var 0) (.cons (.int 2) .nil))) (.int 0)) .nil))) (.call 12 (.cons (.var 2) (.cons (.cmp .Eq (.call 9 (.cons (.var 0) (.cons (.int 2) .nil))) (.int 0)) .nil)))) (.seq (.if_ (.not_ (.call 10 (.cons (.frz (.disp (.cons (.meth (.var 3) 1 .nil) (.cons (.meth (.var 4) 1 .nil) (.cons (.meth (.var 3) 1 .nil) .nil))))) (.cons (.frz (.disp (.cons (.var 1) (.cons (.var 2) (.cons (.var 1) .nil))))) .nil)))) (.seq (.ret (.bl false)) .skip) .skip) (.seq (.if_ (.or_ (.not_ (.isi (.var 3) (.own 0))) (.cmp .Eq (.isi (.var 3) (.own 1)) (.isi (.var 3) (.own 2)))) (.seq (.ret (.bl false)) .skip) .skip) (.seq (.if_ (.cmp .NotEq (.isi (.var 3) (.own 1)) (.cmp .Eq (.ix (.var 1) (.int 0)) (.str "say"))) (.seq (.ret (.bl false)) .skip) .skip) (.seq (.asg (.name 5) (.cmp .Eq (.var 1) (.var 2))) (.seq (.if_ (.not_ (.call 10 (.cons (.frz (.disp (.cons (.eqI false 0 (.var 3) (.var 4)) (.cons (.eqI false 0 (.var 4) (.var 3)) .nil)))) (.cons (.frz (.rep (.frz (.disp (.cons (.var 5) .nil))) (.int 2))) .nil)))) (.seq (.ret (.bl false)) .skip) .skip) (.seq (.if_ (.not_ (.call 10 (.cons (.frz (.disp (.cons (.eqI true 0 (.var 3) (.var 4)) (.cons (.eqI true 0 (.var 4) (.var 3)) .nil)))) (.cons (.frz (.rep (.frz (.disp (.cons (.not_ (.var 5)) .nil))) (.int 2))) .nil)))) (.seq (.ret (.bl false)) .skip) .skip) (.seq (.if_ (.not_ (.call 10 (.cons (.frz (.disp (.cons (.eqI false 0 (.var 3) (.var 1)) (.cons (.eqI false 0 (.var 3) (.ix (.var 1) (.int 1))) (.cons (.eqI false 0 (.var 3) (.ix (.var 1) (.int 0))) (.cons (.eqI false 0 (.var 3) (.frz (.disp (.cons (.var 3) .nil)))) .nil)))))) (.cons (.frz (.rep (.frz (.disp (.cons (.bl false) .nil))) (.int 4))) .nil)))) (.seq (.ret (.bl false)) .skip) .skip) (.seq (.ret (.call 10 (.cons (.frz (.disp (.cons (.eqI true 0 (.var 3) (.var 1)) (.cons (.eqI true 0 (.var 3) (.ix (.var 1) (.int 1))) (.cons (.eqI false 0 (.var 4) (.var 2)) .nil))))) (.cons (.frz (.disp (.cons (.bl true) (.cons (.bl true) (.cons (.bl false) .nil))))) .nil)))) .skip)))))))))))⟩
abbrev st15 : Stmt := (top 12)
def d15 : He.DefD := ⟨("law", none), "law", "law", defArgs st15, defBody st15, defScope st15, [], []⟩
def ft15 : FnT := ⟨("law", none), ["_law_script", "_law_state_here", "_law_turn"], 1, (.seq (.asg (.name 1) (.call 8 (.cons (.var 0) .nil))) (.seq (.for_ (.name 2) (.range (.int 8)) (.seq (.if_ (.not_ (.call 14 (.cons (.var 1) .nil))) (.seq (.ret (.bl false)) .skip) .skip) .skip)) (.seq (.ret (.bl true)) .skip)))⟩
def tabNm : List Str := ["__eq__", "told", "number", "root", "far", "__init__"]
def tab : Tab := ⟨tabNm, [⟨"Letter", [0], [], [(0, 0), (1, 1)], 100000⟩, ⟨"Say", [1, 0], [2, 3, 4], [(0, 2), (1, 3)], 4⟩, ⟨"Agree", [2, 0], [2], [(0, 5), (1, 6)], 7⟩], [ft0, ft1, ft2, ft3, ft4, ft5, ft6, ft7, ft8, ft9, ft10, ft11, ft12, ft13, ft14, ft15], [], [⟨7, 1, ["number"], [0]⟩, ⟨4, 1, ["far", "number", "root"], [1, 2, 0]⟩]⟩
theorem ok0 : FOk tab ft0 d0 := ⟨rfl, rfl, rfl, ⟨rfl, rfl, rfl, by decide +kernel, by decide +kernel, by decide +kernel, by decide +kernel⟩, by decide +kernel, by kernel_rfl, fun _ _ _ _ _ _ _ _ _ _ us hl => match us, hl with | [_, _], _ => rfl⟩
theorem ok1 : FOk tab ft1 d1 := ⟨rfl, rfl, rfl, ⟨rfl, rfl, rfl, by decide +kernel, by decide +kernel, by decide +kernel, by decide +kernel⟩, by decide +kernel, by kernel_rfl, fun _ _ _ _ _ _ _ _ _ _ us hl => match us, hl with | [_], _ => rfl⟩
theorem ok2 : FOk tab ft2 d2 := ⟨rfl, rfl, rfl, ⟨rfl, rfl, rfl, by decide +kernel, by decide +kernel, by decide +kernel, by decide +kernel⟩, by decide +kernel, by kernel_rfl, fun _ _ _ _ _ _ _ _ _ _ us hl => match us, hl with | [_, _], _ => rfl⟩
theorem ok3 : FOk tab ft3 d3 := ⟨rfl, rfl, rfl, ⟨rfl, rfl, rfl, by decide +kernel, by decide +kernel, by decide +kernel, by decide +kernel⟩, by decide +kernel, by kernel_rfl, fun _ _ _ _ _ _ _ _ _ _ us hl => match us, hl with | [_], _ => rfl⟩
theorem ok4 : FOk tab ft4 d4 := ⟨rfl, rfl, rfl, ⟨rfl, rfl, rfl, by decide +kernel, by decide +kernel, by decide +kernel, by decide +kernel⟩, by decide +kernel, by kernel_rfl, fun _ _ _ _ _ _ _ _ _ _ us hl => match us, hl with | [_, _, _, _], _ => rfl⟩
theorem ok5 : FOk tab ft5 d5 := ⟨rfl, rfl, rfl, ⟨rfl, rfl, rfl, by decide +kernel, by decide +kernel, by decide +kernel, by decide +kernel⟩, by decide +kernel, by kernel_rfl, fun _ _ _ _ _ _ _ _ _ _ us hl => match us, hl with | [_, _], _ => rfl⟩
theorem ok6 : FOk tab ft6 d6 := ⟨rfl, rfl, rfl, ⟨rfl, rfl, rfl, by decide +kernel, by decide +kernel, by decide +kernel, by decide +kernel⟩, by decide +kernel, by kernel_rfl, fun _ _ _ _ _ _ _ _ _ _ us hl => match us, hl with | [_], _ => rfl⟩
theorem ok7 : FOk tab ft7 d7 := ⟨rfl, rfl, rfl, ⟨rfl, rfl, rfl, by decide +kernel, by decide +kernel, by decide +kernel, by decide +kernel⟩, by decide +kernel, by kernel_rfl, fun _ _ _ _ _ _ _ _ _ _ us hl => match us, hl with | [_, _], _ => rfl⟩
theorem ok8 : FOk tab ft8 d8 := ⟨rfl, rfl, rfl, ⟨rfl, rfl, rfl, by decide +kernel, by decide +kernel, by decide +kernel, by decide +kernel⟩, by decide +kernel, by kernel_rfl, fun _ _ _ _ _ _ _ _ _ _ us hl => match us, hl with | [_], _ => rfl⟩
theorem ok9 : FOk tab ft9 d9 := ⟨rfl, rfl, rfl, ⟨rfl, rfl, rfl, by decide +kernel, by decide +kernel, by decide +kernel, by decide +kernel⟩, by decide +kernel, by kernel_rfl, fun _ _ _ _ _ _ _ _ _ _ us hl => match us, hl with | [_, _], _ => rfl⟩
theorem ok10 : FOk tab ft10 d10 := ⟨rfl, rfl, rfl, ⟨rfl, rfl, rfl, by decide +kernel, by decide +kernel, by decide +kernel, by decide +kernel⟩, by decide +kernel, by kernel_rfl, fun _ _ _ _ _ _ _ _ _ _ us hl => match us, hl with | [_, _], _ => rfl⟩
theorem ok11 : FOk tab ft11 d11 := ⟨rfl, rfl, rfl, ⟨rfl, rfl, rfl, by decide +kernel, by decide +kernel, by decide +kernel, by decide +kernel⟩, by decide +kernel, by kernel_rfl, fun _ _ _ _ _ _ _ _ _ _ us hl => match us, hl with | [_], _ => rfl⟩
theorem ok12 : FOk tab ft12 d12 := ⟨rfl, rfl, rfl, ⟨rfl, rfl, rfl, by decide +kernel, by decide +kernel, by decide +kernel, by decide +kernel⟩, by decide +kernel, by kernel_rfl, fun _ _ _ _ _ _ _ _ _ _ us hl => match us, hl with | [_, _], _ => rfl⟩
theorem ok13 : FOk tab ft13 d13 := ⟨rfl, rfl, rfl, ⟨rfl, rfl, rfl, by decide +kernel, by decide +kernel, by decide +kernel, by decide +kernel⟩, by decide +kernel, by kernel_rfl, fun _ _ _ _ _ _ _ _ _ _ us hl => match us, hl with | [_, _], _ => rfl⟩
theorem ok14 : FOk tab ft14 d14 := ⟨rfl, rfl, rfl, ⟨rfl, rfl, rfl, by decide +kernel, by decide +kernel, by decide +kernel, by decide +kernel⟩, by decide +kernel, by kernel_rfl, fun _ _ _ _ _ _ _ _ _ _ us hl => match us, hl with | [_], _ => rfl⟩
theorem ok15 : FOk tab ft15 d15 := ⟨rfl, rfl, rfl, ⟨rfl, rfl, rfl, by decide +kernel, by decide +kernel, by decide +kernel, by decide +kernel⟩, by decide +kernel, by kernel_rfl, fun _ _ _ _ _ _ _ _ _ _ us hl => match us, hl with | [_], _ => rfl⟩
def allD : List He.DefD := [d0, d1, d2, d3, d4, d5, d6, d7, d8, d9, d10, d11, d12, d13, d14, d15]
theorem allOk : AllOk tab tab.fns allD := (.cons ok0 (.cons ok1 (.cons ok2 (.cons ok3 (.cons ok4 (.cons ok5 (.cons ok6 (.cons ok7 (.cons ok8 (.cons ok9 (.cons ok10 (.cons ok11 (.cons ok12 (.cons ok13 (.cons ok14 (.cons ok15 .nil))))))))))))))))
theorem kw0 : Pk d7.params (ft7.N.take ft7.ps) ⟨7, 1, ["number"], [0]⟩ := fun _ _ _ _ _ _ _ _ _ _ us ws h1 h2 => match us, h1, ws, h2 with | [_], _, [_], _ => rfl
theorem kw1 : Pk d4.params (ft4.N.take ft4.ps) ⟨4, 1, ["far", "number", "root"], [1, 2, 0]⟩ := fun _ _ _ _ _ _ _ _ _ _ us ws h1 h2 => match us, h1, ws, h2 with | [_], _, [_, _, _], _ => rfl
theorem kwAllOk : KAll tab allD tab.kws := (.cons (ft := ft7) (d := d7) rfl rfl kw0 (.cons (ft := ft4) (d := d4) rfl rfl kw1 .nil))
theorem glAllOk : tab.gls.all glOk = true := by kernel_rfl
theorem tabOkB : tab.okB = true := by kernel_rfl
end VM

set_option Elab.async false
set_option linter.all false
set_option maxRecDepth 100000
set_option maxHeartbeats 4000000
namespace VM
open PySem L2
local macro_rules | `(tactic| trivial) => `(tactic| first
  | with_reducible refine w_var (by with_unfolding_all rfl) ?_ | with_reducible refine w_int ?_ | with_reducible refine w_bl ?_ | with_reducible refine w_non ?_ | with_reducible refine w_str ?_ | with_reducible refine w_bin ?_ | with_reducible refine w_cmp ?_ | with_reducible refine w_and ?_ | with_reducible refine w_or ?_ | with_reducible refine w_not ?_ | with_reducible refine w_ife ?_ | with_reducible refine w_tup ?_ | with_reducible refine w_anil ?_ | with_reducible refine w_acons ?_
  | with_reducible refine w_frz ?_ | with_reducible refine w_heap ?_ | with_reducible refine w_disp ?_ | with_reducible refine w_rep ?_ | with_reducible refine w_slice ?_ | with_reducible refine w_fslice ?_ | with_reducible refine w_back ?_ | with_reducible refine w_ix ?_ | with_reducible refine w_fld ?_ | with_reducible refine w_call ?_ | with_reducible refine w_len ?_ | with_reducible refine w_abs ?_ | with_reducible refine w_isi ?_ | with_reducible refine w_isiT ?_ | with_reducible refine w_all ?_
  | with_reducible refine x_skip ?_ | with_reducible refine x_seq ?_ | with_reducible refine x_asg ?_ | with_reducible refine x_asg2 ?_ | with_reducible refine x_expr ?_ | with_reducible refine x_ret ?_ | with_reducible refine x_retN ?_ | with_reducible refine x_if ?_ | with_reducible refine g_nm ?_ | with_reducible refine g_sb ?_
  | with_reducible refine b_add ?_ | with_reducible refine b_sub ?_ | with_reducible refine c_ge ?_)
theorem draw (W k : Nat) {h : Hs} {s c : Nat} {m : Int} {Q : D → Hs → Prop} (q : St h s c) (hm : 0 < m) (hm2 : m < 1073741824) (hQ : ∀ d h1, 0 ≤ d → d < m → St h1 s c → h1.length = h.length → (∀ i, i ≠ s → i ≠ c → h1[i]? = h[i]?) → Q (.int d) h1) : wR (run tab W (k + 1) 9 [.ref s, .int m] h) Q := by
  obtain ⟨cells, a, b, k0⟩ := q
  refine w_run rfl rfl ?_
  dsimp only [ft9, startD]
  have hn : 0 < (cells.length : Int) := by have := k0.ne; omega
  have a0 : 0 ≤ a % (cells.length : Int) := Int.emod_nonneg _ (by omega)
  have a1 : a % (cells.length : Int) < cells.length := Int.emod_lt_of_pos _ hn
  obtain ⟨x, g1, g2, g3, g4⟩ := at_map a0 a1
  have x0 := k0.pos x g2
  have l1 : s < h.length := (List.getElem?_eq_some_iff.mp k0.hs).1
  have l2 : c < h.length := (List.getElem?_eq_some_iff.mp k0.hc).1
  repeat trivial
  refine wO_some (ix_lst k0.hs rfl) ?_
  repeat trivial
  refine wO_some (ix_lst k0.hs rfl) ?_
  repeat trivial
  refine ⟨_, it_ref k0.hc, ?_⟩
  rw [List.length_map]
  refine b_mod hn ?_
  repeat trivial
  refine wO_some (ix_lst k0.hc g3) ?_
  repeat trivial
  refine wO_some rfl ⟨fun ht => ?_, fun ht => ?_⟩
  · repeat trivial
    refine b_div ⟨hm, hm2⟩ ?_
    repeat trivial
    refine ⟨_, _, _, rfl, k0.hc, by rw [show storeO (.lst (cells.map D.int)) (.int (a % (cells.length : Int))) (.int (x / m)) = (ixY0 (cells.map D.int).length (.int (a % (cells.length : Int)))).map fun j => .lst ((cells.map D.int).set j (.int (x / m))) from rfl, g4]; rfl, ?_⟩
    repeat trivial
    refine b_mod hm ?_
    refine hQ _ _ (Int.emod_nonneg _ (by omega)) (Int.emod_lt_of_pos _ hm) ⟨cells.set (a % (cells.length : Int)).toNat (x / m), a, b, ?_, ?_, ?_, ?_, k0.ha, k0.hb, k0.hb2, k0.sc⟩ (List.length_set ..) (fun i n1 n2 => List.getElem?_set_ne (Ne.symm n2))
    · rw [List.getElem?_set_ne (Ne.symm k0.sc)]
      exact k0.hs
    · rw [List.getElem?_set_self l2, List.map_set]
    · rw [List.length_set]
      exact k0.ne
    · intro y hy
      rcases List.mem_or_eq_of_mem_set hy with hy | hy
      · exact k0.pos y hy
      · rw [hy]
        exact Int.ediv_nonneg x0 (by omega)
  · have b0 : 0 ≤ b * 69621 + x + 7919 := by have := k0.hb; omega
    have n0 := Int.emod_nonneg (b * 69621 + x + 7919) (show (2147483647 : Int) ≠ 0 by decide)
    have n1 := Int.emod_lt_of_pos (b * 69621 + x + 7919) (show (0 : Int) < 2147483647 by decide)
    generalize hnb : (b * 69621 + x + 7919) % 2147483647 = nb at n0 n1
    repeat trivial
    refine wO_some (ix_lst k0.hs rfl) ?_
    repeat trivial
    refine ⟨_, _, _, rfl, k0.hs, rfl, ?_⟩
    have hs1 : (h.set s (Ob.lst [.ref c, .int (a + 1), .int b]))[s]? = some (.lst [.ref c, .int (a + 1), .int b]) := List.getElem?_set_self l1
    repeat trivial
    refine wO_some (ix_lst hs1 rfl) ?_
    repeat trivial
    refine b_mul (.inr rfl) ?_
    repeat trivial
    refine b_mod (show (0 : Int) < 2147483647 by decide) ?_
    rw [hnb]
    repeat trivial
    refine ⟨_, _, _, rfl, hs1, rfl, ?_⟩
    rw [List.set_set]
    have hs2 : (h.set s (Ob.lst [.ref c, .int (a + 1), .int nb]))[s]? = some (.lst [.ref c, .int (a + 1), .int nb]) := List.getElem?_set_self l1
    repeat trivial
    refine wO_some (ix_lst hs2 rfl) ?_
    repeat trivial
    refine wO_some (ix_lst hs2 rfl) ?_
    refine b_mul (.inl (big_of (by omega) (by omega))) ?_
    repeat trivial
    refine b_mod (show (0 : Int) < 2147483587 by decide) ?_
    repeat trivial
    refine b_div (show (0 : Int) < 8 ∧ (8 : Int) < 1073741824 by decide) ?_
    repeat trivial
    refine b_mod hm ?_
    refine hQ _ _ (Int.emod_nonneg _ (by omega)) (Int.emod_lt_of_pos _ hm) ⟨cells, a + 1, nb, hs2, ?_, k0.ne, k0.pos, by have := k0.ha; omega, n0, by omega, k0.sc⟩ (List.length_set ..) (fun i n1 n2 => List.getElem?_set_ne (Ne.symm n1))
    rw [List.getElem?_set_ne k0.sc]
    exact k0.hc
end VM

set_option Elab.async false
set_option linter.all false
set_option maxRecDepth 100000
set_option maxHeartbeats 4000000
namespace VM
open PySem L2
local macro_rules | `(tactic| trivial) => `(tactic| first
  | with_reducible refine w_var (by with_unfolding_all rfl) ?_ | with_reducible refine w_int ?_ | with_reducible refine w_bl ?_ | with_reducible refine w_non ?_ | with_reducible refine w_str ?_ | with_reducible refine w_bin ?_ | with_reducible refine w_cmp ?_ | with_reducible refine w_and ?_ | with_reducible refine w_or ?_ | with_reducible refine w_not ?_ | with_reducible refine w_ife ?_ | with_reducible refine w_tup ?_ | with_reducible refine w_anil ?_ | with_reducible refine w_acons ?_
  | with_reducible refine w_frz ?_ | with_reducible refine w_heap ?_ | with_reducible refine w_disp ?_ | with_reducible refine w_rep ?_ | with_reducible refine w_slice ?_ | with_reducible refine w_fslice ?_ | with_reducible refine w_back ?_ | with_reducible refine w_ix ?_ | with_reducible refine w_fld ?_ | with_reducible refine w_call ?_ | with_reducible refine w_len ?_ | with_reducible refine w_abs ?_ | with_reducible refine w_isi ?_ | with_reducible refine w_isiT ?_ | with_reducible refine w_all ?_
  | with_reducible refine x_skip ?_ | with_reducible refine x_seq ?_ | with_reducible refine x_asg ?_ | with_reducible refine x_asg2 ?_ | with_reducible refine x_expr ?_ | with_reducible refine x_ret ?_ | with_reducible refine x_retN ?_ | with_reducible refine x_if ?_ | with_reducible refine g_nm ?_ | with_reducible refine g_sb ?_
  | with_reducible refine b_add ?_ | with_reducible refine b_sub ?_ | with_reducible refine c_ge ?_)
inductive Ltr where
  | ag (a : Int) | sy (a b c : Int)
  deriving DecidableEq
def Ltr.d : Ltr → D
  | .ag a => .tup [.str "agree", .int a]
  | .sy a b c => .tup [.str "say", .int a, .int b, .int c]
def Ltr.cls : Ltr → Nat
  | .ag _ => 2
  | .sy _ _ _ => 1
def Ltr.fs : Ltr → List (Nat × D)
  | .ag a => [(2, .int a)]
  | .sy a b c => [(2, .int a), (3, .int b), (4, .int c)]
theorem c_eqi {h : Hs} {i j : Int} {R : Bool → Prop} (q : R (i == j)) : wO (cmpV .Eq h (.int i) (.int j)) R := q
theorem c_eqb {h : Hs} {i j : Bool} {R : Bool → Prop} (q : R (i == j)) : wO (cmpV .Eq h (.bl i) (.bl j)) R := by
  refine wO_some (a := (i == j)) ?_ q
  cases i <;> cases j <;> rfl
theorem c_neb {h : Hs} {i j : Bool} {R : Bool → Prop} (q : R (i != j)) : wO (cmpV .NotEq h (.bl i) (.bl j)) R := by
  refine wO_some (a := (i != j)) ?_ q
  cases i <;> cases j <;> rfl
def Ltr.eqb : Ltr → Ltr → Bool
  | .ag a, .ag b => a == b
  | .sy a b c, .sy d e f => a == d && (b == e && c == f)
  | _, _ => false
theorem Ltr.eqb_symm (x y : Ltr) : x.eqb y = y.eqb x := by
  have e : ∀ a b : Int, (a == b) = (b == a) := fun a b => by
    rw [Bool.eq_iff_iff, beq_iff_eq, beq_iff_eq]
    exact eq_comm
  cases x <;> cases y <;> simp [Ltr.eqb, e]
def Ltr.p : Ltr → PyData
  | .ag a => .tuple [.str "agree", .int a]
  | .sy a b c => .tuple [.str "say", .int a, .int b, .int c]
theorem py_ltr (h : Hs) (x : Ltr) : py h x.d = some x.p := by
  cases x with
  | ag a =>
    show (if SeqAt.shaped (.tuple [.str "agree", .int a]) = true then some (PyData.tuple [.str "agree", .int a]) else none) = _
    rw [if_pos (by first | rfl | kernel_rfl | simp [SeqAt.shaped, PyData.canLay0, PyData.depth])]
    rfl
  | sy a b c =>
    show (if SeqAt.shaped (.tuple [.str "say", .int a, .int b, .int c]) = true then some (PyData.tuple [.str "say", .int a, .int b, .int c]) else none) = _
    rw [if_pos (by first | rfl | kernel_rfl | simp [SeqAt.shaped, PyData.canLay0, PyData.depth])]
    rfl
theorem c_eql {h : Hs} {x y : Ltr} {R : Bool → Prop} (q : R (x.eqb y)) : wO (cmpV .Eq h x.d y.d) R := by
  refine wO_some (a := x.eqb y) ?_ q
  show ((py h x.d).bind fun p => (py h y.d).map fun q => PyData.eqv p q) = _
  rw [py_ltr, py_ltr]
  show some (PyData.eqv x.p y.p) = _
  have n1 : (("agree" : Str) == ("say" : Str)) = false := by decide +kernel
  have n2 : (("say" : Str) == ("agree" : Str)) = false := by decide +kernel
  cases x <;> cases y <;> simp [Ltr.p, PyData.eqv, PyData.eqvAll, Ltr.eqb, n1, n2]
/-! the letters drawn -/
theorem tr_bl {h : Hs} {b : Bool} {R : Bool → Prop} (q : R b) : wO (truth h (.bl b)) R := q
theorem at_ints {cells : List Int} {k : Int} (h0 : 0 ≤ k) (h1 : k < cells.length) : ∃ x, x ∈ cells ∧ atY (cells.map D.int) (.int k) = some (.int x) := by
  obtain ⟨x, _, a, b, _⟩ := at_map h0 h1
  exact ⟨x, a, b⟩
theorem letter (W k : Nat) {h : Hs} {s c : Nat} {Q : D → Hs → Prop} (q : St h s c) (hQ : ∀ (l : Ltr) h1, St h1 s c → h1.length = h.length → (∀ i, i ≠ s → i ≠ c → h1[i]? = h[i]?) → Q l.d h1) : wR (run tab W (k + 2) 11 [.ref s] h) Q := by
  refine w_run rfl rfl ?_
  dsimp only [ft11, startD]
  repeat trivial
  refine draw W k q (by decide) (by decide) fun d1 h1 d0 d2 q1 len1 fr1 => ?_
  repeat trivial
  refine wO_some (a := D.int (10 ^ 30)) rfl ?_
  repeat trivial
  refine ⟨by simp [lim], ?_⟩
  repeat trivial
  have key : ∀ d, 0 ≤ d → d < 7 → ∃ x, atY [D.int 1, .int 2, .int 3, .int 0, .int 999, .int (1 + d1), .int (10 ^ 30)] (.int d) = some (.int x) := fun d g0 g1 => by
    obtain ⟨x, _, e⟩ := at_ints (cells := [1, 2, 3, 0, 999, 1 + d1, 10 ^ 30]) g0 g1
    exact ⟨x, e⟩
  refine w_comp (fun rest acc h2 => St h2 s c ∧ h2.length = h.length ∧ (∀ i, i ≠ s → i ≠ c → h2[i]? = h[i]?) ∧ ∃ xs : List Int, acc = xs.map D.int ∧ xs.length + rest.length = 3) ?_ ?_ ?_
  · refine i_rg ?_
    repeat trivial
    exact ⟨3, rfl, by decide, q1, len1, fr1, [], rfl, rfl⟩
  · rintro d r acc h2 ⟨q2, len2, fr2, xs, e1, e2⟩
    repeat trivial
    refine draw W k q2 (by decide) (by decide) fun d3 h3 d4 d5 q3 len3 fr3 => ?_
    obtain ⟨x, e3⟩ := key d3 d4 d5
    refine wO_some e3 ?_
    refine ⟨q3, len3.trans len2, fun i n1 n2 => (fr3 i n1 n2).trans (fr2 i n1 n2), xs ++ [x], by rw [e1, List.map_append]; rfl, ?_⟩
    rw [List.length_append]
    simp at e2 ⊢
    omega
  · rintro acc h2 ⟨q2, len2, fr2, xs, e1, e2⟩
    have e3 : ∃ x y z, xs = [x, y, z] := by
      match xs, e2 with
      | [x, y, z], _ => exact ⟨x, y, z, rfl⟩
      | [], e => simp at e
      | [_], e => simp at e
      | [_, _], e => simp at e
      | _ :: _ :: _ :: _ :: _, e => simp at e
    obtain ⟨x, y, z, rfl⟩ := e3
    subst e1
    repeat trivial
    refine draw W k q2 (by decide) (by decide) fun d3 h3 d4 d5 q3 len3 fr3 => ?_
    repeat trivial
    refine c_eqi ?_
    refine tr_bl ⟨fun ht => ?_, fun ht => ?_⟩
    · repeat trivial
      refine wO_some rfl ?_
      repeat trivial
      exact ⟨by simp [lim], hQ (.ag x) h3 q3 (len3.trans len2) fun i n1 n2 => (fr3 i n1 n2).trans (fr2 i n1 n2)⟩
    · repeat trivial
      refine wO_some rfl ?_
      repeat trivial
      refine wO_some rfl ?_
      repeat trivial
      refine wO_some rfl ?_
      repeat trivial
      exact ⟨by simp [lim], hQ (.sy x y z) h3 q3 (len3.trans len2) fun i n1 n2 => (fr3 i n1 n2).trans (fr2 i n1 n2)⟩
end VM

set_option Elab.async false
set_option linter.all false
set_option maxRecDepth 100000
set_option maxHeartbeats 4000000
namespace VM
open PySem L2
local macro_rules | `(tactic| trivial) => `(tactic| first
  | with_reducible refine w_var (by with_unfolding_all rfl) ?_ | with_reducible refine w_int ?_ | with_reducible refine w_bl ?_ | with_reducible refine w_non ?_ | with_reducible refine w_str ?_ | with_reducible refine w_bin ?_ | with_reducible refine w_cmp ?_ | with_reducible refine w_and ?_ | with_reducible refine w_or ?_ | with_reducible refine w_not ?_ | with_reducible refine w_ife ?_ | with_reducible refine w_tup ?_ | with_reducible refine w_anil ?_ | with_reducible refine w_acons ?_
  | with_reducible refine w_frz ?_ | with_reducible refine w_heap ?_ | with_reducible refine w_disp ?_ | with_reducible refine w_rep ?_ | with_reducible refine w_slice ?_ | with_reducible refine w_fslice ?_ | with_reducible refine w_back ?_ | with_reducible refine w_ix ?_ | with_reducible refine w_fld ?_ | with_reducible refine w_call ?_ | with_reducible refine w_len ?_ | with_reducible refine w_abs ?_ | with_reducible refine w_isi ?_ | with_reducible refine w_isiT ?_ | with_reducible refine w_all ?_
  | with_reducible refine x_skip ?_ | with_reducible refine x_seq ?_ | with_reducible refine x_asg ?_ | with_reducible refine x_asg2 ?_ | with_reducible refine x_expr ?_ | with_reducible refine x_ret ?_ | with_reducible refine x_retN ?_ | with_reducible refine x_if ?_ | with_reducible refine g_nm ?_ | with_reducible refine g_sb ?_
  | with_reducible refine b_add ?_ | with_reducible refine b_sub ?_ | with_reducible refine c_ge ?_)
section
variable {h : Hs} {R : Bool → Prop}
theorem s_aa (q : R true) : wO (cmpV .Eq h (.str "agree") (.str "agree")) R := wO_some (a := true) (by kernel_rfl) q
theorem s_ss (q : R true) : wO (cmpV .Eq h (.str "say") (.str "say")) R := wO_some (a := true) (by kernel_rfl) q
theorem s_as (q : R false) : wO (cmpV .Eq h (.str "agree") (.str "say")) R := wO_some (a := false) (by kernel_rfl) q
theorem s_sa (q : R false) : wO (cmpV .Eq h (.str "say") (.str "agree")) R := wO_some (a := false) (by kernel_rfl) q
end
theorem bent (W k : Nat) {h : Hs} {s c : Nat} {Q : D → Hs → Prop} (l : Ltr) (q : St h s c) (hQ : ∀ (l : Ltr) h1, St h1 s c → h1.length = h.length → (∀ i, i ≠ s → i ≠ c → h1[i]? = h[i]?) → Q l.d h1) : wR (run tab W (k + 3) 13 [.ref s, l.d] h) Q := by
  refine w_run rfl rfl ?_
  dsimp only [ft13, startD]
  cases l with
  | ag a =>
    repeat trivial
    refine draw W (k + 1) q (by decide) (by decide) fun d1 h1 d1a d1b q1 len1 fr1 => ?_
    repeat trivial
    refine ⟨_, rfl, ?_⟩
    repeat trivial
    refine draw W (k + 1) q1 (by simp) (by simp) fun d2 h2 d2a d2b q2 len2 fr2 => ?_
    have f2 : ∀ i, i ≠ s → i ≠ c → h2[i]? = h[i]? := fun i n1 n2 => (fr2 i n1 n2).trans (fr1 i n1 n2)
    have l2 := len2.trans len1
    have e2 : d2 = 0 := by simp at d2b; omega
    subst e2
    repeat trivial
    refine c_eqi (tr_bl ⟨fun ht => ?_, fun ht => ?_⟩)
    · repeat trivial
      refine c_eqi (tr_bl ⟨fun ht => ?_, fun ht => by cases ht⟩)
      repeat trivial
      refine wO_some rfl ?_
      repeat trivial
      refine wO_some rfl (wO_some rfl ?_)
      repeat trivial
      refine wO_some rfl (wO_some rfl ?_)
      exact hQ (.ag a) h2 q2 l2 f2
    · repeat trivial
      refine c_eqi (tr_bl ⟨fun ht => ?_, fun ht => ?_⟩)
      · repeat trivial
        exact hQ (.ag a) h2 q2 l2 f2
      · repeat trivial
        refine c_eqi (tr_bl ⟨fun ht => ?_, fun ht => ?_⟩)
        · repeat trivial
          exact letter W k q2 fun l' h3 q3 len3 fr3 => hQ l' h3 q3 (len3.trans l2) fun i n1 n2 => (fr3 i n1 n2).trans (f2 i n1 n2)
        · repeat trivial
          refine c_eqi (tr_bl ⟨fun ht => ?_, fun ht => ?_⟩)
          · repeat trivial
            refine wO_some rfl ?_
            repeat trivial
            refine s_as (tr_bl ⟨fun ht => Bool.noConfusion ht, fun ht => ?_⟩)
            repeat trivial
            refine wO_some rfl ?_
            repeat trivial
            refine wO_some rfl ?_
            repeat trivial
            refine wO_some rfl ?_
            repeat trivial
            exact ⟨by simp [lim], hQ (.sy a a a) h2 q2 l2 f2⟩
          · repeat trivial
            refine wO_some rfl ?_
            repeat trivial
            refine wO_some rfl (wO_some rfl ?_)
            repeat trivial
            refine wO_some rfl ?_
            repeat trivial
            refine ⟨by simp [lim], wO_some rfl ?_⟩
            repeat trivial
            refine wO_some rfl ?_
            repeat trivial
            refine wO_some rfl (wO_some rfl (wO_some rfl ?_))
            exact hQ (.ag (a + 1)) h2 q2 l2 f2
  | sy a b e =>
    repeat trivial
    refine draw W (k + 1) q (by decide) (by decide) fun d1 h1 d1a d1b q1 len1 fr1 => ?_
    repeat trivial
    refine ⟨_, rfl, ?_⟩
    repeat trivial
    refine draw W (k + 1) q1 (by simp) (by simp) fun d2 h2 d2a d2b q2 len2 fr2 => ?_
    have f2 : ∀ i, i ≠ s → i ≠ c → h2[i]? = h[i]? := fun i n1 n2 => (fr2 i n1 n2).trans (fr1 i n1 n2)
    have l2 := len2.trans len1
    have e2 : d2 = 0 ∨ d2 = 1 ∨ d2 = 2 := by simp at d2b; omega
    rcases e2 with rfl | rfl | rfl
    all_goals
      repeat trivial
      refine c_eqi (tr_bl ⟨fun ht => ?_, fun ht => ?_⟩)
      · repeat trivial
        refine c_eqi (tr_bl ⟨fun ht => ?_, fun ht => ?_⟩)
        · first
            | (exfalso; cases ht; done)
            | (repeat trivial
               refine wO_some rfl ?_
               repeat trivial
               refine wO_some rfl (wO_some rfl ?_)
               repeat trivial
               refine wO_some rfl (wO_some rfl ?_)
               exact hQ (.sy e b a) h2 q2 l2 f2)
        · first
            | (exfalso; cases ht; done)
            | (repeat trivial
               refine wO_some rfl ?_
               repeat trivial
               refine wO_some rfl (wO_some rfl ?_)
               repeat trivial
               refine wO_some rfl ?_
               repeat trivial
               refine wO_some rfl (wO_some rfl (wO_some rfl ?_))
               repeat trivial
               refine wO_some rfl ?_
               repeat trivial
               refine wO_some rfl (wO_some rfl (wO_some rfl ?_))
               exact hQ (.sy b e a) h2 q2 l2 f2)
      · repeat trivial
        refine c_eqi (tr_bl ⟨fun ht => ?_, fun ht => ?_⟩)
        · repeat trivial
          exact hQ (.sy a b e) h2 q2 l2 f2
        · repeat trivial
          refine c_eqi (tr_bl ⟨fun ht => ?_, fun ht => ?_⟩)
          · repeat trivial
            exact letter W k q2 fun l' h3 q3 len3 fr3 => hQ l' h3 q3 (len3.trans l2) fun i n1 n2 => (fr3 i n1 n2).trans (f2 i n1 n2)
          · repeat trivial
            refine c_eqi (tr_bl ⟨fun ht => ?_, fun ht => ?_⟩)
            · repeat trivial
              refine wO_some rfl ?_
              repeat trivial
              refine s_ss (tr_bl ⟨fun ht => ?_, fun ht => Bool.noConfusion ht⟩)
              repeat trivial
              refine wO_some rfl ?_
              repeat trivial
              exact ⟨by simp [lim], hQ (.ag a) h2 q2 l2 f2⟩
            · repeat trivial
              refine wO_some rfl ?_
              repeat trivial
              refine wO_some rfl (wO_some rfl ?_)
              repeat trivial
              refine wO_some rfl ?_
              repeat trivial
              refine ⟨by simp [lim], wO_some rfl ?_⟩
              repeat trivial
              refine wO_some rfl ?_
              repeat trivial
              refine wO_some rfl (wO_some rfl (wO_some rfl ?_))
              first
                | exact hQ (.sy (a + 1) b e) h2 q2 l2 f2
                | exact hQ (.sy a (b + 1) e) h2 q2 l2 f2
                | exact hQ (.sy a b (e + 1)) h2 q2 l2 f2
/-! ### new letters -/
theorem app_at (h : Hs) (o : Ob) : (h ++ [o])[h.length]? = some o := by
  rw [List.getElem?_append_right (Nat.le_refl _), Nat.sub_self]
  rfl
theorem app_set (h : Hs) (o u : Ob) : (h ++ [o]).set h.length u = h ++ [u] := by
  rw [List.set_append_right _ _ (Nat.le_refl _), Nat.sub_self]
  rfl
theorem initA (W k : Nat) {h : Hs} {a : Int} {Q : D → Hs → Prop} (hQ : Q .non (h ++ [.ins 2 [(2, .int a)]])) : wR (run tab W (k + 1) 7 [.ref h.length, .int a] (h ++ [.ins 2 []])) Q := by
  refine w_run rfl rfl ?_
  dsimp only [ft7, startD]
  repeat trivial
  refine g_fl ?_
  repeat trivial
  refine ⟨_, _, _, rfl, app_at _ _, by decide, ?_⟩
  rw [app_set]
  repeat trivial
  all_goals exact hQ
theorem initS (W k : Nat) {h : Hs} {a b e : Int} {Q : D → Hs → Prop} (hQ : Q .non (h ++ [.ins 1 [(2, .int a), (3, .int b), (4, .int e)]])) : wR (run tab W (k + 1) 4 [.ref h.length, .int a, .int b, .int e] (h ++ [.ins 1 []])) Q := by
  refine w_run rfl rfl ?_
  dsimp only [ft4, startD]
  repeat trivial
  refine g_fl ?_
  repeat trivial
  refine ⟨_, _, _, rfl, app_at _ _, by decide, ?_⟩
  rw [app_set]
  repeat trivial
  refine g_fl ?_
  repeat trivial
  refine ⟨_, _, _, rfl, app_at _ _, ⟨by simp [putN], by decide⟩, ?_⟩
  rw [app_set]
  repeat trivial
  refine g_fl ?_
  repeat trivial
  refine ⟨_, _, _, rfl, app_at _ _, ⟨by simp [putN], by decide⟩, ?_⟩
  rw [app_set]
  repeat trivial
  all_goals exact hQ
theorem made (W k : Nat) {h : Hs} {nd : Bool} {Q : D → Hs → Prop} (l : Ltr) (hQ : Q (.ref h.length) (h ++ [.ins l.cls l.fs])) : wR (run tab W (k + 2) 12 [l.d, .bl nd] h) Q := by
  refine w_run rfl rfl ?_
  dsimp only [ft12, startD]
  cases l with
  | ag a =>
    repeat trivial
    refine wO_some rfl ?_
    repeat trivial
    refine s_aa (tr_bl ⟨fun ht => ?_, fun ht => Bool.noConfusion ht⟩)
    repeat trivial
    refine tr_bl ⟨fun ht => ?_, fun ht => ?_⟩
    · refine w_mkK rfl rfl ?_
      repeat trivial
      refine wO_some rfl ?_
      repeat trivial
      exact ⟨⟨rfl, rfl, rfl⟩, initA W k ⟨rfl, hQ⟩⟩
    · refine w_mk rfl ?_
      repeat trivial
      refine wO_some rfl ?_
      repeat trivial
      exact initA W k ⟨rfl, hQ⟩
  | sy a b e =>
    repeat trivial
    refine wO_some rfl ?_
    repeat trivial
    refine s_sa (tr_bl ⟨fun ht => Bool.noConfusion ht, fun ht => ?_⟩)
    repeat trivial
    refine tr_bl ⟨fun ht => ?_, fun ht => ?_⟩
    · refine w_mkK rfl rfl ?_
      repeat trivial
      refine wO_some rfl ?_
      repeat trivial
      refine wO_some rfl ?_
      repeat trivial
      refine wO_some rfl ?_
      repeat trivial
      exact ⟨⟨rfl, rfl, rfl⟩, initS W k ⟨rfl, hQ⟩⟩
    · refine w_mk rfl ?_
      repeat trivial
      refine wO_some rfl ?_
      repeat trivial
      refine wO_some rfl ?_
      repeat trivial
      refine wO_some rfl ?_
      repeat trivial
      exact initS W k ⟨rfl, hQ⟩
end VM

set_option Elab.async false
set_option linter.all false
set_option maxRecDepth 100000
set_option maxHeartbeats 4000000
namespace VM
open PySem L2
local macro_rules | `(tactic| trivial) => `(tactic| first
  | with_reducible refine w_var (by with_unfolding_all rfl) ?_ | with_reducible refine w_int ?_ | with_reducible refine w_bl ?_ | with_reducible refine w_non ?_ | with_reducible refine w_str ?_ | with_reducible refine w_bin ?_ | with_reducible refine w_cmp ?_ | with_reducible refine w_and ?_ | with_reducible refine w_or ?_ | with_reducible refine w_not ?_ | with_reducible refine w_ife ?_ | with_reducible refine w_tup ?_ | with_reducible refine w_anil ?_ | with_reducible refine w_acons ?_
  | with_reducible refine w_frz ?_ | with_reducible refine w_heap ?_ | with_reducible refine w_disp ?_ | with_reducible refine w_rep ?_ | with_reducible refine w_slice ?_ | with_reducible refine w_fslice ?_ | with_reducible refine w_back ?_ | with_reducible refine w_ix ?_ | with_reducible refine w_fld ?_ | with_reducible refine w_call ?_ | with_reducible refine w_len ?_ | with_reducible refine w_abs ?_ | with_reducible refine w_isi ?_ | with_reducible refine w_isiT ?_ | with_reducible refine w_all ?_
  | with_reducible refine x_skip ?_ | with_reducible refine x_seq ?_ | with_reducible refine x_asg ?_ | with_reducible refine x_asg2 ?_ | with_reducible refine x_expr ?_ | with_reducible refine x_ret ?_ | with_reducible refine x_retN ?_ | with_reducible refine x_if ?_ | with_reducible refine g_nm ?_ | with_reducible refine g_sb ?_
  | with_reducible refine b_add ?_ | with_reducible refine b_sub ?_ | with_reducible refine c_ge ?_)
def Ltr.tf : Ltr → Nat
  | .ag _ => 6
  | .sy _ _ _ => 3
def Ltr.ef : Ltr → Nat
  | .ag _ => 5
  | .sy _ _ _ => 2
theorem cls_at {h : Hs} {n c : Nat} {fs : List (Nat × D)} (e : h[n]? = some (.ins c fs)) : clsD h (.ref n) = some (c, fs) := by
  show (match h[n]? with | some (.ins c fs) => some (c, fs) | _ => none) = _
  rw [e]
theorem fld_at {h : Hs} {n c f : Nat} {fs : List (Nat × D)} {z : D} (e : h[n]? = some (.ins c fs)) (e2 : hasF tab c f = true) (e3 : fs.lookup f = some z) : fldD tab h (.ref n) f = some z := by
  unfold fldD
  rw [cls_at e]
  show (if hasF tab c f = true then fs.lookup f else none) = some z
  rw [if_pos e2, e3]
theorem told (W k : Nat) {h : Hs} {n : Nat} {Q : D → Hs → Prop} (l : Ltr) (e : h[n]? = some (.ins l.cls l.fs)) (hQ : Q l.d h) : wR (run tab W (k + 1) l.tf [.ref n] h) Q := by
  cases l with
  | ag a =>
    refine w_run rfl rfl ?_
    dsimp only [ft6, startD]
    repeat trivial
    refine wO_some (fld_at e rfl rfl) ?_
    repeat trivial
    exact ⟨by simp [lim], hQ⟩
  | sy a b c =>
    refine w_run rfl rfl ?_
    dsimp only [ft3, startD]
    repeat trivial
    refine wO_some (fld_at e rfl rfl) ?_
    repeat trivial
    refine wO_some (fld_at e rfl rfl) ?_
    repeat trivial
    refine wO_some (fld_at e rfl rfl) ?_
    repeat trivial
    exact ⟨by simp [lim], hQ⟩
theorem m_told (l : Ltr) : ((tab.cls[l.cls]?).bind fun ct => ct.meths.lookup 1) = some l.tf := by cases l <;> rfl
theorem m_eq (l : Ltr) : ∃ ct, tab.cls[l.cls]? = some ct ∧ ct.meths.lookup 0 = some l.ef := by cases l <;> exact ⟨_, rfl, rfl⟩
theorem fs_told (l : Ltr) : l.fs.lookup 1 = none := by cases l <;> rfl
theorem isi_at {h : Hs} {n c k : Nat} {fs : List (Nat × D)} {ct : ClsT} (e : h[n]? = some (.ins c fs)) (e2 : tab.cls[c]? = some ct) : isTy tab h (.ref n) (.own k) = some (decide (k ∈ ct.anc)) := by
  show (match h[n]? with
    | some (.ins c _) => (tab.cls[c]?).map fun (ct : ClsT) => decide (k ∈ ct.anc)
    | some (.lst _) => some false
    | some (.dK _) => some false
    | some (.dT _) => some false
    | _ => none) = _
  rw [e]
  show (tab.cls[c]?).map _ = _
  rw [e2]
  rfl
theorem isi0 {h : Hs} {n : Nat} (l : Ltr) (e : h[n]? = some (.ins l.cls l.fs)) : isTy tab h (.ref n) (.own 0) = some true := by
  cases l with
  | ag a => exact (isi_at e rfl).trans rfl
  | sy a b c => exact (isi_at e rfl).trans rfl
theorem meth_told (W k : Nat) {h : Hs} {n : Nat} {Q : D → Hs → Prop} (l : Ltr) (e : h[n]? = some (.ins l.cls l.fs)) (hQ : Q l.d h) {σ : Sl} {i : Nat} (hi : getSl σ i = some (.ref n)) : wR (ev tab (run tab W (k + 1)) (.meth (.var i) 1 .nil) σ h) Q :=
  w_meth (w_var hi ⟨_, _, _, cls_at e, fs_told l, m_told l, w_anil (told W k l e hQ)⟩)
theorem eqL (W k : Nat) {h : Hs} {n m : Nat} {Q : D → Hs → Prop} (l l2 : Ltr) (e : h[n]? = some (.ins l.cls l.fs)) (e2 : h[m]? = some (.ins l2.cls l2.fs)) (hQ : Q (.bl (l.eqb l2)) h) : wR (run tab W (k + 2) l.ef [.ref n, .ref m] h) Q := by
  cases hl : l with
  | ag a =>
    refine w_run rfl rfl ?_
    dsimp only [ft5, startD]
    repeat trivial
    refine wO_some (isi0 l2 e2) (tr_bl ⟨fun ht => ?_, fun ht => Bool.noConfusion ht⟩)
    repeat trivial
    refine meth_told W k l e (meth_told W k l2 e2 (c_eql ?_) rfl) rfl
    repeat trivial
    all_goals exact hQ
  | sy a b c =>
    refine w_run rfl rfl ?_
    dsimp only [ft2, startD]
    repeat trivial
    refine wO_some (isi0 l2 e2) (tr_bl ⟨fun ht => ?_, fun ht => Bool.noConfusion ht⟩)
    repeat trivial
    refine meth_told W k l e (meth_told W k l2 e2 (c_eql ?_) rfl) rfl
    repeat trivial
    all_goals exact hQ
theorem eqN (W k : Nat) {h : Hs} {n : Nat} {y : D} {Q : D → Hs → Prop} (l : Ltr) (e2 : isTy tab h y (.own 0) = some false) (hQ : Q (.bl false) h) : wR (run tab W (k + 2) l.ef [.ref n, y] h) Q := by
  cases hl : l with
  | ag a =>
    refine w_run rfl rfl ?_
    dsimp only [ft5, startD]
    repeat trivial
    refine wO_some e2 (tr_bl ⟨fun ht => Bool.noConfusion ht, fun ht => ?_⟩)
    repeat trivial
    all_goals exact hQ
  | sy a b c =>
    refine w_run rfl rfl ?_
    dsimp only [ft2, startD]
    repeat trivial
    refine wO_some e2 (tr_bl ⟨fun ht => Bool.noConfusion ht, fun ht => ?_⟩)
    repeat trivial
    all_goals exact hQ
/-! ### alike -/
def Alk (W k : Nat) (d : D) : Prop := ∀ (h : Hs) (Q : D → Hs → Prop), Q (.bl true) h → wR (run tab W k 10 [d, d] h) Q
theorem alk_int (W k : Nat) (i : Int) : Alk W (k + 1) (.int i) := by
  intro h Q hQ
  refine w_run rfl rfl ?_
  dsimp only [ft10, startD]
  repeat trivial
  refine wO_some (a := false) rfl (tr_bl ⟨fun ht => Bool.noConfusion ht, fun ht => ?_⟩)
  repeat trivial
  refine wO_some (a := false) rfl (tr_bl ⟨fun ht => Bool.noConfusion ht, fun ht => ?_⟩)
  repeat trivial
  refine wO_some (a := false) rfl (tr_bl ⟨fun ht => Bool.noConfusion ht, fun ht => ?_⟩)
  repeat trivial
  refine wO_some (a := false) rfl (tr_bl ⟨fun ht => Bool.noConfusion ht, fun ht => ?_⟩)
  repeat trivial
  refine wO_some (a := false) rfl ?_
  repeat trivial
  refine wO_some (a := false) rfl ?_
  refine c_neb (tr_bl ⟨fun ht => Bool.noConfusion ht, fun ht => ?_⟩)
  repeat trivial
  refine wO_some (a := true) rfl (tr_bl ⟨fun ht => ?_, fun ht => Bool.noConfusion ht⟩)
  repeat trivial
  refine wO_some (a := true) rfl (tr_bl ⟨fun ht => ?_, fun ht => Bool.noConfusion ht⟩)
  repeat trivial
  refine c_eqi ?_
  rw [beq_self_eq_true]
  exact hQ
theorem alk_bl (W k : Nat) (i : Bool) : Alk W (k + 1) (.bl i) := by
  intro h Q hQ
  refine w_run rfl rfl ?_
  dsimp only [ft10, startD]
  repeat trivial
  refine wO_some (a := false) rfl (tr_bl ⟨fun ht => Bool.noConfusion ht, fun ht => ?_⟩)
  repeat trivial
  refine wO_some (a := false) rfl (tr_bl ⟨fun ht => Bool.noConfusion ht, fun ht => ?_⟩)
  repeat trivial
  refine wO_some (a := false) rfl (tr_bl ⟨fun ht => Bool.noConfusion ht, fun ht => ?_⟩)
  repeat trivial
  refine wO_some (a := false) rfl (tr_bl ⟨fun ht => Bool.noConfusion ht, fun ht => ?_⟩)
  repeat trivial
  refine wO_some (a := true) rfl ?_
  repeat trivial
  refine wO_some (a := true) rfl ?_
  refine c_neb (tr_bl ⟨fun ht => Bool.noConfusion ht, fun ht => ?_⟩)
  repeat trivial
  refine wO_some (a := true) rfl (tr_bl ⟨fun ht => ?_, fun ht => Bool.noConfusion ht⟩)
  repeat trivial
  refine wO_some (a := true) rfl (tr_bl ⟨fun ht => ?_, fun ht => Bool.noConfusion ht⟩)
  repeat trivial
  refine c_eqb ?_
  rw [beq_self_eq_true]
  exact hQ
theorem alk_str (W k : Nat) (s : Str) (hs : ∀ (h : Hs) (R : Bool → Prop), R true → wO (cmpV .Eq h (.str s) (.str s)) R) : Alk W (k + 1) (.str s) := by
  intro h Q hQ
  refine w_run rfl rfl ?_
  dsimp only [ft10, startD]
  repeat trivial
  refine wO_some (a := false) rfl (tr_bl ⟨fun ht => Bool.noConfusion ht, fun ht => ?_⟩)
  repeat trivial
  refine wO_some (a := true) rfl (tr_bl ⟨fun ht => ?_, fun ht => Bool.noConfusion ht⟩)
  repeat trivial
  refine wO_some (a := true) rfl (tr_bl ⟨fun ht => ?_, fun ht => Bool.noConfusion ht⟩)
  repeat trivial
  exact hs _ _ hQ
theorem bools_rep : ∀ n : Nat, boolsD (List.replicate n (.bl true)) = some (List.replicate n true)
  | 0 => rfl
  | n + 1 => by
    rw [List.replicate_succ, List.replicate_succ]
    show (boolsD (List.replicate n (.bl true))).map (true :: ·) = _
    rw [bools_rep n]
    rfl
theorem alk_seq (W k : Nat) (d : D) (ds : List D) (hd : d = .tup ds ∨ d = .lst ds) (hl : ds.length ≤ 1000) (hi : ∀ x ∈ ds, Alk W k x) : Alk W (k + 1) d := by
  intro h Q hQ
  have it : ∀ h, items h d = some ds := fun h => by rcases hd with rfl | rfl <;> rfl
  have ix : ∀ h y, ixD h d y = atY ds y := fun h y => by rcases hd with rfl | rfl <;> rfl
  refine w_run rfl rfl ?_
  dsimp only [ft10, startD]
  repeat trivial
  refine wO_some (a := true) (by rcases hd with rfl | rfl <;> rfl) (tr_bl ⟨fun ht => ?_, fun ht => Bool.noConfusion ht⟩)
  repeat trivial
  obtain ⟨b1, h1⟩ : ∃ b, isTy tab h d .list = some b := by rcases hd with rfl | rfl <;> exact ⟨_, rfl⟩
  obtain ⟨b2, h2⟩ : ∃ b, isTy tab h d .tuple = some b := by rcases hd with rfl | rfl <;> exact ⟨_, rfl⟩
  refine wO_some h1 ?_
  repeat trivial
  refine wO_some h1 ?_
  refine c_neb ?_
  rw [bne_self_eq_false]
  refine tr_bl ⟨fun ht => Bool.noConfusion ht, fun ht => ?_⟩
  repeat trivial
  refine wO_some h2 ?_
  repeat trivial
  refine wO_some h2 ?_
  refine c_neb ?_
  rw [bne_self_eq_false]
  refine tr_bl ⟨fun ht => Bool.noConfusion ht, fun ht => ?_⟩
  repeat trivial
  refine ⟨_, it _, ?_⟩
  repeat trivial
  refine ⟨_, it _, ?_⟩
  refine c_eqi ?_
  rw [beq_self_eq_true]
  refine tr_bl ⟨fun ht => ?_, fun ht => Bool.noConfusion ht⟩
  repeat trivial
  refine w_comp (fun rest acc h' => h' = h ∧ acc = List.replicate acc.length (.bl true) ∧ ∀ z ∈ rest, ∃ i : Nat, i < ds.length ∧ z = .int (0 + (i : Int))) ?_ ?_ ?_
  · refine i_rg ?_
    repeat trivial
    refine ⟨_, it _, _, rfl, ⟨by omega, by omega, by simp [lim]; omega⟩, rfl, rfl, fun z hz => ?_⟩
    obtain ⟨i, hi2, e⟩ := List.mem_map.mp hz
    exact ⟨i, by simpa using List.mem_range.mp hi2, e.symm⟩
  · rintro z r acc h' ⟨rfl, ha, hz⟩
    obtain ⟨i, hi2, rfl⟩ := hz z List.mem_cons_self
    have e : atY ds (.int (0 + (i : Int))) = some ds[i] := by
      rw [Int.zero_add]
      exact atI_nat (List.getElem?_eq_getElem hi2)
    repeat trivial
    refine wO_some ((ix _ _).trans e) ?_
    repeat trivial
    refine wO_some ((ix _ _).trans e) ?_
    repeat trivial
    refine hi _ (List.getElem_mem hi2) _ _ ⟨rfl, ?_, fun z2 m => hz z2 (List.mem_cons_of_mem _ m)⟩
    rw [List.length_append]
    show acc ++ [D.bl true] = List.replicate (acc.length + 1) (.bl true)
    rw [List.replicate_succ', ← ha]
  · rintro acc h' ⟨rfl, ha, _⟩
    refine wO_some (a := List.replicate acc.length true) (by
      show boolsD acc = _
      rw [ha, bools_rep, List.length_replicate]) ?_
    have e : (List.replicate acc.length true).all id = true := by simp
    rw [e]
    exact hQ
theorem alk_seq2 {W n k : Nat} (e : n = k + 1) (d : D) (ds : List D) (hd : d = .tup ds ∨ d = .lst ds) (hl : ds.length ≤ 1000) (hi : ∀ x ∈ ds, Alk W k x) : Alk W n d := by
  subst e
  exact alk_seq W k d ds hd hl hi
theorem alk_int2 {W n k : Nat} (e : n = k + 1) (i : Int) : Alk W n (.int i) := by
  subst e
  exact alk_int W k i
theorem alk_bl2 {W n k : Nat} (e : n = k + 1) (i : Bool) : Alk W n (.bl i) := by
  subst e
  exact alk_bl W k i
theorem alk_str2 {W n k : Nat} (e : n = k + 1) (s : Str) (hs : ∀ (h : Hs) (R : Bool → Prop), R true → wO (cmpV .Eq h (.str s) (.str s)) R) : Alk W n (.str s) := by
  subst e
  exact alk_str W k s hs
theorem alk_ltr {W n k j : Nat} (e : n = k + 1) (e2 : k = j + 1) (l : Ltr) : Alk W n l.d := by
  cases l with
  | ag a =>
    refine alk_seq2 e _ [.str "agree", .int a] (.inl rfl) (by show (2 : Nat) ≤ 1000; omega) fun x hx => ?_
    rcases List.mem_cons.mp hx with rfl | hx
    · exact alk_str2 e2 _ fun h R r => s_aa r
    rcases List.mem_cons.mp hx with rfl | hx
    · exact alk_int2 e2 a
    · cases hx
  | sy a b c =>
    refine alk_seq2 e _ [.str "say", .int a, .int b, .int c] (.inl rfl) (by show (4 : Nat) ≤ 1000; omega) fun x hx => ?_
    rcases List.mem_cons.mp hx with rfl | hx
    · exact alk_str2 e2 _ fun h R r => s_ss r
    rcases List.mem_cons.mp hx with rfl | hx
    · exact alk_int2 e2 _
    rcases List.mem_cons.mp hx with rfl | hx
    · exact alk_int2 e2 _
    rcases List.mem_cons.mp hx with rfl | hx
    · exact alk_int2 e2 _
    · cases hx
end VM

set_option Elab.async false
set_option linter.all false
set_option maxRecDepth 100000
set_option maxHeartbeats 4000000
namespace VM
open PySem L2
local macro_rules | `(tactic| fail "vm") => `(tactic| first
  | with_reducible refine w_var (by with_unfolding_all rfl) ?_ | with_reducible refine w_int ?_ | with_reducible refine w_bl ?_ | with_reducible refine w_non ?_ | with_reducible refine w_str ?_ | with_reducible refine w_bin ?_ | with_reducible refine w_cmp ?_ | with_reducible refine w_and ?_ | with_reducible refine w_or ?_ | with_reducible refine w_not ?_ | with_reducible refine w_ife ?_ | with_reducible refine w_tup ?_ | with_reducible refine w_anil ?_ | with_reducible refine w_acons ?_
  | with_reducible refine w_frz ?_ | with_reducible refine w_heap ?_ | with_reducible refine w_disp ?_ | with_reducible refine w_rep ?_ | with_reducible refine w_slice ?_ | with_reducible refine w_fslice ?_ | with_reducible refine w_back ?_ | with_reducible refine w_ix ?_ | with_reducible refine w_fld ?_ | with_reducible refine w_call ?_ | with_reducible refine w_len ?_ | with_reducible refine w_abs ?_ | with_reducible refine w_isi ?_ | with_reducible refine w_isiT ?_ | with_reducible refine w_all ?_
  | with_reducible refine x_skip ?_ | with_reducible refine x_seq ?_ | with_reducible refine x_asg ?_ | with_reducible refine x_asg2 ?_ | with_reducible refine x_expr ?_ | with_reducible refine x_ret ?_ | with_reducible refine x_retN ?_ | with_reducible refine x_if ?_ | with_reducible refine g_nm ?_ | with_reducible refine g_sb ?_
  | with_reducible refine b_add ?_ | with_reducible refine b_sub ?_ | with_reducible refine c_ge ?_)
def Ltr.say : Ltr → Bool
  | .ag _ => false
  | .sy _ _ _ => true
theorem isi1 {h : Hs} {n : Nat} (l : Ltr) (e : h[n]? = some (.ins l.cls l.fs)) : isTy tab h (.ref n) (.own 1) = some l.say := by
  cases l with
  | ag a => exact (isi_at e rfl).trans rfl
  | sy a b c => exact (isi_at e rfl).trans rfl
theorem isi2 {h : Hs} {n : Nat} (l : Ltr) (e : h[n]? = some (.ins l.cls l.fs)) : isTy tab h (.ref n) (.own 2) = some (!l.say) := by
  cases l with
  | ag a => exact (isi_at e rfl).trans rfl
  | sy a b c => exact (isi_at e rfl).trans rfl
theorem eqOk_at {h : Hs} {n : Nat} (l l2 : Ltr) (e : h[n]? = some (.ins l2.cls l2.fs)) : eqOk tab h (.ref n) l.cls = true := by
  unfold eqOk
  cases l with
  | ag a =>
    cases l2 with
    | ag b => exact Bool.or_eq_true_iff.mpr (.inr (decide_eq_true (by rw [cls_at e]; rfl)))
    | sy b c d => exact Bool.or_eq_true_iff.mpr (.inl (decide_eq_true ((isi2 _ e).trans rfl)))
  | sy a b c =>
    cases l2 with
    | ag b => exact Bool.or_eq_true_iff.mpr (.inl (decide_eq_true ((isi1 _ e).trans rfl)))
    | sy b c d => exact Bool.or_eq_true_iff.mpr (.inr (decide_eq_true (by rw [cls_at e]; rfl)))
theorem w_eqL (W k : Nat) {h : Hs} {n m i j : Nat} {ng : Bool} {σ : Sl} {Q : D → Hs → Prop} (l l2 : Ltr) (e : h[n]? = some (.ins l.cls l.fs)) (e2 : h[m]? = some (.ins l2.cls l2.fs)) (hi : getSl σ i = some (.ref n)) (hj : getSl σ j = some (.ref m)) (hQ : Q (.bl (l.eqb l2 != ng)) h) : wR (ev tab (run tab W (k + 2)) (.eqI ng 0 (.var i) (.var j)) σ h) Q := by
  obtain ⟨ct, h1, h2⟩ := m_eq l
  exact w_eqI (w_var hi (w_var hj ⟨_, _, ct, _, cls_at e, h1, h2, eqOk_at l l2 e2, eqL W k l l2 e e2 ⟨_, rfl, hQ⟩⟩))
theorem w_eqN (W k : Nat) {h : Hs} {n i : Nat} {ng : Bool} {σ : Sl} {b : E} {Q : D → Hs → Prop} (l : Ltr) (e : h[n]? = some (.ins l.cls l.fs)) (hi : getSl σ i = some (.ref n)) (hb : wR (ev tab (run tab W (k + 2)) b σ h) fun y h2 => h2 = h ∧ (∀ c, isTy tab h y (.own c) = some false) ∧ Q (.bl (false != ng)) h) : wR (ev tab (run tab W (k + 2)) (.eqI ng 0 (.var i) b) σ h) Q := by
  obtain ⟨ct, h1, h2⟩ := m_eq l
  refine w_eqI (w_var hi (wR_mono hb fun y h3 ⟨e3, hy, q⟩ => ?_))
  subst e3
  exact ⟨_, _, ct, _, cls_at e, h1, h2, Bool.or_eq_true_iff.mpr (.inl (decide_eq_true (hy _))), eqN W k l (hy 0) ⟨_, rfl, q⟩⟩
theorem ix_d0 {h : Hs} (l : Ltr) {R : Bool → Prop} (q : R l.say) : wO (ixD h l.d (.int 0)) fun z => wO (cmpV .Eq h z (.str "say")) R := by
  cases l with
  | ag a => exact wO_some (a := .str "agree") rfl (s_as q)
  | sy a b c => exact wO_some (a := .str "say") rfl (s_ss q)
theorem ix_0 (h : Hs) (l : Ltr) : ∃ s, ixD h l.d (.int 0) = some (.str s) := by cases l <;> exact ⟨_, rfl⟩
theorem ix_1 (h : Hs) (l : Ltr) : ∃ i, ixD h l.d (.int 1) = some (.int i) := by cases l <;> exact ⟨_, rfl⟩
theorem ty_d (h : Hs) (l : Ltr) (c : Nat) : isTy tab h l.d (.own c) = some false := by cases l <;> rfl
theorem alike3 {W K k2 k1 k0 : Nat} (e : K = k2 + 1) (e2 : k2 = k1 + 1) (e3 : k1 = k0 + 1) (l l2 : Ltr) {h : Hs} {Q : D → Hs → Prop} (hQ : Q (.bl true) h) : wR (run tab W K 10 [.lst [l.d, l2.d, l.d], .lst [l.d, l2.d, l.d]] h) Q := by
  have a1 : Alk W K (.lst [l.d, l2.d, l.d]) := by
    refine alk_seq2 e _ [l.d, l2.d, l.d] (.inr rfl) (by show (3 : Nat) ≤ 1000; omega) fun x hx => ?_
    rcases List.mem_cons.mp hx with rfl | hx
    · exact alk_ltr e2 e3 l
    rcases List.mem_cons.mp hx with rfl | hx
    · exact alk_ltr e2 e3 l2
    rcases List.mem_cons.mp hx with rfl | hx
    · exact alk_ltr e2 e3 l
    · cases hx
  exact a1 _ _ hQ
theorem alikeB {W K k2 k1 : Nat} (e : K = k2 + 1) (e2 : k2 = k1 + 1) (bs : List Bool) (hl : bs.length ≤ 1000) {h : Hs} {Q : D → Hs → Prop} (hQ : Q (.bl true) h) : wR (run tab W K 10 [.lst (bs.map D.bl), .lst (bs.map D.bl)] h) Q := by
  have a1 : Alk W K (.lst (bs.map D.bl)) := by
    refine alk_seq2 e _ (bs.map D.bl) (.inr rfl) (by rw [List.length_map]; exact hl) fun x hx => ?_
    obtain ⟨b, _, rfl⟩ := List.mem_map.mp hx
    exact alk_bl2 e2 b
  exact a1 _ _ hQ
theorem alikeB2 {W K k2 k1 : Nat} {ds es : List D} (e : K = k2 + 1) (e2 : k2 = k1 + 1) (ee : es = ds) (bs : List Bool) (hb : ds = bs.map D.bl) (hl : bs.length ≤ 1000) {h : Hs} {Q : D → Hs → Prop} (hQ : Q (.bl true) h) : wR (run tab W K 10 [.lst ds, .lst es] h) Q := by
  subst ee hb
  exact alikeB e e2 bs hl hQ
theorem mutI_lst {h : Hs} {ds : List D} {P : List D → Prop} (q : P ds) : wO (mutI h (.lst ds)) P := q
theorem rep_2 {x : D} {P : List D → Prop} (q : P [x, x]) : wO (repK [x] (.int 2)) P := by
  refine wO_some (a := [x, x]) ?_ q
  show (if 0 ≤ (2 : Int) ∧ (2 : Int) < 2 ^ 62 ∧ [x].length * (2 : Int).toNat ≤ lim then some (List.replicate (2 : Int).toNat [x]).flatten else none) = _
  rw [if_pos ⟨by decide, by decide, by simp [lim]⟩]
  rfl
theorem rep_4 {x : D} {P : List D → Prop} (q : P [x, x, x, x]) : wO (repK [x] (.int 4)) P := by
  refine wO_some (a := [x, x, x, x]) ?_ q
  show (if 0 ≤ (4 : Int) ∧ (4 : Int) < 2 ^ 62 ∧ [x].length * (4 : Int).toNat ≤ lim then some (List.replicate (4 : Int).toNat [x]).flatten else none) = _
  rw [if_pos ⟨by decide, by decide, by simp [lim]⟩]
  rfl
theorem right (W k : Nat) {h : Hs} {s c : Nat} {Q : D → Hs → Prop} (q : St h s c) (hQ : ∀ h1, St h1 s c → Q (.bl true) h1) : wR (run tab W (k + 4) 14 [.ref s] h) Q := by
  refine w_run rfl rfl ?_
  dsimp only [ft14, startD]
  repeat (fail "vm")
  refine letter W (k + 1) q fun l h1 q1 len1 fr1 => ?_
  repeat (fail "vm")
  refine bent W k l q1 fun l2 h2 q2 len2 fr2 => ?_
  repeat (fail "vm")
  refine draw W (k + 2) q2 (by decide) (by decide) fun d3 h3 d3a d3b q3 len3 fr3 => ?_
  repeat (fail "vm")
  refine c_eqi ?_
  repeat (fail "vm")
  refine made W (k + 1) l ?_
  repeat (fail "vm")
  have q4 := q3.app (.ins l.cls l.fs)
  refine draw W (k + 2) q4 (by decide) (by decide) fun d5 h5 d5a d5b q5 len5 fr5 => ?_
  repeat (fail "vm")
  refine c_eqi ?_
  repeat (fail "vm")
  refine made W (k + 1) l2 ?_
  have ns : h3.length ≠ s := by
    obtain ⟨_, _, _, z⟩ := q3
    have := (List.getElem?_eq_some_iff.mp z.hs).1
    omega
  have nc : h3.length ≠ c := by
    obtain ⟨_, _, _, z⟩ := q3
    have := (List.getElem?_eq_some_iff.mp z.hc).1
    omega
  have g5 : h5[h3.length]? = some (.ins l.cls l.fs) := (fr5 _ ns nc).trans (app_at _ _)
  have e1 : (h5 ++ [Ob.ins l2.cls l2.fs])[h3.length]? = some (.ins l.cls l.fs) := by
    rw [List.getElem?_append_left (List.getElem?_eq_some_iff.mp g5).1]
    exact g5
  have e2 : (h5 ++ [Ob.ins l2.cls l2.fs])[h5.length]? = some (.ins l2.cls l2.fs) := app_at _ _
  have q6 := q5.app (.ins l2.cls l2.fs)
  generalize h5 ++ [Ob.ins l2.cls l2.fs] = h6 at e1 e2 q6
  generalize h3.length = n1 at e1
  generalize h5.length = n2 at e2
  repeat (fail "vm")
  refine meth_told W (k + 2) l e1 ?_ rfl
  repeat (fail "vm")
  refine meth_told W (k + 2) l2 e2 ?_ rfl
  repeat (fail "vm")
  refine meth_told W (k + 2) l e1 ?_ rfl
  repeat (fail "vm")
  refine ⟨by simp [lim], ?_⟩
  repeat (fail "vm")
  refine ⟨by simp [lim], ?_⟩
  repeat (fail "vm")
  with_reducible refine alike3 (K := k + 3) (k2 := k + 2) (k1 := k + 1) (k0 := k) (by omega) (by omega) (by omega) l l2 ?_
  refine tr_bl (tr_bl ⟨fun ht => Bool.noConfusion ht, fun ht => ?_⟩)
  repeat (fail "vm")
  refine wO_some (isi0 l e1) (tr_bl (tr_bl ⟨fun ht => Bool.noConfusion ht, fun ht => ?_⟩))
  repeat (fail "vm")
  refine wO_some (isi1 l e1) ?_
  repeat (fail "vm")
  refine wO_some (isi2 l e1) (c_eqb ?_)
  have z1 : (l.say == !l.say) = false := by cases l.say <;> rfl
  rw [z1]
  refine tr_bl ⟨fun ht => Bool.noConfusion ht, fun ht => ?_⟩
  repeat (fail "vm")
  refine wO_some (isi1 l e1) ?_
  repeat (fail "vm")
  refine ix_d0 l ?_
  refine c_neb ?_
  rw [bne_self_eq_false]
  refine tr_bl ⟨fun ht => Bool.noConfusion ht, fun ht => ?_⟩
  repeat (fail "vm")
  refine c_eql ?_
  repeat (fail "vm")
  refine w_eqL W (k + 1) l l2 e1 e2 rfl rfl ?_
  repeat (fail "vm")
  refine w_eqL W (k + 1) l2 l e2 e1 rfl rfl ?_
  repeat (fail "vm")
  refine ⟨by simp [lim], ?_⟩
  repeat (fail "vm")
  refine ⟨by simp [lim], ?_⟩
  repeat (fail "vm")
  with_reducible refine mutI_lst (rep_2 ?_)
  repeat (fail "vm")
  have z2 : (l2.eqb l != false) = l.eqb l2 := by rw [Ltr.eqb_symm l2 l]; cases l.eqb l2 <;> rfl
  have z3 : (l.eqb l2 != false) = l.eqb l2 := by cases l.eqb l2 <;> rfl
  rw [z2, z3]
  with_reducible refine alikeB2 (K := k + 3) (k2 := k + 2) (k1 := k + 1) (by omega) (by omega) (by with_unfolding_all rfl) [l.eqb l2, l.eqb l2] (by with_unfolding_all rfl) (by simp) ?_
  refine tr_bl (tr_bl ⟨fun ht => Bool.noConfusion ht, fun ht => ?_⟩)
  repeat (fail "vm")
  refine w_eqL W (k + 1) l l2 e1 e2 rfl rfl ?_
  repeat (fail "vm")
  refine w_eqL W (k + 1) l2 l e2 e1 rfl rfl ?_
  repeat (fail "vm")
  refine ⟨by simp [lim], ?_⟩
  repeat (fail "vm")
  refine tr_bl ?_
  repeat (fail "vm")
  refine ⟨by simp [lim], ?_⟩
  repeat (fail "vm")
  with_reducible refine mutI_lst (rep_2 ?_)
  repeat (fail "vm")
  have z4 : (l2.eqb l != true) = !l.eqb l2 := by rw [Ltr.eqb_symm l2 l]; cases l.eqb l2 <;> rfl
  have z5 : (l.eqb l2 != true) = !l.eqb l2 := by cases l.eqb l2 <;> rfl
  rw [z4, z5]
  with_reducible refine alikeB2 (K := k + 3) (k2 := k + 2) (k1 := k + 1) (by omega) (by omega) (by with_unfolding_all rfl) [!l.eqb l2, !l.eqb l2] (by with_unfolding_all rfl) (by simp) ?_
  refine tr_bl (tr_bl ⟨fun ht => Bool.noConfusion ht, fun ht => ?_⟩)
  obtain ⟨s0, i0⟩ := ix_0 h6 l
  obtain ⟨s1, i1⟩ := ix_1 h6 l
  repeat (fail "vm")
  refine w_eqN W (k + 1) l e1 rfl ?_
  repeat (fail "vm")
  refine ⟨rfl, ty_d h6 l, ?_⟩
  repeat (fail "vm")
  refine w_eqN W (k + 1) l e1 rfl ?_
  repeat (fail "vm")
  refine wO_some i1 ⟨rfl, fun _ => rfl, ?_⟩
  repeat (fail "vm")
  refine w_eqN W (k + 1) l e1 rfl ?_
  repeat (fail "vm")
  refine wO_some i0 ⟨rfl, fun _ => rfl, ?_⟩
  repeat (fail "vm")
  refine w_eqN W (k + 1) l e1 rfl ?_
  repeat (fail "vm")
  refine ⟨by simp [lim], rfl, fun _ => rfl, ?_⟩
  repeat (fail "vm")
  refine ⟨by simp [lim], ?_⟩
  repeat (fail "vm")
  refine ⟨by simp [lim], ?_⟩
  repeat (fail "vm")
  with_reducible refine mutI_lst (rep_4 ?_)
  repeat (fail "vm")
  with_reducible refine alikeB2 (K := k + 3) (k2 := k + 2) (k1 := k + 1) (by omega) (by omega) (by with_unfolding_all rfl) [false, false, false, false] (by with_unfolding_all rfl) (by simp) ?_
  refine tr_bl (tr_bl ⟨fun ht => Bool.noConfusion ht, fun ht => ?_⟩)
  repeat (fail "vm")
  refine w_eqN W (k + 1) l e1 rfl ?_
  repeat (fail "vm")
  refine ⟨rfl, ty_d h6 l, ?_⟩
  repeat (fail "vm")
  refine w_eqN W (k + 1) l e1 rfl ?_
  repeat (fail "vm")
  refine wO_some i1 ⟨rfl, fun _ => rfl, ?_⟩
  repeat (fail "vm")
  refine w_eqN W (k + 1) l2 e2 rfl ?_
  repeat (fail "vm")
  refine ⟨rfl, ty_d h6 l2, ?_⟩
  repeat (fail "vm")
  refine ⟨by simp [lim], ?_⟩
  repeat (fail "vm")
  refine ⟨by simp [lim], ?_⟩
  repeat (fail "vm")
  with_reducible exact alikeB2 (K := k + 3) (k2 := k + 2) (k1 := k + 1) (by omega) (by omega) (by with_unfolding_all rfl) [true, true, false] (by with_unfolding_all rfl) (by simp) (hQ h6 q6)
end VM

set_option Elab.async false
set_option linter.all false
set_option maxRecDepth 100000
set_option maxHeartbeats 4000000
namespace VM
open PySem L2
local macro_rules | `(tactic| fail "vm") => `(tactic| first
  | with_reducible refine w_var (by with_unfolding_all rfl) ?_ | with_reducible refine w_int ?_ | with_reducible refine w_bl ?_ | with_reducible refine w_non ?_ | with_reducible refine w_str ?_ | with_reducible refine w_bin ?_ | with_reducible refine w_cmp ?_ | with_reducible refine w_and ?_ | with_reducible refine w_or ?_ | with_reducible refine w_not ?_ | with_reducible refine w_ife ?_ | with_reducible refine w_tup ?_ | with_reducible refine w_anil ?_ | with_reducible refine w_acons ?_
  | with_reducible refine w_frz ?_ | with_reducible refine w_heap ?_ | with_reducible refine w_disp ?_ | with_reducible refine w_rep ?_ | with_reducible refine w_slice ?_ | with_reducible refine w_fslice ?_ | with_reducible refine w_back ?_ | with_reducible refine w_ix ?_ | with_reducible refine w_fld ?_ | with_reducible refine w_call ?_ | with_reducible refine w_len ?_ | with_reducible refine w_abs ?_ | with_reducible refine w_isi ?_ | with_reducible refine w_isiT ?_ | with_reducible refine w_all ?_
  | with_reducible refine x_skip ?_ | with_reducible refine x_seq ?_ | with_reducible refine x_asg ?_ | with_reducible refine x_asg2 ?_ | with_reducible refine x_expr ?_ | with_reducible refine x_ret ?_ | with_reducible refine x_retN ?_ | with_reducible refine x_if ?_ | with_reducible refine g_nm ?_ | with_reducible refine g_sb ?_
  | with_reducible refine b_add ?_ | with_reducible refine b_sub ?_ | with_reducible refine c_ge ?_)
theorem state (W k : Nat) (ns : List Int) {Q : D → Hs → Prop} (hQ : ∀ s c h1, St h1 s c → Q (.ref s) h1) : wR (run tab W (k + 1) 8 [.rl (ns.map D.int)] []) Q := by
  refine w_run rfl rfl ?_
  dsimp only [ft8, startD]
  repeat (fail "vm")
  refine w_comp (fun rest acc h1 => h1 = [] ∧ (∀ z ∈ rest, ∃ i : Int, z = .int i) ∧ ∃ xs : List Int, acc = xs.map D.int ∧ ∀ x ∈ xs, 0 ≤ x) ?_ ?_ ?_
  · refine i_sq ?_
    repeat (fail "vm")
    refine wO_some (a := none) rfl ?_
    repeat (fail "vm")
    refine wO_some (a := some 63) rfl ?_
    refine wO_some (a := ns.map D.int) rfl ?_
    refine wO_some (a := cutD (ns.map D.int) none (some 63)) rfl ⟨rfl, fun z hz => ?_, [], rfl, fun x hx => by cases hx⟩
    have hz2 : z ∈ ns.map D.int := List.mem_of_mem_drop (List.mem_of_mem_take hz)
    obtain ⟨i, _, e⟩ := List.mem_map.mp hz2
    exact ⟨i, e.symm⟩
  · rintro z r acc h1 ⟨rfl, hz, xs, e1, e2⟩
    obtain ⟨i, rfl⟩ := hz z List.mem_cons_self
    repeat (fail "vm")
    refine ⟨i, rfl, rfl, fun z2 m => hz z2 (List.mem_cons_of_mem _ m), xs ++ [if i < 0 then -i else i], by rw [e1, List.map_append]; rfl, fun x hx => ?_⟩
    rcases List.mem_append.mp hx with hx | hx
    · exact e2 x hx
    · rw [List.mem_singleton.mp hx]
      split <;> omega
  · rintro acc h1 ⟨rfl, _, xs, e1, e2⟩
    subst e1
    cases xs with
    | nil =>
      refine wO_some (a := false) rfl ⟨fun ht => Bool.noConfusion ht, fun ht => ?_⟩
      repeat (fail "vm")
      refine ⟨by simp [lim], ?_⟩
      repeat (fail "vm")
      refine ⟨by simp [lim], ?_⟩
      exact hQ _ 1 _ ⟨[7], 0, 1, rfl, rfl, by simp, fun x hx => by rw [List.mem_singleton.mp hx]; decide, by decide, by decide, by decide, by decide⟩
    | cons x xs =>
      refine wO_some (a := true) rfl ⟨fun ht => ?_, fun ht => Bool.noConfusion ht⟩
      repeat (fail "vm")
      refine ⟨by simp [lim], ?_⟩
      exact hQ _ 0 _ ⟨x :: xs, 0, 1, rfl, rfl, by simp, e2, by decide, by decide, by decide, by simp⟩
theorem law_w (W k : Nat) (ns : List Int) : wR (run tab W (k + 6) 15 [.rl (ns.map D.int)] []) fun v _ => v = .bl true := by
  refine w_run rfl rfl ?_
  dsimp only [ft15, startD]
  repeat (fail "vm")
  refine state W (k + 4) ns fun s c h1 q => ?_
  repeat (fail "vm")
  refine x_for (fun rest σ h => (∃ x, σ = [some (.rl (ns.map D.int)), some (.ref s), x]) ∧ St h s c) ?_ ?_ ?_
  · refine i_rg ?_
    repeat (fail "vm")
    exact ⟨8, rfl, ⟨by decide, by decide, by simp [lim]⟩, ⟨_, rfl⟩, q⟩
  · rintro d r σ h ⟨⟨x, rfl⟩, q⟩
    repeat (fail "vm")
    refine right W (k + 1) q fun h2 q2 => ?_
    refine tr_bl (tr_bl ⟨fun ht => Bool.noConfusion ht, fun ht => ?_⟩)
    repeat (fail "vm")
    exact ⟨⟨_, rfl⟩, q2⟩
  · rintro σ h ⟨⟨x, rfl⟩, q⟩
    repeat (fail "vm")
    exact rfl
theorem run_true (ns : List Int) (hl : ns.length ≤ 63) : ∃ h, run tab 0 20 15 [.rl (ns.map D.int)] [] = .ok (.bl true) h := by
  obtain ⟨v, h, e, rfl⟩ := wR_get (law_w 0 14 ns)
  exact ⟨h, e⟩
end VM

namespace VMHead
open PySem PySem.Spec PyProof.Rows L2 VM
abbrev R : PySem.W.OpenRow := PySem.W.OpenLaw.row PySem.Challenge.rw_ringless_k15_letters_told
abbrev hk : PySem.W.Hook := He.hookX 4 (needFa tab) allD [] [] (exB tab)
def ob (s : PySem.W.SharedT) : He.AlX := He.obsX 4 (needFa tab) allD [] [] (exB tab) (HandSHeadRun.getT s)
theorem ob_eq (s : PySem.W.SharedT) : ob s = hk.obs s.abs := He.obsX_eq (HandSHeadRun.getT_eq s)
theorem run (w : World) : HandSHeadRun.RunEq R (PySem.W.view R.prog [12]) hk ob 2000 ["Letter", "Say", "Agree", "_law_state", "_law_draw", "_law_alike", "_law_letter", "_law_made", "_law_bent", "_law_right"] w := by
  intro os
  kernel_rfl
end VMHead
open PySem PySem.W PySem.Calls PyProof.Rows
theorem PySem.Challenge.cw_ringless_k15_letters_told_holds : PySem.Challenge.rw_ringless_k15_letters_told.Holds := by
  w_on; o_law
  refine HandSHeadRun.head_any (r := OpenLaw.row PySem.Challenge.rw_ringless_k15_letters_told) (q := view (OpenLaw.row PySem.Challenge.rw_ringless_k15_letters_told).prog [12]) (H := VMHead.hk) (ob := VMHead.ob) (M := 2000) (loose := ["Letter", "Say", "Agree", "_law_state", "_law_draw", "_law_alike", "_law_letter", "_law_made", "_law_bent", "_law_right"]) (d := HandSHeadRun.topDef (OpenLaw.row PySem.Challenge.rw_ringless_k15_letters_told).prog 12) (kwd := []) VMHead.ob_eq
    (by kernel_rfl) (fun s => by kernel_rfl) VMHead.run (by kernel_rfl) (by kernel_rfl) (by kernel_rfl) (by rfl) (by first | assumption | decide +kernel) (by decide +kernel) ⟨rfl, rfl, rfl, rfl, rfl, by decide +kernel⟩ ?hw ?hc
  case hw => w_witness2
  case hc =>
    exact VM.law_of (l := PySem.Challenge.rw_ringless_k15_letters_told) (n := 63) (W := 0) (k := 20) (f := 15) (x := "_law_script") rfl (by decide) (by kernel_rfl) VM.tabOkB VM.allOk VM.glAllOk VM.kwAllOk rfl (by kernel_rfl) (by kernel_rfl) ⟨rfl, by decide, by decide⟩ VM.run_true


