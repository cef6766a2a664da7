import PyProof.Rows.All
import Wide.All
import OpenK.AllK
import Wide.FinOn
import PyProof.P3Eq
import PyProof.ExcBaseAll.LookupError
import PyProof.ExcBaseAll.OverflowError
import PyProof.ExcBaseAll.RuntimeError
import KE.KOpsOwn
import HandS.CallSlots
import HandS.ClsMeth
import HandS.Dict
import HandS.Ends
import HandS.Exc
import HandS.ExcField
import HandS.ExcIs
import HandS.ExcValue
import HandS.ForMost
import HandS.IsInst
import HandS.Property
import HandS.RaiseMore
import HandS.SetFor
import HandS.Star
import HandS.StrMore
import HandS.Strs
import HandS.TryMany
import HandS.TupAny
import HandS.TupLe
import HandS.Wide
import HandS.WideMore
import HandS.Words
import HandS.WordsExc
import HandS.Zip
import PySem.Challenge.RW_truthrings_k63_error_classes
section
set_option Elab.async false
set_option linter.all false
namespace MP
open PySem L2

/-- an object of the interpreter's heap -/
inductive IO where
  | lst (xs : List V)
  | flst (xs : List V)
  | tup (xs : List V) (k : Bool := false)
  | dic (kvs : List (Key × V))
  | ins (C : Nat) (fs : List (Nat × V))
  | xd (f : Nat) (v : V)
  | cls (C : Nat)
  | exo (C d : Nat)
  deriving DecidableEq
abbrev IH := List IO
inductive Out (α : Type) where
  | val (a : α) (h : IH)
  | exn (C d : Nat) (h : IH)
abbrev EV (α : Type) := Option (Out α)
def bnd {α β : Type} : EV α → (α → IH → EV β) → EV β
  | some (.val a h), k => k a h
  | some (.exn C d h), _ => some (.exn C d h)
  | none, _ => none
/-- where nothing may be raised -/
def bndN {α β : Type} : EV α → (α → IH → EV β) → EV β
  | some (.val a h), k => k a h
  | some (.exn _ _ _), _ => none
  | none, _ => none
abbrev ret {α : Type} (a : α) (h : IH) : EV α := some (.val a h)
def new (o : IO) (h : IH) : EV V := some (.val (.ref h.length) (h ++ [o]))

inductive BT | non | bool | int | str | list | tup | dict
  deriving DecidableEq
def btN : BT → String
  | .non => "NoneType"
  | .bool => "bool"
  | .int => "int"
  | .str => "str"
  | .list => "list"
  | .tup => "tuple"
  | .dict => "dict"
inductive Ty | b (t : BT) | c (C : Nat)
  deriving DecidableEq
inductive Bif | len | all | any | sum | max1 | min1 | max2 | min2 | int | str | repr | list | tuple | lenSet | sorted | ord
  deriving DecidableEq
inductive Bm | append | extend | pop | clear | join | count | index | lstrip | split | partition | get1 | get2 | setdef | replace
  deriving DecidableEq
/-- own methods with a form of their own -/
inductive Dn | eq | ne | inn | nin | add | mul | and | or | xor | get | inv | len
  deriving DecidableEq
mutual
inductive MT where
  | nm (i : Nat) | tup (ts : MTs)
inductive MTs where
  | nil | cons (t : MT) (r : MTs)
end
mutual
inductive ME where
  | var (i : Nat)
  | glb (g : Nat)
  | cst (v : V)
  | lst (es : MA)
  | tup (es : MA)
  | bin (op : Operator) (a b : ME)
  | neg (a : ME)
  | cmp (op : CmpOp) (a b : ME)
  | cmp2 (op op' : CmpOp) (a b c : ME)
  | andE (a b : ME)
  | orE (a b : ME)
  | notE (a : ME)
  | ife (c a b : ME)
  | ix (a b : ME)
  | sl (a : ME) (lo hi : MO)
  | att (a : ME) (f : Nat)
  | call (f : Nat) (es : MA)
  | make (C : Nat) (es : MA)
  | met (o : ME) (m : Nat) (es : MA)
  | clm (C m : Nat) (es : MA)
  | callv (i : Nat) (es : MA)
  | bi (b : Bif) (es : MA)
  | bm (m : Bm) (o : ME) (es : MA)
  | isI (a : ME) (t : Ty)
  | isIs (a : ME) (ts : List Ty)
  | lc (ws : List Nat) (elt : ME) (tg : MT) (it : MI) (c : MO)
  | curF (f : Nat)
  | curI (C : Nat)
  | curB (b : Nat)
  | dct (kvs : List (Key × V))
  | dn (d : Dn) (a b : ME)
  | dn1 (d : Dn) (a : ME)
  | con (C f : Nat)
  | lzip (a b : ME)
  | slr (a : ME)
  | fs (es : MA)
  | isC (a : ME) (C : Nat)
  | dix (a b : ME)
  | inK (a b : ME)
  | mkx (C : Nat) (e : ME)
  | isE (a : ME) (C : Nat)
  | isX (a : ME) (b : Nat)
inductive MA where
  | nil | cons (e : ME) (r : MA)
inductive MO where
  | none | some (e : ME)
inductive MI where
  | ev (e : ME) | rng1 (a : ME) | rng2 (a b : ME) | enum (e : ME) | zip (a b : ME) | items (e : ME) | vals (e : ME) | keys (e : ME)
end
mutual
inductive MS where
  | asg (t : MT) (e : ME)
  | par (t : MT) (es : MA)
  | asgA (o : ME) (f : Nat) (e : ME)
  | asgS (o k e : ME)
  | aug (op : Operator) (i : Nat) (e : ME)
  | augA (op : Operator) (o : ME) (f : Nat) (e : ME)
  | ex (e : ME)
  | ret (e : ME)
  | retN
  | ifS (c : ME) (a b : MB)
  | whl (c : ME) (b : MB)
  | forS (t : MT) (it : MI) (b : MB)
  | rais (C : Nat) (e : ME)
  | tryS (b : MB) (hs : MH)
  | pss | brk | cnt | fail
  | unpS (ws : List Nat) (e : ME)
inductive MB where
  | nil | cons (s : MS) (r : MB)
inductive MH where
  | nil | cons (c : Nat) (nm : Option Nat) (b : MB) (r : MH)
end

/-- what the text says besides its defs' bodies -/
structure Gam where
  call : Nat → List V → IH → EV V
  glob : Nat → Option V
  init : Nat → Option Nat
  meth : Nat → Nat → Option Nat
  prop : Nat → Nat → Option Nat
  con : Nat → Nat → Option V
  cmeth : Nat → Nat → Option (Nat × Bool)
  callm : Nat → Option Nat
  exf : Nat → Option Nat
  sub : Nat → Nat → Bool
  clsAt : Nat → Option Nat
  isF : Nat → Nat → Bool
  subB : Nat → Nat → Bool
  dun : Nat → Dn → Option Nat := fun _ _ => none
  /-- its == says NotImplemented to what is none of its own -/
  eqg : Nat → Bool := fun _ => false
  /-- classes of which isinstance is told -/
  isK : Nat → Bool := fun _ => false

/-! ### values -/
def truth (h : IH) : V → Option Bool
  | .non => some false
  | .bl b => some b
  | .int i => some (i != 0)
  | .str s => if s.length ≤ sizeLine then some ((s.length : Int) != 0) else none
  | .ref a => match h[a]? with
    | some (.lst xs) => some (!xs.isEmpty)
    | some (.flst xs) => some (!xs.isEmpty)
    | some (.tup xs _) => some (!xs.isEmpty)
    | some (.dic kvs) => some (!kvs.isEmpty)
    | _ => none
  | _ => none
/-- a value as data -/
def dataL (f : V → Option PyData) : List V → Option (List PyData)
  | [] => some []
  | v :: r => match f v, dataL f r with
    | some d, some ds => some (d :: ds)
    | _, _ => none
def toD (h : IH) : Nat → V → Option PyData
  | 0, _ => none
  | n + 1, v => match v with
    | .non => some .none
    | .bl b => some (.bool b)
    | .int i => some (.int i)
    | .str s => some (.str s)
    | .ref a => match h[a]? with
      | some (.lst xs) => (dataL (toD h n) xs).map .list
      | some (.flst xs) => (dataL (toD h n) xs).map .list
      | some (.tup xs _) => (dataL (toD h n) xs).map .tuple
      | _ => none
    | _ => none
def seqOf (h : IH) : V → Option (List V)
  | .ref a => match h[a]? with
    | some (.lst xs) => some xs
    | some (.flst xs) => some xs
    | some (.tup xs _) => some xs
    | _ => none
  | _ => none
def lstOf (h : IH) : V → Option (List V)
  | .ref a => match h[a]? with
    | some (.lst xs) => some xs
    | some (.flst xs) => some xs
    | _ => none
  | _ => none
def tyOf (h : IH) : V → Option Ty
  | .non => some (.b .non)
  | .bl _ => some (.b .bool)
  | .int _ => some (.b .int)
  | .str _ => some (.b .str)
  | .ref a => match h[a]? with
    | some (.lst _) => some (.b .list)
    | some (.flst _) => some (.b .list)
    | some (.tup _ _) => some (.b .tup)
    | some (.dic _) => some (.b .dict)
    | some (.ins C _) => some (.c C)
    | _ => none
  | _ => none
def isTy (Γ : Gam) : Ty → Ty → Bool
  | .b a, .b b => a == b || (a == .bool && b == .int)
  | .c C, .c D => Γ.sub C D
  | _, _ => false
def intsOf : List V → Option (List Int)
  | [] => some []
  | .int i :: r => (intsOf r).map (i :: ·)
  | _ :: _ => none
def boolsOf : List V → Option (List Bool)
  | [] => some []
  | .bl i :: r => (boolsOf r).map (i :: ·)
  | _ :: _ => none
def strsOf : List V → Option (List Str)
  | [] => some []
  | .str i :: r => (strsOf r).map (i :: ·)
  | _ :: _ => none
def lookF (f : Nat) : List (Nat × V) → Option V
  | [] => none
  | (g, v) :: r => if f = g then some v else lookF f r
def putI (f : Nat) (v : V) : List (Nat × V) → List (Nat × V)
  | [] => [(f, v)]
  | (g, u) :: r => if g = f then (g, v) :: r else (g, u) :: putI f v r
/-- two ints whose product is below the line -/
def mulOk (i j : Int) : Bool := decide (i.natAbs.log2 + j.natAbs.log2 < 1000000)
def divOk (j : Int) : Bool := decide (0 < j ∧ j.natAbs.log2 < 9000)

def binop (op : Operator) (x y : V) (h : IH) : EV V :=
  match op, x, y with
  | .Add, .int i, .int j => ret (.int (i + j)) h
  | .Sub, .int i, .int j => ret (.int (i - j)) h
  | .Mult, .int i, .int j => if mulOk i j then ret (.int (i * j)) h else none
  | .FloorDiv, .int i, .int j => if divOk j then ret (.int (i / j)) h else none
  | .Mod, .int i, .int j => if 0 < j then ret (.int (i % j)) h else none
  | .Pow, .int i, .int j => if 0 ≤ j ∧ j ≤ 1000000 ∧ i.natAbs < 2 ^ 64 then ret (.int (i ^ j.toNat)) h else none
  | .Add, .str s, .str t => if s.length + t.length ≤ sizeLine then ret (.str (s ++ t)) h else none
  | .Add, .ref a, .ref b => match h[a]?, h[b]? with
    | some (.lst xs), some (.lst ys) => if xs.length + ys.length ≤ sizeLine then new (.lst (xs ++ ys)) h else none
    | some (.tup xs _), some (.tup ys _) => if xs.length + ys.length ≤ sizeLine then
        (if xs.isEmpty then ret (.ref b) h else if ys.isEmpty then ret (.ref a) h else new (.tup (xs ++ ys)) h) else none
    | _, _ => none
  | .Mult, .ref a, .int k => match h[a]? with
    | some (.lst xs) => if -(2 ^ 63) ≤ k ∧ k < 2 ^ 63 ∧ xs.length * k.toNat ≤ sizeLine then new (.lst (List.replicate k.toNat xs).flatten) h else none
    | _ => none
  | _, _, _ => none
def eqOp (x y : V) (h : IH) : Option Bool := match toD h 40 x, toD h 40 y with
  | some d, some e => if SeqAt.shaped d && SeqAt.shaped e then some (PyData.eqv d e) else none
  | _, _ => none
def cmpop (op : CmpOp) (x y : V) (h : IH) : EV V :=
  match op with
  | .Eq => match eqOp x y h with | some b => ret (.bl b) h | none => none
  | .NotEq => match eqOp x y h with | some b => ret (.bl (!b)) h | none => none
  | .Lt => match x, y with
    | .int i, .int j => ret (.bl (decide (i < j))) h
    | .str i, .str j => ret (.bl (decide (i.cps.toList < j.cps.toList))) h
    | _, _ => none
  | .LtE => match x, y with
    | .int i, .int j => ret (.bl (decide (i ≤ j))) h
    | _, _ => none
  | .Gt => match x, y with
    | .int i, .int j => ret (.bl (decide (j < i))) h
    | _, _ => none
  | .GtE => match x, y with
    | .int i, .int j => ret (.bl (decide (j ≤ i))) h
    | _, _ => none
  | .Is => match x, y with
    | x, .non => ret (.bl (decide (x = .non))) h
    | .bl a, .bl b => ret (.bl (decide (a = b))) h
    | _, _ => none
  | .IsNot => match x, y with
    | x, .non => ret (.bl (!decide (x = .non))) h
    | .bl a, .bl b => ret (.bl (!decide (a = b))) h
    | _, _ => none
  | .In => match x, y with
    | .str i, .str j => ret (.bl (!(Builtin.Str.occurrences j i 0 j.length 1).isEmpty)) h
    | x, y => match seqOf h y with
      | some xs => if flatV x && xs.all flatV then ret (.bl (inV x xs)) h else none
      | none => none
  | .NotIn => match x, y with
    | .str i, .str j => ret (.bl (!(!(Builtin.Str.occurrences j i 0 j.length 1).isEmpty))) h
    | x, y => match seqOf h y with
      | some xs => if flatV x && xs.all flatV then ret (.bl (!inV x xs)) h else none
      | none => none

def getix (x y : V) (h : IH) : EV V := match x, y with
  | .str z, .int i => if z.length ≤ sizeLine then (match atI z.cps.toList i with
    | some c => ret (.str ⟨#[c]⟩) h
    | none => none) else none
  | .ref a, .int i => match seqOf h (.ref a) with
    | some xs => (match atI xs i with
      | some v => ret v h
      | none => none)
    | none => none
  | _, _ => none
def getsl (x : V) (lo hi : Option Int) (h : IH) : EV V := match x with
  | .str z => if z.length ≤ sizeLine then ret (.str (cutS z lo hi)) h else none
  | .ref a => match h[a]? with
    | some (.lst xs) => new (.lst (cutV xs lo hi)) h
    | some (.flst xs) => new (.lst (cutV xs lo hi)) h
    | some (.tup xs _) => if HT.sIx xs.length 0 lo = 0 ∧ HT.sIx xs.length xs.length hi = xs.length then ret (.ref a) h else new (.tup (cutV xs lo hi)) h
    | _ => none
  | _ => none
def lenOf (x : V) (h : IH) : Option Nat := match x with
  | .str z => if z.length ≤ sizeLine then some z.length else none
  | .ref a => match h[a]? with
    | some (.lst xs) => some xs.length
    | some (.flst xs) => some xs.length
    | some (.tup xs _) => some xs.length
    | some (.dic kvs) => some kvs.length
    | _ => none
  | _ => none
/-- the greatest, the least of some ints -/
def maxI : List Int → Option Int
  | [] => none
  | i :: r => some (r.foldl (fun a b => if a < b then b else a) i)
def minI : List Int → Option Int
  | [] => none
  | i :: r => some (r.foldl (fun a b => if b < a then b else a) i)
def distinct (ns : List Int) : Nat := (PyProof.Rows.firstMet (fun i => ns.getD i 0) ns.length).length
/-- a dict's pairs as data: keys ints, values flat -/
def flatD : V → Option PyData
  | .non => some .none
  | .bl b => some (.bool b)
  | .int i => some (.int i)
  | .str s => some (.str s)
  | _ => none
def pairsD : List (Key × V) → Option (List (PyData × PyData))
  | [] => some []
  | (.inl i, v) :: r => match flatD v, pairsD r with
    | some d, some ds => some ((.int i, d) :: ds)
    | _, _ => none
  | _ => none
def dicD (x : V) (h : IH) : Option PyData := match x with
  | .ref a => match h[a]? with
    | some (.dic kvs) => (pairsD kvs).map .dict
    | _ => none
  | _ => none
def bifn (b : Bif) (vs : List V) (h : IH) : EV V := match b, vs with
  | .len, [x] => match lenOf x h with
    | some n => ret (.int n) h
    | none => none
  | .all, [x] => match lstOf h x with
    | some xs => (match boolsOf xs with
      | some bs => ret (.bl (bs.all id)) h
      | none => none)
    | none => none
  | .any, [x] => match lstOf h x with
    | some xs => (match boolsOf xs with
      | some bs => ret (.bl (bs.any id)) h
      | none => none)
    | none => none
  | .sum, [x] => match lstOf h x with
    | some xs => (match intsOf xs with
      | some is => ret (.int is.sum) h
      | none => none)
    | none => none
  | .max1, [x] => match lstOf h x with
    | some xs => (match (intsOf xs).bind maxI with
      | some i => ret (.int i) h
      | none => none)
    | none => none
  | .min1, [x] => match lstOf h x with
    | some xs => (match (intsOf xs).bind minI with
      | some i => ret (.int i) h
      | none => none)
    | none => none
  | .max2, [.int i, .int j] => ret (.int (if j > i then j else i)) h
  | .min2, [.int i, .int j] => ret (.int (if j < i then j else i)) h
  | .int, [.int i] => ret (.int i) h
  | .int, [.bl k] => ret (.int (if k then 1 else 0)) h
  | .int, [.str s] => match PySem.intText? s with
    | some n => if s.length ≤ 640 then ret (.int n) h else none
    | none => none
  | .str, [.int i] => if i.natAbs.log2 < 1920 then ret (.str (toString i)) h else none
  | .str, [.str s] => ret (.str s) h
  | .repr, [x] => match toD h 40 x with
    | some d => if PyData.showable d && !PyData.hasDict d && decide (d.shown.length + 64 ≤ sizeLine) && decide (d.depth ≤ 60) then ret (.str d.shown) h else none
    | none => match dicD x h with
      | some d => if PyData.showable d && decide (d.shown.length + 64 ≤ sizeLine) && decide (d.depth ≤ 60) then ret (.str d.shown) h else none
      | none => none
  | .list, [x] => match seqOf h x with
    | some xs => new (.lst xs) h
    | none => none
  | .tuple, [.ref a] => match h[a]? with
    | some (.lst xs) => new (.tup xs) h
    | some (.flst xs) => new (.tup xs) h
    | some (.tup _ _) => ret (.ref a) h
    | _ => none
  | .lenSet, [x] => match seqOf h x with
    | some xs => (match intsOf xs with
      | some is => if is.length < 64 then ret (.int (distinct is)) h else none
      | none => none)
    | none => none
  | .ord, [.str s] => if s.length = 1 then ret (.int (s.cps.getD 0 0 : Nat)) h else none
  | _, _ => none
def setH (h : IH) (a : Nat) (o : IO) : IH := h.set a o
def mAppend (x : V) (vs : List V) (h : IH) : EV V := match x, vs with
  | .ref a, [y] => match h[a]? with
    | some (.lst xs) => if xs.length < sizeLine then ret .non (h.set a (.lst (xs ++ [y]))) else none
    | _ => none
  | _, _ => none
def mExtend (x : V) (vs : List V) (h : IH) : EV V := match x, vs with
  | .ref a, [.ref b] => match h[a]?, h[b]? with
    | some (.lst xs), some (.lst ys) => if xs.length + ys.length ≤ sizeLine then ret .non (h.set a (.lst (xs ++ ys))) else none
    | _, _ => none
  | _, _ => none
def mPop (x : V) (vs : List V) (h : IH) : EV V := match x, vs with
  | .ref a, [] => match h[a]? with
    | some (.lst xs) => (match xs[xs.length - 1]? with
      | some y => ret y (h.set a (.lst xs.dropLast))
      | none => none)
    | _ => none
  | _, _ => none
def mClear (x : V) (vs : List V) (h : IH) : EV V := match x, vs with
  | .ref a, [] => match h[a]? with
    | some (.lst _) => ret .non (h.set a (.lst []))
    | _ => none
  | _, _ => none
def mJoin (x : V) (vs : List V) (h : IH) : EV V := match x, vs with
  | .str s, [y] => match seqOf h y with
    | some xs => (match strsOf xs with
      | some ys => if (ys.map (·.length)).sum + ys.length * s.length ≤ 16777216 then ret (.str (Txt.join s ys)) h else none
      | none => none)
    | none => none
  | _, _ => none
def mCount (x : V) (vs : List V) (h : IH) : EV V := match x, vs with
  | .str s, [.str t] => ret (.int (Txt.count s t)) h
  | _, _ => none
def mIndex (x : V) (vs : List V) (h : IH) : EV V := match x, vs with
  | .ref a, [.str z] => match h[a]? with
    | some (.tup xs true) => (match strsOf xs with
      | some ys => if z ∈ ys then ret (.int (ys.idxOf z : Nat)) h else none
      | none => none)
    | _ => none
  | _, _ => none
def mLstrip (x : V) (vs : List V) (h : IH) : EV V := match x, vs with
  | .str s, [.str t] => if s.length ≤ sizeLine then ret (.str (Txt.lstripChars s t)) h else none
  | _, _ => none
def mSplit (x : V) (vs : List V) (h : IH) : EV V := match x, vs with
  | .str s, [.str t] => if t.length ≠ 0 ∧ s.length + 2 ≤ sizeLine then new (.lst ((Txt.split s t).map V.str)) h else none
  | _, _ => none
def mPartition (x : V) (vs : List V) (h : IH) : EV V := match x, vs with
  | .str s, [.str t] => if t.length ≠ 0 ∧ s.length ≤ sizeLine then new (.tup [.str (Txt.partition s t).1, .str (Txt.partition s t).2.1, .str (Txt.partition s t).2.2]) h else none
  | _, _ => none
def bmeth (m : Bm) (x : V) (vs : List V) (h : IH) : EV V := match m with
  | .append => mAppend x vs h
  | .extend => mExtend x vs h
  | .pop => mPop x vs h
  | .clear => mClear x vs h
  | .join => mJoin x vs h
  | .count => mCount x vs h
  | .index => mIndex x vs h
  | .lstrip => mLstrip x vs h
  | .split => mSplit x vs h
  | .partition => mPartition x vs h
  | _ => none
/-- the receiver is of the method's type -/
def isLst (x : V) (h : IH) : Bool := match x with
  | .ref a => (match h[a]? with | some (.lst _) => true | _ => false)
  | _ => false
def isTupK (x : V) (h : IH) : Bool := match x with
  | .ref a => (match h[a]? with | some (.tup _ true) => true | _ => false)
  | _ => false
def isStr : V → Bool
  | .str _ => true
  | _ => false
def bmTy (m : Bm) (x : V) (h : IH) : Bool := match m with
  | .append | .extend | .pop | .clear => isLst x h
  | .index => isTupK x h
  | .join | .count | .lstrip | .split | .partition => isStr x
  | _ => false

/-! ### targets -/
mutual
def asgT : MT → V → St → IH → Option St
  | .nm i, v, σ, _ => some (σ.set i (some v))
  | .tup ts, v, σ, h => match v with
    | .ref a => match h[a]? with
      | some (.tup xs _) => asgTs ts xs σ h
      | _ => none
    | _ => none
def asgTs : MTs → List V → St → IH → Option St
  | .nil, [], σ, _ => some σ
  | .cons t r, v :: vs, σ, h => match asgT t v σ h with
    | some σ' => asgTs r vs σ' h
    | none => none
  | _, _, _, _ => none
end
def asgX : MT → V × Option V → St → IH → Option St
  | t, (v, none), σ, h => asgT t v σ h
  | .tup (.cons t (.cons u .nil)), (v, some w), σ, h => match asgT t v σ h with
    | some σ' => asgT u w σ' h
    | none => none
  | _, _, _, _ => none
structure Its where
  xs : List (V × Option V)
  gd : List (Nat × IO)
def okG (h : IH) (gd : List (Nat × IO)) : Bool := gd.all fun p => h[p.1]? == some p.2
def loopC (f : V × Option V → IH → EV (Option V)) (gd : List (Nat × IO)) : List (V × Option V) → IH → EV (List V)
  | [], h => if okG h gd then ret [] h else none
  | x :: r, h => if okG h gd then bndN (f x h) fun o h1 => bndN (loopC f gd r h1) fun vs h2 => ret (o.toList ++ vs) h2 else none
def itsOf (v : V) (h : IH) : Option Its := match v with
  | .str s => some ⟨s.cps.toList.map fun c => (V.str ⟨#[c]⟩, none), []⟩
  | .ref a => match h[a]? with
    | some (.lst xs) => some ⟨xs.map (·, none), [(a, .lst xs)]⟩
    | some (.flst xs) => some ⟨xs.map (·, none), [(a, .flst xs)]⟩
    | some (.tup xs k) => some ⟨xs.map (·, none), [(a, .tup xs k)]⟩
    | _ => none
  | _ => none
def enumOf : Nat → List V → List (V × Option V)
  | _, [] => []
  | n, v :: r => (.int n, some v) :: enumOf (n + 1) r
def rngOf (lo : Int) (n : Nat) : List (V × Option V) := (List.range n).map fun (i : Nat) => (.int (lo + (i : Int)), none)

/-- as a value (t = false) or as a test (t = true) -/
def fin : Bool → V → IH → EV V
  | false, v, h => ret v h
  | true, v, h => match truth h v with
    | some k => ret (.bl k) h
    | none => none
def oneInt (o : Option Int) : V → IH → EV (Option Int)
  | .int i, h => ret (some i) h
  | _, _ => none
def negV : V → IH → EV V
  | .int i, h => ret (.int (-i)) h
  | _, _ => none
def notV : V → IH → EV V
  | .bl b, h => ret (.bl (!b)) h
  | _, _ => none
def optV : Option V → IH → EV V
  | some v, h => ret v h
  | none, _ => none
def slotV (σ : St) (i : Nat) (h : IH) : EV V := match σ[i]? with
  | some (some v) => ret v h
  | _ => none
def attV (Γ : Gam) (f : Nat) (x : V) (h : IH) : EV V := match x with
  | .ref p => match h[p]? with
    | some (.ins C fs) => (match lookF f fs with
      | some v => if Γ.isF C f then ret v h else none
      | none => (match Γ.prop C f with
        | some g => bndN (Γ.call g [.ref p] h) ret
        | none => none))
    | some (.cls C) => optV (Γ.con C f) h
    | some (.exo C d) => (match h[d]? with
      | some (.xd g v) => if f = g ∧ Γ.exf C = some f then ret v h else none
      | _ => none)
    | _ => none
  | _ => none
/-- C(vs) -/
def makeV (Γ : Gam) (C : Nat) (vs : List V) (h : IH) : EV V := match Γ.init C with
  | some f => bnd (Γ.call f (.ref h.length :: vs) (h ++ [.ins C []])) fun z h2 => match z with
    | .non => ret (.ref h.length) h2
    | _ => none
  | none => none
/-- the function of a method of the instance x -/
def methF (Γ : Gam) (m : Nat) (x : V) (h : IH) : Option Nat := match x with
  | .ref p => match h[p]? with
    | some (.ins C fs) => (match lookF m fs with
      | none => Γ.meth C m
      | some _ => none)
    | _ => none
  | _ => none
/-- a local value called -/
inductive Cal | mk (C : Nat) | inst (p : Nat)
def calV (Γ : Gam) (x : V) (h : IH) : Option Cal := match x with
  | .ref p => match h[p]? with
    | some (.cls C) => if (Γ.init C).isSome then some (.mk C) else none
    | some (.ins C _) => some (.inst p)
    | _ => none
  | _ => none
def runCal (Γ : Gam) (c : Cal) (vs : List V) (h : IH) : EV V := match c with
  | .mk C => makeV Γ C vs h
  | .inst p => match h[p]? with
    | some (.ins C _) => (match Γ.callm C with
      | some f => Γ.call f (.ref p :: vs) h
      | none => none)
    | _ => none
def tyV (Γ : Gam) (ts : List Ty) (x : V) (h : IH) : EV V := match tyOf h x with
  | some (.b u) => ret (.bl (ts.any (isTy Γ (.b u)))) h
  | _ => none
def curV (Γ : Gam) (cur : Option (Nat × Nat)) (f : Nat) (h : IH) : EV V := match cur with
  | some (C, d) => match h[d]? with
    | some (.xd g v) => if f = g ∧ Γ.exf C = some f then ret v h else none
    | _ => none
  | none => none
def curIV (Γ : Gam) (cur : Option (Nat × Nat)) (f : Nat → Bool) (h : IH) : EV V := match cur with
  | some (C, d) => match h[d]? with
    | some (.xd _ _) => if (Γ.exf C).isSome then ret (.bl (f C)) h else none
    | _ => none
  | none => none
def enumV (v : V) (h : IH) : EV Its := match v with
  | .ref a => match h[a]? with
    | some (.lst xs) => ret ⟨enumOf 0 xs, [(a, .lst xs)]⟩ h
    | some (.flst xs) => ret ⟨enumOf 0 xs, [(a, .flst xs)]⟩ h
    | _ => none
  | _ => none
def zipV (v w : V) (h : IH) : EV Its := match v, w with
  | .str s, .str t => if s.length = t.length then ret ⟨((s.cps.toList.map fun c => V.str ⟨#[c]⟩).zip (t.cps.toList.map fun c => V.str ⟨#[c]⟩)).map fun z => (z.1, some z.2), []⟩ h else none
  | .ref p, .ref q => match h[p]?, h[q]? with
    | some (.lst xs), some (.lst ys) => if xs.length = ys.length then ret ⟨(xs.zip ys).map fun z => (z.1, some z.2), [(p, .lst xs), (q, .lst ys)]⟩ h else none
    | _, _ => none
  | _, _ => none
def rng1V (v : V) (h : IH) : EV Its := match v with
  | .int j => if -(2 ^ 62) ≤ j ∧ j < 2 ^ 62 then ret ⟨rngOf 0 j.toNat, []⟩ h else none
  | _ => none
def rng2V (v w : V) (h : IH) : EV Its := match v, w with
  | .int i, .int j => if (-(2 ^ 62) ≤ i ∧ i < 2 ^ 62) ∧ (-(2 ^ 62) ≤ j ∧ j < 2 ^ 62) then ret ⟨rngOf i (j - i).toNat, []⟩ h else none
  | _, _ => none
def evV (v : V) (h : IH) : EV Its := match itsOf v h with
  | some is => ret is h
  | none => none
def wipeI (ws : List Nat) (σ : St) : St := wipe σ ws
/-- one turn of a comprehension -/
def turnC (tg : MT) (ws : List Nat) (σ : St) (c : St → IH → EV V) (e : St → IH → EV V) (x : V × Option V) (h : IH) : EV (Option V) :=
  match asgX tg x (wipe σ ws) h with
  | some τ => bndN (c τ h) fun k h3 => (match k with
    | .bl true => bndN (e τ h3) fun v h4 => ret (some v) h4
    | .bl false => ret none h3
    | _ => none)
  | none => none
def listV (vs : List V) (h : IH) : EV V := if vs.length ≤ sizeLine then new (.lst vs) h else none
def tupV (vs : List V) (h : IH) : EV V := if vs.length ≤ sizeLine then new (.tup vs) h else none
/-- an exception object -/
def exOf (Γ : Gam) (h : IH) : V → Option Nat
  | .ref p => match h[p]? with
    | some (.exo C d) => (match h[d]? with
      | some (.xd _ _) => if (Γ.exf C).isSome then some C else none
      | _ => none)
    | _ => none
  | _ => none
def mkxV (Γ : Gam) (C : Nat) (v : V) (h : IH) : EV V := match Γ.exf C with
  | some f => ret (.ref (h.length + 1)) (h ++ [.xd f v] ++ [.exo C h.length])
  | none => none
def isEV (Γ : Gam) (f : Nat → Bool) (x : V) (h : IH) : EV V := match exOf Γ h x with
  | some C => ret (.bl (f C)) h
  | none => none
def insOf (h : IH) : V → Option Nat
  | .ref p => match h[p]? with
    | some (.ins C _) => some C
    | _ => none
  | _ => none
def boolV (neg : Bool) : V → IH → EV V
  | .bl b, h => ret (.bl (neg != b)) h
  | _, _ => none
/-- is x of the own class C? -/
def isCV (Γ : Gam) (C : Nat) (h : IH) (x : V) : Option Bool := if Γ.isK C then (match tyOf h x with
  | some (.b _) => some false
  | some (.c D) => if Γ.isK D then some (Γ.sub D C) else none
  | none => none) else none
/-- the right operand is one that the left one's own method is asked for at once -/
def dnR (d : Dn) (h : IH) (C : Nat) (y : V) : Bool := match d with
  | .mul => (match y with | .int _ => true | _ => false)
  | .get => true
  | _ => insOf h y == some C
def isBT (h : IH) (y : V) : Bool := match tyOf h y with
  | some (.b _) => true
  | _ => false
def dnV (Γ : Gam) (d : Dn) (x y : V) (h : IH) : EV V := match d with
  | .inn | .nin => match (insOf h y).bind fun C => Γ.dun C .inn with
    | some f => bnd (Γ.call f [y, x] h) (boolV (d == .nin))
    | none => none
  | .eq | .ne => match insOf h x with
    | some C => if Γ.isK C then (if insOf h y == some C then (match Γ.dun C .eq with
        | some f => bnd (Γ.call f [x, y] h) (boolV (d == .ne))
        | none => none)
      else if isBT h y && Γ.eqg C then ret (.bl (d == .ne)) h else none) else none
    | none => none
  | d => match insOf h x with
    | some C => if dnR d h C y then (match Γ.dun C d with
      | some f => Γ.call f [x, y] h
      | none => none) else none
    | none => none
def lenR : V → IH → EV V
  | .int i, h => if 0 ≤ i ∧ i < 2 ^ 62 then ret (.int i) h else none
  | _, _ => none
def dn1V (Γ : Gam) (d : Dn) (x : V) (h : IH) : EV V := match (insOf h x).bind fun C => Γ.dun C d with
  | some f => bnd (Γ.call f [x] h) fun r h2 => if d = .len then lenR r h2 else ret r h2
  | none => none
def zipS : V → V → IH → Option (List (V × V))
  | .str s, .str t, _ => some ((s.cps.toList.map fun c => V.str ⟨#[c]⟩).zip (t.cps.toList.map fun c => V.str ⟨#[c]⟩))
  | x, y, h => match lstOf h x, lstOf h y with
    | some xs, some ys => some (xs.zip ys)
    | _, _ => none
/-- list(zip(x, y)) -/
def lzipV (x y : V) (h : IH) : EV V := match zipS x y h with
  | some ps => if ps.length ≤ sizeLine then ret (.ref (h.length + ps.length)) (h ++ ps.map (fun p => .tup [p.1, p.2]) ++ [.lst ((List.range ps.length).map fun i => V.ref (h.length + i))]) else none
  | none => none
def slrV (x : V) (h : IH) : EV V := match lstOf h x with
  | some xs => new (.lst xs.reverse) h
  | none => none
/-- the texts of an f-string's parts -/
def fsT : List V → Option (List Str)
  | [] => some []
  | .str s :: r => if s.length ≤ sizeLine then (fsT r).map (s :: ·) else none
  | .int i :: r => if i.natAbs.log2 < 1920 then (fsT r).map (toString i :: ·) else none
  | _ :: _ => none
def fsV (vs : List V) (h : IH) : EV V := match fsT vs with
  | some ts => if (ts.map (·.length)).sum ≤ sizeLine then ret (.str (ts.foldl (· ++ ·) Str.empty)) h else none
  | none => none
def keyOf : V → Option Key
  | .int i => some (.inl i)
  | .str s => some (.inr s)
  | _ => none
def keyV : Key → V
  | .inl i => .int i
  | .inr s => .str s
def dixV (x y : V) (h : IH) : EV V := match x, keyOf y with
  | .ref a, some k => match h[a]? with
    | some (.dic kvs) => (match kvs.find? fun p => decide (p.1 = k) with
      | some p => ret p.2 h
      | none => none)
    | _ => none
  | _, _ => none
def inKV (x y : V) (h : IH) : EV V := match y, keyOf x with
  | .ref a, some k => match h[a]? with
    | some (.dic kvs) => ret (.bl (kvs.any fun p => decide (p.1 = k))) h
    | _ => none
  | _, _ => none
def keysV (v : V) (h : IH) : EV Its := match v with
  | .ref a => match h[a]? with
    | some (.dic kvs) => ret ⟨kvs.map fun p => (keyV p.1, none), [(a, .dic kvs)]⟩ h
    | _ => none
  | _ => none
mutual
def evE (Γ : Gam) (cur : Option (Nat × Nat)) (t : Bool) : ME → St → IH → EV V
  | .var i, σ, h => bnd (slotV σ i h) (fin t)
  | .glb g, _, h => bnd (optV (Γ.glob g) h) (fin t)
  | .cst v, _, h => fin t v h
  | .lst es, σ, h => bnd (bnd (evA Γ cur es σ h) listV) (fin t)
  | .tup es, σ, h => bnd (bnd (evA Γ cur es σ h) tupV) (fin t)
  | .bin op a b, σ, h => bnd (bnd (evE Γ cur false a σ h) fun x h1 => bnd (evE Γ cur false b σ h1) fun y h2 => binop op x y h2) (fin t)
  | .neg a, σ, h => bnd (bnd (evE Γ cur false a σ h) negV) (fin t)
  | .cmp op a b, σ, h => bnd (bnd (evE Γ cur false a σ h) fun x h1 => bnd (evE Γ cur false b σ h1) fun y h2 => cmpop op x y h2) (fin t)
  | .cmp2 op op' a b c, σ, h => bnd (evE Γ cur false a σ h) fun x h1 => bnd (evE Γ cur false b σ h1) fun y h2 => bnd (cmpop op x y h2) fun z h3 => match z with
    | .bl true => bnd (evE Γ cur false c σ h3) fun w h4 => bnd (cmpop op' y w h4) (fin t)
    | .bl false => ret (.bl false) h3
    | _ => none
  | .andE a b, σ, h => bnd (evE Γ cur t a σ h) fun x h1 => match x with
    | .bl true => evE Γ cur t b σ h1
    | .bl false => ret (.bl false) h1
    | _ => none
  | .orE a b, σ, h => bnd (evE Γ cur t a σ h) fun x h1 => match x with
    | .bl false => evE Γ cur t b σ h1
    | .bl true => ret (.bl true) h1
    | _ => none
  | .notE a, σ, h => bnd (evE Γ cur t a σ h) notV
  | .ife c a b, σ, h => bnd (evE Γ cur true c σ h) fun k h1 => match k with
    | .bl true => bnd (evE Γ cur false a σ h1) (fin t)
    | .bl false => bnd (evE Γ cur false b σ h1) (fin t)
    | _ => none
  | .ix a b, σ, h => bnd (bnd (evE Γ cur false a σ h) fun x h1 => bnd (evE Γ cur false b σ h1) fun y h2 => getix x y h2) (fin t)
  | .sl a lo hi, σ, h => bnd (bnd (evE Γ cur false a σ h) fun x h1 => bnd (evO Γ cur lo σ h1) fun l h2 => bnd (evO Γ cur hi σ h2) fun r h3 => getsl x l r h3) (fin t)
  | .att a f, σ, h => bnd (bnd (evE Γ cur false a σ h) (attV Γ f)) (fin t)
  | .call f es, σ, h => bnd (bnd (evA Γ cur es σ h) fun vs h1 => Γ.call f vs h1) (fin t)
  | .make C es, σ, h => bnd (bnd (evA Γ cur es σ h) (makeV Γ C)) (fin t)
  | .met o m es, σ, h => bnd (bnd (evE Γ cur false o σ h) fun x h1 => match methF Γ m x h1 with
    | some f => bnd (evA Γ cur es σ h1) fun vs h2 => Γ.call f (x :: vs) h2
    | none => none) (fin t)
  | .clm C m es, σ, h => bnd (match Γ.cmeth C m, Γ.clsAt C with
    | some (f, true), some c => bnd (evA Γ cur es σ h) fun vs h1 => Γ.call f (.ref c :: vs) h1
    | some (f, false), _ => bnd (evA Γ cur es σ h) fun vs h1 => Γ.call f vs h1
    | _, _ => none) (fin t)
  | .callv i es, σ, h => bnd (bnd (slotV σ i h) fun x h0 => match calV Γ x h0 with
    | some c => bnd (evA Γ cur es σ h0) (runCal Γ c)
    | none => none) (fin t)
  | .bi b es, σ, h => bnd (bnd (evA Γ cur es σ h) (bifn b)) (fin t)
  | .bm m o es, σ, h => bnd (bnd (evE Γ cur false o σ h) fun x h1 => if bmTy m x h1 = true then bnd (evA Γ cur es σ h1) fun vs h2 => bmeth m x vs h2 else none) (fin t)
  | .isI a ty, σ, h => bnd (evE Γ cur false a σ h) (tyV Γ [ty])
  | .isIs a ts, σ, h => bnd (evE Γ cur false a σ h) (tyV Γ ts)
  | .lc ws elt tg it c, σ, h => bnd (bnd (evI Γ cur it σ h) fun is h1 =>
      bndN (loopC (turnC tg ws σ (evC Γ c) (evE Γ none false elt)) is.gd is.xs h1) listV) (fin t)
  | .curF f, _, h => bnd (curV Γ cur f h) (fin t)
  | .curI D, _, h => curIV Γ cur (fun C => Γ.sub C D) h
  | .curB D, _, h => curIV Γ cur (fun C => Γ.subB C D) h
  | .dct kvs, _, h => bnd (new (.dic (mergeK [] kvs)) h) (fin t)
  | .dn d a b, σ, h => bnd (bnd (evE Γ cur false a σ h) fun x h1 => bnd (evE Γ cur false b σ h1) fun y h2 => dnV Γ d x y h2) (fin t)
  | .dn1 d a, σ, h => bnd (bnd (evE Γ cur false a σ h) (dn1V Γ d)) (fin t)
  | .con C f, _, h => bnd (optV (Γ.con C f) h) (fin t)
  | .lzip a b, σ, h => bnd (bnd (evE Γ cur false a σ h) fun x h1 => bnd (evE Γ cur false b σ h1) fun y h2 => lzipV x y h2) (fin t)
  | .slr a, σ, h => bnd (bnd (evE Γ cur false a σ h) slrV) (fin t)
  | .fs es, σ, h => bnd (bnd (evA Γ cur es σ h) fsV) (fin t)
  | .isC a C, σ, h => bnd (evE Γ cur false a σ h) fun x h1 => match isCV Γ C h1 x with
    | some b => ret (.bl b) h1
    | none => none
  | .dix a b, σ, h => bnd (bnd (evE Γ cur false a σ h) fun x h1 => bnd (evE Γ cur false b σ h1) fun y h2 => dixV x y h2) (fin t)
  | .mkx C e, σ, h => bnd (bnd (evE Γ cur false e σ h) (mkxV Γ C)) (fin t)
  | .isE a D, σ, h => bnd (evE Γ cur false a σ h) (isEV Γ fun C => Γ.sub C D)
  | .isX a b, σ, h => bnd (evE Γ cur false a σ h) (isEV Γ fun C => Γ.subB C b)
  | .inK a b, σ, h => bnd (evE Γ cur false a σ h) fun x h1 => bnd (evE Γ cur false b σ h1) fun y h2 => inKV x y h2
def evA (Γ : Gam) (cur : Option (Nat × Nat)) : MA → St → IH → EV (List V)
  | .nil, _, h => ret [] h
  | .cons e r, σ, h => bnd (evE Γ cur false e σ h) fun v h1 => bnd (evA Γ cur r σ h1) fun vs h2 => ret (v :: vs) h2
def evO (Γ : Gam) (cur : Option (Nat × Nat)) : MO → St → IH → EV (Option Int)
  | .none, _, h => ret none h
  | .some e, σ, h => bnd (evE Γ cur false e σ h) (oneInt none)
def evC (Γ : Gam) : MO → St → IH → EV V
  | .none, _, h => ret (.bl true) h
  | .some e, σ, h => evE Γ none true e σ h
def evI (Γ : Gam) (cur : Option (Nat × Nat)) : MI → St → IH → EV Its
  | .ev e, σ, h => bnd (evE Γ cur false e σ h) evV
  | .rng1 a, σ, h => bnd (evE Γ cur false a σ h) rng1V
  | .rng2 a b, σ, h => bnd (evE Γ cur false a σ h) fun v h1 => bnd (evE Γ cur false b σ h1) fun w h2 => rng2V v w h2
  | .enum e, σ, h => bnd (evE Γ cur false e σ h) enumV
  | .zip a b, σ, h => bnd (evE Γ cur false a σ h) fun v h1 => bnd (evE Γ cur false b σ h1) fun w h2 => zipV v w h2
  | .items _, _, _ => none
  | .vals _, _, _ => none
  | .keys e, σ, h => bnd (evE Γ cur false e σ h) keysV
end

/-! ### statements -/
inductive Fl | nx (σ : St) | rt (v : V) | bk (σ : St) | ct (σ : St)
inductive OutS | ok (f : Fl) (h : IH) | ex (C d : Nat) (σ : St) (h : IH)
abbrev ES := Option OutS
/-- an expression within a statement -/
def bE {α : Type} (σ : St) : EV α → (α → IH → ES) → ES
  | some (.val a h), k => k a h
  | some (.exn C d h), _ => some (.ex C d σ h)
  | none, _ => none
/-- one statement, then the next -/
def bS : ES → (St → IH → ES) → ES
  | some (.ok (.nx σ) h), k => k σ h
  | r, _ => r
def nxt (σ : Option St) (h : IH) : ES := σ.map fun σ => .ok (.nx σ) h
def loopW (c : St → IH → EV V) (b : St → IH → ES) : Nat → St → IH → ES
  | 0, _, _ => none
  | n + 1, σ, h => bE σ (c σ h) fun k h1 => match k with
    | .bl true => (match b σ h1 with
      | some (.ok (.nx σ2) h2) => loopW c b n σ2 h2
      | some (.ok (.ct σ2) h2) => loopW c b n σ2 h2
      | some (.ok (.bk σ2) h2) => some (.ok (.nx σ2) h2)
      | r => r)
    | .bl false => some (.ok (.nx σ) h1)
    | _ => none
def loopF (tg : MT) (b : St → IH → ES) (gd : List (Nat × IO)) : List (V × Option V) → St → IH → ES
  | [], σ, h => if okG h gd then some (.ok (.nx σ) h) else none
  | x :: r, σ, h => if okG h gd then (match asgX tg x σ h with
    | some σ1 => (match b σ1 h with
      | some (.ok (.nx σ2) h2) => loopF tg b gd r σ2 h2
      | some (.ok (.ct σ2) h2) => loopF tg b gd r σ2 h2
      | some (.ok (.bk σ2) h2) => some (.ok (.nx σ2) h2)
      | r => r)
    | none => none) else none
def setA (Γ : Gam) (o : V) (f : Nat) (v : V) (σ : St) (h : IH) : ES := match o with
  | .ref p => match h[p]? with
    | some (.ins C fs) => if fs.length < 1000 ∧ Γ.isF C f = true then some (.ok (.nx σ) (h.set p (.ins C (putI f v fs)))) else none
    | _ => none
  | _ => none
def setS (o k v : V) (σ : St) (h : IH) : ES := match o, k with
  | .ref p, .int i => match h[p]? with
    | some (.lst xs) => (match ixN xs.length i with
      | some j => some (.ok (.nx σ) (h.set p (.lst (xs.set j v))))
      | none => none)
    | _ => none
  | _, _ => none
def inpl (op : Operator) (x y : V) (h : IH) : EV V := match op, x, y with
  | .Add, .int i, .int j => ret (.int (i + j)) h
  | .Sub, .int i, .int j => ret (.int (i - j)) h
  | .Mult, .int i, .int j => if mulOk i j then ret (.int (i * j)) h else none
  | .FloorDiv, .int i, .int j => if divOk j then ret (.int (i / j)) h else none
  | .Add, .str s, .str t => if s.length + t.length ≤ sizeLine then ret (.str (s ++ t)) h else none
  | _, _, _ => none
def raisV (Γ : Gam) (C : Nat) (σ : St) (v : V) (h : IH) : ES := match Γ.exf C with
  | some f => some (.ex C h.length σ (h ++ [.xd f v]))
  | none => none
def orX : ES → (Nat → Nat → St → IH → ES) → ES
  | some (.ex C d σ1 h1), k => k C d σ1 h1
  | r, _ => r
/-- a clause's name is forgotten behind it -/
def unN (i : Nat) : ES → ES
  | some (.ok (.nx σ2) h2) => some (.ok (.nx (σ2.set i none)) h2)
  | some (.ok (.bk σ2) h2) => some (.ok (.bk (σ2.set i none)) h2)
  | some (.ok (.ct σ2) h2) => some (.ok (.ct (σ2.set i none)) h2)
  | some (.ok (.rt v) h2) => some (.ok (.rt v) h2)
  | _ => none
def setAll : List Nat → List V → St → Option St
  | [], [], σ => some σ
  | w :: ws, v :: vs, σ => setAll ws vs (σ.set w (some v))
  | _, _, _ => none
def unpV (ws : List Nat) (v : V) (σ : St) (h : IH) : ES := match v with
  | .str s => if s.length ≤ sizeLine then nxt (setAll ws (s.cps.toList.map fun c => V.str ⟨#[c]⟩) σ) h else none
  | _ => none
mutual
def evS (Γ : Gam) (N : Nat) (cur : Option (Nat × Nat)) : MS → St → IH → ES
  | .asg tg e, σ, h => bE σ (evE Γ cur false e σ h) fun v h1 => nxt (asgT tg v σ h1) h1
  | .par tg es, σ, h => bE σ (evA Γ cur es σ h) fun vs h1 => match tg with
    | .tup ts => nxt (asgTs ts vs σ h1) h1
    | _ => none
  | .asgA o f e, σ, h => bE σ (evE Γ cur false e σ h) fun v h1 => bE σ (evE Γ cur false o σ h1) fun p h2 => setA Γ p f v σ h2
  | .asgS o k e, σ, h => bE σ (evE Γ cur false e σ h) fun v h1 => bE σ (evE Γ cur false o σ h1) fun p h2 => bE σ (evE Γ cur false k σ h2) fun i h3 => setS p i v σ h3
  | .aug op i e, σ, h => bE σ (slotV σ i h) fun x h0 => bE σ (evE Γ cur false e σ h0) fun v h1 => bE σ (inpl op x v h1) fun z h2 => some (.ok (.nx (σ.set i (some z))) h2)
  | .augA op o f e, σ, h => none
  | .ex e, σ, h => bE σ (evE Γ cur false e σ h) fun _ h1 => some (.ok (.nx σ) h1)
  | .ret e, σ, h => bE σ (evE Γ cur false e σ h) fun v h1 => some (.ok (.rt v) h1)
  | .retN, _, h => some (.ok (.rt .non) h)
  | .ifS c a b, σ, h => bE σ (evE Γ cur true c σ h) fun k h1 => match k with
    | .bl true => evB Γ N cur a σ h1
    | .bl false => evB Γ N cur b σ h1
    | _ => none
  | .whl c b, σ, h => loopW (evE Γ cur true c) (evB Γ N cur b) N σ h
  | .forS tg it b, σ, h => bE σ (evI Γ cur it σ h) fun is h1 => loopF tg (evB Γ N cur b) is.gd is.xs σ h1
  | .rais C e, σ, h => bE σ (evE Γ cur false e σ h) (raisV Γ C σ)
  | .tryS b hs, σ, h => orX (evB Γ N cur b σ h) fun C d σ1 h1 => evH Γ N C d hs σ1 h1
  | .pss, σ, h => some (.ok (.nx σ) h)
  | .fail, _, _ => none
  | .unpS ws e, σ, h => bE σ (evE Γ cur false e σ h) fun v h1 => unpV ws v σ h1
  | .brk, σ, h => some (.ok (.bk σ) h)
  | .cnt, σ, h => some (.ok (.ct σ) h)
def evB (Γ : Gam) (N : Nat) (cur : Option (Nat × Nat)) : MB → St → IH → ES
  | .nil, σ, h => some (.ok (.nx σ) h)
  | .cons s r, σ, h => bS (evS Γ N cur s σ h) fun σ1 h1 => evB Γ N cur r σ1 h1
/-- the clauses; a named one forgets its name behind it -/
def evH (Γ : Gam) (N : Nat) (C d : Nat) : MH → St → IH → ES
  | .nil, σ, h => some (.ex C d σ h)
  | .cons D nm b r, σ, h => if (Γ.exf C).isSome then (if Γ.sub C D then (match nm with
      | none => evB Γ N (some (C, d)) b σ h
      | some i => if i < σ.length then unN i (evB Γ N (some (C, d)) b (σ.set i none) h) else none) else evH Γ N C d r σ h) else none
end
/-- a def of the text -/
structure FD where
  np : Nat
  ns : Nat
  body : MB
def retOf : ES → EV V
  | some (.ok (.rt v) h) => ret v h
  | some (.ok (.nx _) h) => ret .non h
  | some (.ex C d _ h) => some (.exn C d h)
  | _ => none
/-- calls, k deep -/
def callN (G : (Nat → List V → IH → EV V) → Gam) (T : Nat → Option FD) (N : Nat) : Nat → Nat → List V → IH → EV V
  | 0, _, _, _ => none
  | k + 1, f, vs, h => match T f with
    | some d => if vs.length = d.np then retOf (evB (G (callN G T N k)) N none d.body (vs.map some ++ List.replicate (d.ns - d.np) none) h) else none
    | none => none
end MP
end
section
set_option Elab.async false
set_option linter.all false
set_option maxHeartbeats 400000
namespace MP
open PySem L2

/-! ### relations -/
/-- what the text's facts say, apart from the bodies -/
structure Stat where
  K : PySem.W.Frag
  mg : Str → Option Value
  cls : Nat → Addr
  fld : Nat → Str
  M : Nat
  fok : ∀ i j, i < M → j < M → fld i = fld j → i = j
  pre : List Addr
  /-- what others hold here -/
  fr : Hp
def Stat.wf (G : Stat) (F : Hp) : Stat := { G with fr := F }

def RV (μ : List Addr) : V → V → Prop
  | .ref a, v' => ∃ b, μ[a]? = some b ∧ v' = .ref b
  | v, v' => v' = v
abbrev RVs (μ : List Addr) : List V → List V → Prop := Paired (RV μ)
def RO (μ : List Addr) : Option V → Option V → Prop
  | some v, some v' => RV μ v v'
  | none, _ => True
  | _, _ => False
abbrev RS (μ : List Addr) : St → St → Prop := Paired (RO μ)
abbrev RKV (μ : List Addr) : List (Key × V) → List (Key × V) → Prop := Paired fun p q => q.1 = p.1 ∧ RV μ p.2 q.2
abbrev RF (G : Stat) (μ : List Addr) : List (Nat × V) → List (Str × V) → Prop := Paired fun p q => p.1 < G.M ∧ q.1 = G.fld p.1 ∧ RV μ p.2 q.2

theorem pre_get {μ μ' : List Addr} (p : μ <+: μ') {a b : Nat} (h : μ[a]? = some b) : μ'[a]? = some b := by
  obtain ⟨r, rfl⟩ := p
  obtain ⟨h1, h2⟩ := List.getElem?_eq_some_iff.mp h
  rw [List.getElem?_append_left h1]
  exact h
theorem RV.mono {μ μ' : List Addr} (p : μ <+: μ') : ∀ {v v' : V}, RV μ v v' → RV μ' v v'
  | .ref a, v', h => by
    obtain ⟨b, h1, h2⟩ := h
    exact ⟨b, pre_get p h1, h2⟩
  | .non, _, h => h
  | .bl _, _, h => h
  | .int _, _, h => h
  | .str _, _, h => h
  | .byt _, _, h => h
  | .flt _, _, h => h
  | .ty _, _, h => h
theorem RVs.mono {μ μ' : List Addr} (p : μ <+: μ') {xs ys : List V} (h : RVs μ xs ys) : RVs μ' xs ys := Paired.mapP h fun _ _ q => q.mono p
theorem RO.mono {μ μ' : List Addr} (p : μ <+: μ') : ∀ {o o' : Option V}, RO μ o o' → RO μ' o o'
  | some _, some _, h => RV.mono p h
  | none, none, _ => trivial
  | some _, none, h => h.elim
  | none, some _, _ => trivial
theorem RS.mono {μ μ' : List Addr} (p : μ <+: μ') {σ τ : St} (h : RS μ σ τ) : RS μ' σ τ := Paired.mapP h fun _ _ q => q.mono p
theorem RKV.mono {μ μ' : List Addr} (p : μ <+: μ') {xs ys : List (Key × V)} (h : RKV μ xs ys) : RKV μ' xs ys := Paired.mapP h fun _ _ q => ⟨q.1, q.2.mono p⟩
theorem RF.mono {G : Stat} {μ μ' : List Addr} (p : μ <+: μ') {xs : List (Nat × V)} {ys : List (Str × V)} (h : RF G μ xs ys) : RF G μ' xs ys := Paired.mapP h fun _ _ q => ⟨q.1, q.2.1, q.2.2.mono p⟩

/-- an exception object of the class at C, its dict at d -/
def ExoO (C d b : Addr) : HO := .ext fun h => ∃ (oe : Obj) (vs : Array Value), h.get? b = some oe ∧ oe.cls = .ref C ∧ oe.dict = some d ∧ oe.data = .fields vs
theorem exoO_ok {P : Program} {w : World} {H : Hp} {h : Heap} {b C d : Addr} {oe : Obj} {vs : Array Value} (e : h.get? b = some oe) (c : oe.cls = .ref C) (q : oe.dict = some d) (f : oe.data = .fields vs) : ObjOk P w H h b (ExoO C d b) :=
  ⟨⟨oe, vs, e, c, q, f⟩, ⟨oe, e⟩, fun _ _ ⟨o, v, z, r⟩ k => ⟨o, v, k o z, r⟩⟩
/-- an object of the interpreter's heap stands at b -/
def ObjS (G : Stat) (μ : List Addr) (H : Hp) (b : Addr) : IO → Prop
  | .lst xs => ∃ ys, RVs μ xs ys ∧ H b = some (.lst ys)
  | .flst xs => ∃ ys, RVs μ xs ys ∧ ((∃ o, H b = some (.frz o (.lst ys))) ∨ ((∀ H' : Hp, SqL G.K H' b ys)))
  | .tup xs k => ∃ ys, RVs μ xs ys ∧ ((Rd H b (.tup ys) ∧ k = false) ∨ ((∀ H' : Hp, SqT G.K H' b ys) ∧ (k = true → ∀ H' : Hp, L2.tyV G.K "tuple" (.ref b) H')))
  | .dic kvs => ∃ ks, RKV μ kvs ks ∧ H b = some (.dK ks)
  | .ins C fs => ∃ dx gs, RF G μ fs gs ∧ H b = some (.ins (G.cls C) dx gs)
  | .xd f v => f < G.M ∧ ∃ v', RV μ v v' ∧ H b = some (.xd [(G.fld f, v')])
  | .cls C => b = G.cls C
  | .exo C d => ∃ d', μ[d]? = some d' ∧ H b = some (ExoO (G.cls C) d' b)
def mutb : IO → Bool
  | .lst _ => true
  | .dic _ => true
  | .ins _ _ => true
  | _ => false
structure Sim (G : Stat) (μ : List Addr) (h : IH) (H : Hp) : Prop where
  len : h.length = μ.length
  obj : ∀ (a : Nat) (o : IO) (b : Addr), h[a]? = some o → μ[a]? = some b → ObjS G μ H b o
  inj : ∀ (a a' : Nat) (b : Addr) (o o' : IO), h[a]? = some o → h[a']? = some o' → μ[a]? = some b → μ[a']? = some b → mutb o = true → mutb o' = true → a = a'
  pre : G.pre <+: μ
  frm : ∀ b o, G.fr b = some o → H b = some o
  fro : ∀ (a : Nat) (o : IO) (b : Addr), h[a]? = some o → μ[a]? = some b → mutb o = true → G.fr b = none
theorem Sim.addr {G : Stat} {μ : List Addr} {h : IH} {H : Hp} (S : Sim G μ h H) {a : Nat} {o : IO} (e : h[a]? = some o) : ∃ b, μ[a]? = some b ∧ ObjS G μ H b o := by
  obtain ⟨h1, _⟩ := List.getElem?_eq_some_iff.mp e
  have h2 : a < μ.length := by rw [← S.len]; exact h1
  exact ⟨μ[a], List.getElem?_eq_getElem h2, S.obj a o _ e (List.getElem?_eq_getElem h2)⟩
theorem ObjS.mono {G : Stat} {μ μ' : List Addr} (p : μ <+: μ') {H : Hp} {b : Addr} : ∀ {o : IO}, ObjS G μ H b o → ObjS G μ' H b o
  | .lst _, ⟨ys, r, e⟩ => ⟨ys, r.mono p, e⟩
  | .flst _, ⟨ys, r, e⟩ => ⟨ys, r.mono p, e⟩
  | .tup _ _, ⟨ys, r, e⟩ => ⟨ys, r.mono p, e⟩
  | .dic _, ⟨ys, r, e⟩ => ⟨ys, r.mono p, e⟩
  | .ins _ _, ⟨dx, ys, r, e⟩ => ⟨dx, ys, r.mono p, e⟩
  | .xd _ _, ⟨k, v, r, e⟩ => ⟨k, v, r.mono p, e⟩
  | .cls _, e => e
  | .exo _ _, ⟨d', m, e⟩ => ⟨d', pre_get p m, e⟩
/-- what is laid at a free place, or written over an unlike thing, leaves it -/
theorem ObjS.keep {G : Stat} {μ : List Addr} {H : Hp} {b p : Addr} {u : HO} : ∀ {o : IO}, ObjS G μ H b o → (∀ w, H b = some w → b ≠ p ∨ False) → ObjS G μ (upd H p u) b o
  | .lst _, ⟨ys, r, e⟩, n => ⟨ys, r, by rw [upd_ne ((n _ e).elim id False.elim)]; exact e⟩
  | .flst _, ⟨ys, r, e⟩, n => ⟨ys, r, e.imp (fun ⟨o, e⟩ => ⟨o, by rw [upd_ne ((n _ e).elim id False.elim)]; exact e⟩) id⟩
  | .tup _ _, ⟨ys, r, e⟩, n => ⟨ys, r, e.imp (fun ⟨e, z⟩ => ⟨by
      rcases e with e | ⟨o, e⟩
      · exact .inl (by rw [upd_ne ((n _ e).elim id False.elim)]; exact e)
      · exact .inr ⟨o, by rw [upd_ne ((n _ e).elim id False.elim)]; exact e⟩, z⟩) id⟩
  | .dic _, ⟨ys, r, e⟩, n => ⟨ys, r, by rw [upd_ne ((n _ e).elim id False.elim)]; exact e⟩
  | .ins _ _, ⟨dx, ys, r, e⟩, n => ⟨dx, ys, r, by rw [upd_ne ((n _ e).elim id False.elim)]; exact e⟩
  | .xd _ _, ⟨k, v, r, e⟩, n => ⟨k, v, r, by rw [upd_ne ((n _ e).elim id False.elim)]; exact e⟩
  | .cls _, e, _ => e
  | .exo _ _, ⟨d', m, e⟩, n => ⟨d', m, by rw [upd_ne ((n _ e).elim id False.elim)]; exact e⟩
theorem ObjS.mutAt {G : Stat} {μ : List Addr} {H : Hp} {b : Addr} {o : IO} (x : ObjS G μ H b o) (m : mutb o = true) : ∃ w, H b = some w := by
  cases o with
  | lst xs => obtain ⟨_, _, e⟩ := x; exact ⟨_, e⟩
  | dic xs => obtain ⟨_, _, e⟩ := x; exact ⟨_, e⟩
  | ins C fs => obtain ⟨_, _, _, e⟩ := x; exact ⟨_, e⟩
  | flst _ => cases m
  | tup _ _ => cases m
  | xd _ _ => cases m
  | cls _ => cases m
  | exo _ _ => cases m
theorem len_pre {μ : List Addr} {p : Addr} : μ <+: μ ++ [p] := List.prefix_append _ _
/-- a new object -/
theorem Sim.alloc {G : Stat} {μ : List Addr} {h : IH} {H : Hp} (S : Sim G μ h H) {p : Addr} {u : HO} {o : IO} (hp : H p = none) (ho : ObjS G (μ ++ [p]) (upd H p u) p o) : Sim G (μ ++ [p]) (h ++ [o]) (upd H p u) := by
  have old : ∀ {a : Nat} {o' : IO}, (h ++ [o])[a]? = some o' → (a < h.length ∧ h[a]? = some o') ∨ (a = h.length ∧ o' = o) := fun {a o'} e => by
    by_cases ha : a < h.length
    · rw [List.getElem?_append_left ha] at e
      exact .inl ⟨ha, e⟩
    · rw [List.getElem?_append_right (by omega)] at e
      have e0 : a - h.length = 0 := by
        obtain ⟨h1, _⟩ := List.getElem?_eq_some_iff.mp e
        simpa using h1
      rw [e0] at e
      simp at e
      exact .inr ⟨by omega, e.symm⟩
  have oldM : ∀ {a b : Nat}, a < h.length → (μ ++ [p])[a]? = some b → μ[a]? = some b := fun {a b} ha e => by
    rwa [List.getElem?_append_left (by rw [← S.len]; exact ha)] at e
  have newM : ∀ {b : Nat}, (μ ++ [p])[h.length]? = some b → b = p := fun {b} e => by
    rw [S.len, List.getElem?_append_right (Nat.le_refl _)] at e
    simp at e
    exact e.symm
  refine ⟨by simp [S.len], fun a o' b e1 e2 => ?_, fun a a' b o1 o2 e1 e2 e3 e4 m1 m2 => ?_, S.pre.trans len_pre, fun b o e => ?_, fun a o' b e1 e2 m => ?_⟩
  · rcases old e1 with ⟨ha, e⟩ | ⟨rfl, rfl⟩
    · have q := S.obj a o' b e (oldM ha e2)
      refine (ObjS.keep q fun w z => .inl ?_).mono len_pre
      rintro rfl
      rw [hp] at z; cases z
    · have e := newM e2
      subst e
      exact ho
  · rcases old e1 with ⟨ha, e⟩ | ⟨rfl, rfl⟩
    · rcases old e2 with ⟨ha', e'⟩ | ⟨rfl, rfl⟩
      · exact S.inj a a' b o1 o2 e e' (oldM ha e3) (oldM ha' e4) m1 m2
      · have eb := newM e4
        obtain ⟨w, z⟩ := ObjS.mutAt (S.obj a o1 b e (oldM ha e3)) m1
        rw [eb, hp] at z; cases z
    · rcases old e2 with ⟨ha', e'⟩ | ⟨rfl, rfl⟩
      · have eb := newM e3
        obtain ⟨w, z⟩ := ObjS.mutAt (S.obj a' o2 b e' (oldM ha' e4)) m2
        rw [eb, hp] at z; cases z
      · rfl
  · have q := S.frm b o e
    rw [upd_ne (fun z => by rw [z, hp] at q; cases q)]
    exact q
  · rcases old e1 with ⟨ha, e⟩ | ⟨rfl, rfl⟩
    · exact S.fro a o' b e (oldM ha e2) m
    · have eb := newM e2
      subst eb
      cases ef : G.fr b with
      | none => rfl
      | some o2 =>
        have q := S.frm b o2 ef
        rw [hp] at q; cases q
/-- an object is written -/
theorem Sim.write {G : Stat} {μ : List Addr} {h : IH} {H : Hp} (S : Sim G μ h H) {a b : Nat} {o o' : IO} {u : HO} (e : h[a]? = some o) (eb : μ[a]? = some b) (m : mutb o = true) (m' : mutb o' = true) (ho : ObjS G μ (upd H b u) b o') : Sim G μ (h.set a o') (upd H b u) := by
  have hl : a < h.length := (List.getElem?_eq_some_iff.mp e).1
  have old : ∀ {c : Nat} {w : IO}, (h.set a o')[c]? = some w → (c = a ∧ w = o') ∨ (c ≠ a ∧ h[c]? = some w) := fun {c w} q => by
    by_cases hc : c = a
    · subst hc
      rw [List.getElem?_set_self hl] at q
      exact .inl ⟨rfl, (Option.some.inj q).symm⟩
    · rw [List.getElem?_set_ne (Ne.symm hc)] at q
      exact .inr ⟨hc, q⟩
  have hm := ObjS.mutAt (S.obj a o b e eb) m
  refine ⟨by simp [S.len], fun c w d q1 q2 => ?_, fun c c' d o1 o2 q1 q2 q3 q4 m1 m2 => ?_, S.pre, fun c w q => ?_, fun c w d q1 q2 mw => ?_⟩
  · rcases old q1 with ⟨rfl, rfl⟩ | ⟨hc, q⟩
    · rw [eb] at q2; cases q2
      exact ho
    · have z := S.obj c w d q q2
      by_cases hd : d = b
      · subst hd
        -- c stands at the same place: it is nothing that may be written
        have nm : mutb w = false := by
          cases hw : mutb w with
          | false => rfl
          | true => exact absurd (S.inj c a d w o q e q2 eb hw m) hc
        have un : ∀ v, H d = some v → (∃ x, v = .lst x) ∨ (∃ x, v = .dK x) ∨ ∃ C dx x, v = .ins C dx x := fun v hv => by
          have so := S.obj a o d e eb
          cases o with
          | lst xs => obtain ⟨ys, _, q⟩ := so; rw [hv] at q; exact .inl ⟨_, Option.some.inj q⟩
          | dic xs => obtain ⟨ys, _, q⟩ := so; rw [hv] at q; exact .inr (.inl ⟨_, Option.some.inj q⟩)
          | ins C fs => obtain ⟨dx, ys, _, q⟩ := so; rw [hv] at q; exact .inr (.inr ⟨_, _, _, Option.some.inj q⟩)
          | flst _ => cases m
          | tup _ _ => cases m
          | xd _ _ => cases m
          | cls _ => cases m
          | exo _ _ => cases m
        cases w with
        | lst _ => cases nm
        | dic _ => cases nm
        | ins _ _ => cases nm
        | flst xs =>
          obtain ⟨ys, r, q⟩ := z
          refine ⟨ys, r, .inr ?_⟩
          rcases q with ⟨ob, q⟩ | q
          · rcases un _ q with ⟨x, y⟩ | ⟨x, y⟩ | ⟨_, _, x, y⟩ <;> cases y
          · exact q
        | tup xs k =>
          obtain ⟨ys, r, q⟩ := z
          refine ⟨ys, r, .inr ?_⟩
          rcases q with ⟨q | ⟨ob, q⟩, _⟩ | q
          · rcases un _ q with ⟨x, y⟩ | ⟨x, y⟩ | ⟨_, _, x, y⟩ <;> cases y
          · rcases un _ q with ⟨x, y⟩ | ⟨x, y⟩ | ⟨_, _, x, y⟩ <;> cases y
          · exact q
        | xd f v =>
          obtain ⟨_, v', _, q⟩ := z
          rcases un _ q with ⟨x, y⟩ | ⟨x, y⟩ | ⟨_, _, x, y⟩ <;> cases y
        | cls C => exact z
        | exo C d =>
          obtain ⟨d', _, q⟩ := z
          rcases un _ q with ⟨x, y⟩ | ⟨x, y⟩ | ⟨_, _, x, y⟩ <;> cases y
      · exact ObjS.keep z fun _ _ => .inl hd
  · have mo : ∀ {c : Nat} {w : IO}, (h.set a o')[c]? = some w → mutb w = true → ∃ w', h[c]? = some w' ∧ mutb w' = true := fun {c w} q mw => by
      rcases old q with ⟨rfl, rfl⟩ | ⟨_, q⟩
      · exact ⟨o, e, m⟩
      · exact ⟨w, q, mw⟩
    obtain ⟨w1, g1, n1⟩ := mo q1 m1
    obtain ⟨w2, g2, n2⟩ := mo q2 m2
    exact S.inj c c' d w1 w2 g1 g2 q3 q4 n1 n2
  · have nb := S.fro a o b e eb m
    rw [upd_ne (fun z => by rw [z, nb] at q; cases q)]
    exact S.frm c w q
  · rcases old q1 with ⟨rfl, rfl⟩ | ⟨_, q⟩
    · rw [eb] at q2; cases q2
      exact S.fro c o b e eb m
    · exact S.fro c w d q q2 mw
/-- what others hold changes -/
theorem Sim.refr {G : Stat} {μ : List Addr} {h : IH} {H : Hp} (S : Sim G μ h H) (F : Hp) (f1 : ∀ b o, F b = some o → H b = some o) (f2 : ∀ b, F b ≠ none → G.fr b ≠ none ∨ ∀ (a : Nat) (o : IO), h[a]? = some o → μ[a]? = some b → mutb o = true → False) : Sim (G.wf F) μ h H :=
  ⟨S.len, fun a o b e1 e2 => (by
    have q := S.obj a o b e1 e2
    cases o <;> exact q), S.inj, S.pre, f1, fun a o b e1 e2 m => by
    show F b = none
    cases e : F b with
    | none => rfl
    | some o2 =>
      rcases f2 b (by rw [e]; simp) with z | z
      · exact absurd (S.fro a o b e1 e2 m) z
      · exact (z a o e1 e2 m).elim⟩
/-- a held list is taken over -/
theorem Sim.adopt {G : Stat} {F : Hp} {μ : List Addr} {h : IH} {H : Hp} {p : Addr} {xs ys : List V} (S : Sim (G.wf (upd F p (.lst ys))) μ h H) (hF : F p = none) (r : RVs μ xs ys) : Sim (G.wf F) (μ ++ [p]) (h ++ [.lst xs]) H := by
  have hp : H p = some (.lst ys) := S.frm p _ (show upd F p (.lst ys) p = _ from upd_same)
  have np : ∀ (a : Nat) (o : IO), h[a]? = some o → μ[a]? = some p → mutb o = true → False := fun a o e1 e2 m => by
    have z : upd F p (.lst ys) p = none := S.fro a o p e1 e2 m
    rw [upd_same] at z; cases z
  have old : ∀ {a : Nat} {o' : IO}, (h ++ [IO.lst xs])[a]? = some o' → (a < h.length ∧ h[a]? = some o') ∨ (a = h.length ∧ o' = .lst xs) := fun {a o'} e => by
    by_cases ha : a < h.length
    · rw [List.getElem?_append_left ha] at e
      exact .inl ⟨ha, e⟩
    · rw [List.getElem?_append_right (by omega)] at e
      have e0 : a - h.length = 0 := by
        obtain ⟨h1, _⟩ := List.getElem?_eq_some_iff.mp e
        simpa using h1
      rw [e0] at e
      simp at e
      exact .inr ⟨by omega, e.symm⟩
  have oldM : ∀ {a b : Nat}, a < h.length → (μ ++ [p])[a]? = some b → μ[a]? = some b := fun {a b} ha e => by
    rwa [List.getElem?_append_left (by rw [← S.len]; exact ha)] at e
  have newM : ∀ {b : Nat}, (μ ++ [p])[h.length]? = some b → b = p := fun {b} e => by
    rw [S.len, List.getElem?_append_right (Nat.le_refl _)] at e
    simp at e
    exact e.symm
  refine ⟨by simp [S.len], fun a o' b e1 e2 => ?_, fun a a' b o1 o2 e1 e2 e3 e4 m1 m2 => ?_, List.IsPrefix.trans S.pre len_pre, fun b o e => ?_, fun a o' b e1 e2 m => ?_⟩
  · rcases old e1 with ⟨ha, e⟩ | ⟨rfl, rfl⟩
    · have q := (S.obj a o' b e (oldM ha e2)).mono (μ' := μ ++ [p]) len_pre
      cases o' <;> exact q
    · have e := newM e2
      subst e
      exact ⟨ys, r.mono len_pre, hp⟩
  · rcases old e1 with ⟨ha, e⟩ | ⟨rfl, rfl⟩
    · rcases old e2 with ⟨ha', e'⟩ | ⟨rfl, rfl⟩
      · exact S.inj a a' b o1 o2 e e' (oldM ha e3) (oldM ha' e4) m1 m2
      · have eb := newM e4
        subst eb
        exact (np a o1 e (oldM ha e3) m1).elim
    · rcases old e2 with ⟨ha', e'⟩ | ⟨rfl, rfl⟩
      · have eb := newM e3
        subst eb
        exact (np a' o2 e' (oldM ha' e4) m2).elim
      · rfl
  · have e : F b = some o := e
    refine S.frm b o ?_
    show upd F p (.lst ys) b = some o
    rw [upd_ne (fun z => by rw [z, hF] at e; cases e)]
    exact e
  · show F b = none
    rcases old e1 with ⟨ha, e⟩ | ⟨rfl, rfl⟩
    · have z : upd F p (.lst ys) b = none := S.fro a o' b e (oldM ha e2) m
      by_cases hb : b = p
      · rw [hb, upd_same] at z; cases z
      · rw [upd_ne hb] at z; exact z
    · rw [newM e2]; exact hF
end MP
end
section
set_option Elab.async false
set_option linter.all false
set_option maxHeartbeats 400000
namespace MP
open PySem L2

/-- what is wanted of a run of the interpreter -/
def WP {α β : Type} (G : Stat) (W : WX) (τ : St) (rel : List Addr → α → β → Prop) (μ : List Addr) (r : EV α) (Q : β → Hp → Prop) : Prop :=
  match r with
  | some (.val v h) => ∀ μ' H' v', μ <+: μ' → Sim G μ' h H' → rel μ' v v' → Q v' H'
  | some (.exn C d h) => ∀ μ' H' d', μ <+: μ' → Sim G μ' h H' → μ'[d]? = some d' → W (.ref (G.cls C)) (some d') τ H'
  | none => False
section
variable {α β γ δ : Type} {G : Stat} {W : WX} {τ : St} {rel : List Addr → α → β → Prop} {rel2 : List Addr → γ → δ → Prop} {μ μ' : List Addr} {h : IH} {H : Hp}
theorem WP.mono {r : EV α} {Q : β → Hp → Prop} (w : WP G W τ rel μ r Q) (p : μ <+: μ') : WP G W τ rel μ' r Q := by
  cases r with
  | none => exact w
  | some o =>
    cases o with
    | val v h => exact fun m H v' q S r => w m H v' (p.trans q) S r
    | exn C d h => exact fun m H d' q S r => w m H d' (p.trans q) S r
theorem WP.imp {r : EV α} {Q Q' : β → Hp → Prop} (w : WP G W τ rel μ r Q) (f : ∀ b H, Q b H → Q' b H) : WP G W τ rel μ r Q' := by
  cases r with
  | none => exact w
  | some o =>
    cases o with
    | val v h => exact fun m H v' q S r => f _ _ (w m H v' q S r)
    | exn C d h => exact w
theorem WP.bnd {x : EV α} {k : α → IH → EV γ} {Q : δ → Hp → Prop} (w : WP G W τ rel2 μ (MP.bnd x k) Q) :
    WP G W τ rel μ x fun b H1 => ∃ μ1 a h1, μ <+: μ1 ∧ Sim G μ1 h1 H1 ∧ rel μ1 a b ∧ WP G W τ rel2 μ1 (k a h1) Q := by
  cases x with
  | none => exact w
  | some o =>
    cases o with
    | val v h => exact fun m H v' q S r => ⟨m, v, h, q, S, r, WP.mono w q⟩
    | exn C d h => exact w
theorem WP.val {v : α} {v' : β} {Q : β → Hp → Prop} (w : WP G W τ rel μ (ret v h) Q) (S : Sim G μ h H) (r : rel μ v v') : Q v' H := w μ H v' (List.prefix_refl _) S r
theorem WP.new {o : IO} {Q : V → Hp → Prop} (w : WP G W τ RV μ (MP.new o h) Q) (S : Sim G μ h H) {p : Addr} {u : HO} (hp : H p = none) (ho : ObjS G (μ ++ [p]) (upd H p u) p o) : Q (.ref p) (upd H p u) :=
  w (μ ++ [p]) _ _ len_pre (S.alloc hp ho) ⟨p, by rw [S.len, List.getElem?_append_right (Nat.le_refl _)]; simp, rfl⟩
end
theorem bnd_ret {α : Type} (x : EV α) : bnd x ret = x := by
  cases x with
  | none => rfl
  | some o => cases o <;> rfl
theorem bnd_fin (x : EV V) : bnd x (fin false) = x := bnd_ret x
/-! ### lists of one kind -/
theorem Paired.app {α β : Type} {F : α → β → Prop} : ∀ {l₁ l₂ : List α} {k₁ k₂ : List β}, Paired F l₁ k₁ → Paired F l₂ k₂ → Paired F (l₁ ++ l₂) (k₁ ++ k₂)
  | _, _, _, _, .nil, s => s
  | _, _, _, _, .cons r t, s => .cons r (Paired.app t s)
theorem Paired.getP {α β : Type} {F : α → β → Prop} : ∀ {xs : List α} {us : List β} {i : Nat} {x : α}, Paired F xs us → xs[i]? = some x → ∃ u, us[i]? = some u ∧ F x u
  | _, _, _, _, .nil, e => by simp at e
  | _, _, 0, _, .cons r _, e => by simp at e; subst e; exact ⟨_, rfl, r⟩
  | _, _, i + 1, x, .cons _ t, e => by
    obtain ⟨u, h1, h2⟩ := Paired.getP (i := i) (x := x) t (by simpa using e)
    exact ⟨u, by simpa using h1, h2⟩
theorem Paired.setP {α β : Type} {F : α → β → Prop} {x : α} {u : β} (r : F x u) : ∀ {xs : List α} {us : List β} (i : Nat), Paired F xs us → Paired F (xs.set i x) (us.set i u)
  | _, _, _, .nil => .nil
  | _, _, 0, .cons _ t => .cons r t
  | _, _, i + 1, .cons q t => .cons q (Paired.setP r i t)
theorem Paired.takeP {α β : Type} {F : α → β → Prop} : ∀ {xs : List α} {us : List β} (n : Nat), Paired F xs us → Paired F (xs.take n) (us.take n)
  | _, _, 0, _ => .nil
  | _, _, _ + 1, .nil => .nil
  | _, _, n + 1, .cons r t => .cons r (Paired.takeP n t)
theorem Paired.dropP {α β : Type} {F : α → β → Prop} : ∀ {xs : List α} {us : List β} (n : Nat), Paired F xs us → Paired F (xs.drop n) (us.drop n)
  | _, _, 0, r => r
  | _, _, _ + 1, .nil => .nil
  | _, _, n + 1, .cons _ t => Paired.dropP n t
theorem RVs.ints {μ : List Addr} : ∀ {xs ys : List V} {is : List Int}, intsOf xs = some is → RVs μ xs ys → ys = is.map V.int
  | [], _, _, e, .nil => by cases e; rfl
  | .int i :: r, _, is, e, .cons q t => by
    unfold intsOf at e
    obtain ⟨js, e1, rfl⟩ := Option.map_eq_some_iff.mp e
    cases (show _ = V.int i from q)
    rw [RVs.ints e1 t]; rfl
theorem RVs.bools {μ : List Addr} : ∀ {xs ys : List V} {is : List Bool}, boolsOf xs = some is → RVs μ xs ys → ys = is.map V.bl
  | [], _, _, e, .nil => by cases e; rfl
  | .bl i :: r, _, is, e, .cons q t => by
    unfold boolsOf at e
    obtain ⟨js, e1, rfl⟩ := Option.map_eq_some_iff.mp e
    cases (show _ = V.bl i from q)
    rw [RVs.bools e1 t]; rfl
theorem RVs.strs {μ : List Addr} : ∀ {xs ys : List V} {is : List Str}, strsOf xs = some is → RVs μ xs ys → ys = is.map V.str
  | [], _, _, e, .nil => by cases e; rfl
  | .str i :: r, _, is, e, .cons q t => by
    unfold strsOf at e
    obtain ⟨js, e1, rfl⟩ := Option.map_eq_some_iff.mp e
    cases (show _ = V.str i from q)
    rw [RVs.strs e1 t]; rfl
/-- a list or a tuple that is read -/
theorem Sim.seq {G : Stat} {μ : List Addr} {h : IH} {H : Hp} (S : Sim G μ h H) {v v' : V} {xs : List V} (e : seqOf h v = some xs) (r : RV μ v v') : ∃ b ys, v' = .ref b ∧ RVs μ xs ys ∧ (SqL G.K H b ys ∨ SqT G.K H b ys) := by
  unfold seqOf at e
  split at e
  · rename_i a
    obtain ⟨b, hb, rfl⟩ := r
    split at e
    · rename_i zs ho
      cases e
      obtain ⟨ys, ry, eb⟩ := S.obj _ _ _ ho hb
      exact ⟨b, ys, rfl, ry, .inl (SqL.of eb)⟩
    · rename_i zs ho
      cases e
      obtain ⟨ys, ry, eb⟩ := S.obj _ _ _ ho hb
      exact ⟨b, ys, rfl, ry, .inl (eb.elim (fun ⟨o, z⟩ => .inl (.inr ⟨o, z⟩)) fun z => z H)⟩
    · rename_i zs ho
      cases e
      obtain ⟨ys, ry, eb⟩ := S.obj _ _ _ ho hb
      exact ⟨b, ys, rfl, ry, .inr (eb.elim (fun z => .inl z.1) fun z => z.1 H)⟩
    · cases e
  · cases e
theorem Sim.lseq {G : Stat} {μ : List Addr} {h : IH} {H : Hp} (S : Sim G μ h H) {v v' : V} {xs : List V} (e : lstOf h v = some xs) (r : RV μ v v') : ∃ b ys, v' = .ref b ∧ RVs μ xs ys ∧ SqL G.K H b ys := by
  unfold lstOf at e
  split at e
  · rename_i a
    obtain ⟨b, hb, rfl⟩ := r
    split at e
    · rename_i zs ho
      cases e
      obtain ⟨ys, ry, eb⟩ := S.obj _ _ _ ho hb
      exact ⟨b, ys, rfl, ry, SqL.of eb⟩
    · rename_i zs ho
      cases e
      obtain ⟨ys, ry, eb⟩ := S.obj _ _ _ ho hb
      exact ⟨b, ys, rfl, ry, eb.elim (fun ⟨o, z⟩ => .inl (.inr ⟨o, z⟩)) fun z => z H⟩
    · cases e
  · cases e
theorem Sim.lst {G : Stat} {μ : List Addr} {h : IH} {H : Hp} (S : Sim G μ h H) {a : Nat} {b : Addr} {xs : List V} (e : h[a]? = some (.lst xs)) (r : μ[a]? = some b) : ∃ ys, RVs μ xs ys ∧ H b = some (.lst ys) := S.obj _ _ _ e r
theorem Sim.tupR {G : Stat} {μ : List Addr} {h : IH} {H : Hp} (S : Sim G μ h H) {a : Nat} {b : Addr} {xs : List V} {k : Bool} (e : h[a]? = some (.tup xs k)) (r : μ[a]? = some b) : ∃ ys, RVs μ xs ys ∧ SqT G.K H b ys := by
  obtain ⟨ys, r1, e1⟩ := S.obj _ _ _ e r
  exact ⟨ys, r1, e1.elim (fun z => .inl z.1) fun z => z.1 H⟩
theorem Sim.lstR {G : Stat} {μ : List Addr} {h : IH} {H : Hp} (S : Sim G μ h H) {a : Nat} {b : Addr} {xs : List V} (e : h[a]? = some (.lst xs) ∨ h[a]? = some (.flst xs)) (r : μ[a]? = some b) : ∃ ys, RVs μ xs ys ∧ SqL G.K H b ys := by
  rcases e with e | e
  · obtain ⟨ys, r1, e1⟩ := S.obj _ _ _ e r
    exact ⟨ys, r1, SqL.of e1⟩
  · obtain ⟨ys, r1, e1⟩ := S.obj _ _ _ e r
    exact ⟨ys, r1, e1.elim (fun ⟨o, z⟩ => .inl (.inr ⟨o, z⟩)) fun z => z H⟩
/-- new lists, new tuples -/
theorem objs_lst {G : Stat} {μ : List Addr} {H : Hp} {p : Addr} {xs ys : List V} (r : RVs μ xs ys) : ObjS G (μ ++ [p]) (upd H p (.lst ys)) p (.lst xs) := ⟨ys, r.mono len_pre, upd_same⟩
theorem objs_tup {G : Stat} {μ : List Addr} {H : Hp} {p : Addr} {xs ys : List V} (r : RVs μ xs ys) : ObjS G (μ ++ [p]) (upd H p (.tup ys)) p (.tup xs) := ⟨ys, r.mono len_pre, .inl ⟨.inl upd_same, rfl⟩⟩

/-! ### operators -/
def rBin (K : PySem.W.Frag) : Operator → R2
  | .Add => fun x y H Q => rI0 (fun i j => .int (i + j)) x y H Q ∨ (∃ i j, x = .str i ∧ y = .str j ∧ i.length + j.length ≤ sizeLine ∧ Q (.str (i ++ j)) H) ∨ rCat x y H Q ∨ rCatA K x y H Q
  | .Sub => rI0 fun i j => .int (i - j)
  | .Mult => fun x y H Q => rI CMulW (fun i j => .int (i * j)) x y H Q ∨ rRep x y H Q
  | .FloorDiv => rI CDivW fun i j => .int (i / j)
  | .Mod => rI (fun _ j => 0 < j) fun i j => .int (i % j)
  | .Pow => rI CPow fun i j => .int (i ^ j.toNat)
  | _ => fun _ _ _ _ => False
theorem op_bin {X : Cx} : ∀ op : Operator, OpR X (binaryOp op) (rBin X.K op)
  | .Add => op_add.or (op_add_str.or (op_cat.or op_catA))
  | .Sub => op_sub
  | .Mult => op_mulW.or op_rep
  | .FloorDiv => op_fdivW
  | .Mod => op_mod
  | .Pow => op_pow
  | .MatMult => fun _ _ _ _ _ _ _ _ _ _ _ _ z => z.elim
  | .Div => fun _ _ _ _ _ _ _ _ _ _ _ _ z => z.elim
  | .LShift => fun _ _ _ _ _ _ _ _ _ _ _ _ z => z.elim
  | .RShift => fun _ _ _ _ _ _ _ _ _ _ _ _ z => z.elim
  | .BitOr => fun _ _ _ _ _ _ _ _ _ _ _ _ z => z.elim
  | .BitXor => fun _ _ _ _ _ _ _ _ _ _ _ _ z => z.elim
  | .BitAnd => fun _ _ _ _ _ _ _ _ _ _ _ _ z => z.elim
section
variable {G : Stat} {W : WX} {τ : St} {μ : List Addr} {h : IH} {H : Hp} {x y x' y' : V} {Q : V → Hp → Prop}
theorem binop_ok {op : Operator} (S : Sim G μ h H) (rx : RV μ x x') (ry : RV μ y y') (w : WP G W τ RV μ (binop op x y h) Q) : rBin G.K op x' y' H Q := by
  unfold binop at w
  split at w
  · cases rx; cases ry
    exact .inl ⟨_, _, rfl, rfl, w.val S rfl⟩
  · cases rx; cases ry
    exact ⟨_, _, rfl, rfl, w.val S rfl⟩
  · cases rx; cases ry
    split at w
    · rename_i hm
      exact .inl ⟨_, _, rfl, rfl, by have z := hm; simp only [mulOk, decide_eq_true_eq] at z; exact z, w.val S rfl⟩
    · exact w.elim
  · cases rx; cases ry
    split at w
    · rename_i hm
      exact ⟨_, _, rfl, rfl, by have z := hm; simp only [divOk, decide_eq_true_eq] at z; exact z, w.val S rfl⟩
    · exact w.elim
  · cases rx; cases ry
    split at w
    · rename_i hm
      exact ⟨_, _, rfl, rfl, hm, w.val S rfl⟩
    · exact w.elim
  · cases rx; cases ry
    split at w
    · rename_i hm
      exact ⟨_, _, rfl, rfl, hm, w.val S rfl⟩
    · exact w.elim
  · cases rx; cases ry
    split at w
    · rename_i hm
      exact .inr (.inl ⟨_, _, rfl, rfl, hm, w.val S rfl⟩)
    · exact w.elim
  · obtain ⟨p, hp, rfl⟩ := rx
    obtain ⟨q, hq, rfl⟩ := ry
    split at w
    · rename_i xs ys e1 e2
      obtain ⟨zs, r1, o1⟩ := S.lst e1 hp
      obtain ⟨us, r2, o2⟩ := S.lst e2 hq
      split at w
      · rename_i hl
        have l1 := Paired.length r1
        have l2 := Paired.length r2
        exact .inr (.inr (.inl ⟨p, q, zs, us, rfl, rfl, o1, o2, by omega, fun c hc => w.new S hc (objs_lst (Paired.app r1 r2))⟩))
      · exact w.elim
    · rename_i xs _ ys _ e1 e2
      obtain ⟨zs, r1, o1⟩ := S.tupR e1 hp
      obtain ⟨us, r2, o2⟩ := S.tupR e2 hq
      split at w
      · rename_i hl
        have l1 := Paired.length r1
        have l2 := Paired.length r2
        have z1 : xs.isEmpty = true ↔ zs = [] := by cases r1 <;> simp
        have z2 : ys.isEmpty = true ↔ us = [] := by cases r2 <;> simp
        refine .inr (.inr (.inr ⟨p, q, zs, us, rfl, rfl, o1, o2, by omega, fun e => ?_, fun n e => ?_, fun n1 n2 c hc => ?_⟩))
        · rw [if_pos (z1.mpr e)] at w
          exact w.val S ⟨q, hq, rfl⟩
        · rw [if_neg (fun k => n (z1.mp k)), if_pos (z2.mpr e)] at w
          exact w.val S ⟨p, hp, rfl⟩
        · rw [if_neg (fun k => n1 (z1.mp k)), if_neg (fun k => n2 (z2.mp k))] at w
          exact w.new S hc (objs_tup (Paired.app r1 r2))
      · exact w.elim
    · exact w.elim
  · obtain ⟨p, hp, rfl⟩ := rx
    cases ry
    split at w
    · rename_i xs e1
      obtain ⟨zs, r1, o1⟩ := S.lst e1 hp
      split at w
      · rename_i hl
        have l1 := Paired.length r1
        refine .inr ⟨p, _, zs, rfl, rfl, o1, hl.1, hl.2.1, by rw [← l1]; exact hl.2.2, fun c hc => w.new S hc (objs_lst ?_)⟩
        generalize (Int.toNat _) = n
        induction n with
        | zero => exact .nil
        | succ n ih => rw [List.replicate_succ, List.replicate_succ, List.flatten_cons, List.flatten_cons]; exact Paired.app r1 ih
      · exact w.elim
    · exact w.elim
  · exact w.elim
end
end MP
end
section
set_option Elab.async false
set_option linter.all false
set_option maxHeartbeats 400000
namespace MP
open PySem L2
theorem SqL.w {K : PySem.W.Frag} {H : Hp} {a : Addr} {xs : List V} (h : SqL K H a xs ∨ SqT K H a xs) : True := trivial
theorem flat_eq {μ : List Addr} : ∀ {v v' : V}, flatV v = true → RV μ v v' → v' = v
  | .non, _, _, h => h
  | .bl _, _, _, h => h
  | .int _, _, _, h => h
  | .str _, _, _, h => h
  | .byt _, _, e, _ => by cases e
  | .flt _, _, e, _ => by cases e
  | .ty _, _, e, _ => by cases e
  | .ref _, _, e, _ => by cases e
theorem flats_eq {μ : List Addr} : ∀ {xs ys : List V}, xs.all flatV = true → RVs μ xs ys → ys = xs
  | _, _, _, .nil => rfl
  | x :: xs, _, e, .cons r t => by
    rw [List.all_cons, Bool.and_eq_true] at e
    rw [flat_eq e.1 r, flats_eq e.2 t]
theorem dp_of {G : Stat} {μ : List Addr} {h : IH} {H : Hp} (S : Sim G μ h H) : ∀ (n : Nat) {v v' : V} {d : PyData}, toD h n v = some d → RV μ v v' → Dp G.K H v' d
  | 0, _, _, _, e, _ => by cases e
  | n + 1, v, v', d, e, r => by
    have all : ∀ {xs ys : List V} {ds : List PyData}, dataL (toD h n) xs = some ds → RVs μ xs ys → DpAll G.K H ys ds := by
      intro xs
      induction xs with
      | nil =>
        intro ys ds e r
        cases r
        cases e
        exact .nil
      | cons x xs ih =>
        intro ys ds e r
        cases r with
        | cons r t =>
          unfold dataL at e
          split at e
          · rename_i d0 ds0 e1 e2
            cases e
            exact .cons (dp_of S n e1 r) (ih e2 t)
          · cases e
    unfold toD at e
    split at e
    · cases e; cases r; exact .non
    · cases e; cases r; exact .bl _
    · cases e; cases r; exact .int _
    · cases e; cases r; exact .str _
    · obtain ⟨b, hb, rfl⟩ := r
      split at e
      · rename_i xs o
        obtain ⟨ds, e1, rfl⟩ := Option.map_eq_some_iff.mp e
        obtain ⟨ys, r1, q⟩ := S.lstR (.inl o) hb
        exact .lst q (all e1 r1)
      · rename_i xs o
        obtain ⟨ds, e1, rfl⟩ := Option.map_eq_some_iff.mp e
        obtain ⟨ys, r1, q⟩ := S.lstR (.inr o) hb
        exact .lst q (all e1 r1)
      · rename_i xs _ o
        obtain ⟨ds, e1, rfl⟩ := Option.map_eq_some_iff.mp e
        obtain ⟨ys, r1, q⟩ := S.tupR o hb
        exact .tup q (all e1 r1)
      · cases e
    · cases e
/-! ### comparisons -/
def rCmp (K : PySem.W.Frag) : CmpOp → R2
  | .Eq => rEqD K
  | .NotEq => rNeD K
  | .Lt => fun x y H Q => rI0 (fun i j => .bl (decide (i < j))) x y H Q ∨ ∃ i j, x = .str i ∧ y = .str j ∧ Q (.bl (decide (i.cps.toList < j.cps.toList))) H
  | .LtE => rI0 fun i j => .bl (decide (i ≤ j))
  | .Gt => rI0 fun i j => .bl (decide (j < i))
  | .GtE => rI0 fun i j => .bl (decide (j ≤ i))
  | .Is => fun x y H Q => (y = .non ∧ Q (.bl (decide (x = .non))) H) ∨ ∃ a b, x = .bl a ∧ y = .bl b ∧ Q (.bl (decide (a = b))) H
  | .IsNot => fun x y H Q => (y = .non ∧ Q (.bl (!decide (x = .non))) H) ∨ ∃ a b, x = .bl a ∧ y = .bl b ∧ Q (.bl (!decide (a = b))) H
  | .In => fun x y H Q => (∃ i j, x = .str i ∧ y = .str j ∧ Q (.bl (!(Builtin.Str.occurrences j i 0 j.length 1).isEmpty)) H) ∨ rIn K false x y H Q
  | .NotIn => fun x y H Q => (∃ i j, x = .str i ∧ y = .str j ∧ Q (.bl (!(!(Builtin.Str.occurrences j i 0 j.length 1).isEmpty))) H) ∨ rIn K true x y H Q
theorem op_cmp {X : Cx} (hu : X.A.units + 64 < cLine) : ∀ op : CmpOp, OpR X (compareOp op) (rCmp X.K op)
  | .Eq => op_eqD hu
  | .NotEq => op_neD hu
  | .Lt => op_lt.or op_lt_str
  | .LtE => op_le
  | .Gt => op_gt
  | .GtE => op_ge
  | .Is => op_isN.or op_is_bl
  | .IsNot => op_notN.or op_isnot_bl
  | .In => op_in_str.or op_in_seq
  | .NotIn => op_notIn_str.or op_notIn_seq
section
variable {G : Stat} {W : WX} {τ : St} {μ : List Addr} {h : IH} {H : Hp} {x y x' y' : V} {Q : V → Hp → Prop}
theorem cmpop_ok {op : CmpOp} (S : Sim G μ h H) (rx : RV μ x x') (ry : RV μ y y') (w : WP G W τ RV μ (cmpop op x y h) Q) : rCmp G.K op x' y' H Q := by
  have isn : ∀ {b : Bool → Bool}, RV μ y y' → y = .non → Q (.bl (b (decide (x = .non)))) H → y' = .non ∧ Q (.bl (b (decide (x' = .non)))) H := fun {b} ry e q => by
    subst e
    cases ry
    refine ⟨rfl, ?_⟩
    have e : decide (x' = V.non) = decide (x = V.non) := by
      cases x with
      | ref a => obtain ⟨c, _, rfl⟩ := rx; simp
      | _ => cases rx; rfl
    rw [e]; exact q
  have seq : ∀ {xs : List V} {neg : Bool}, seqOf h y = some xs → (flatV x && xs.all flatV) = true → Q (.bl (if neg then !inV x xs else inV x xs)) H → rIn G.K neg x' y' H Q := fun {xs neg} e f q => by
    obtain ⟨b, ys, rfl, r1, hq⟩ := S.seq e ry
    rw [Bool.and_eq_true] at f
    have e1 := flat_eq f.1 rx
    have e2 := flats_eq f.2 r1
    subst e1 e2
    exact ⟨b, _, rfl, hq, f.1, f.2, q⟩
  have eqq : ∀ {b : Bool}, eqOp x y h = some b → ∃ d e, Dp G.K H x' d ∧ Dp G.K H y' e ∧ SeqAt.shaped d = true ∧ SeqAt.shaped e = true ∧ PyData.eqv d e = b := fun {b} e => by
    unfold eqOp at e
    split at e
    · rename_i d e0 e1 e2
      split at e
      · rename_i hs
        rw [Bool.and_eq_true] at hs
        exact ⟨d, e0, dp_of S 40 e1 rx, dp_of S 40 e2 ry, hs.1, hs.2, Option.some.inj e⟩
      · cases e
    · cases e
  unfold cmpop at w
  cases op with
  | Eq =>
    simp only at w
    split at w
    · rename_i b e
      obtain ⟨d, e0, h1, h2, h3, h4, rfl⟩ := eqq e
      exact ⟨d, e0, h1, h2, h3, h4, w.val S rfl⟩
    · exact w.elim
  | NotEq =>
    simp only at w
    split at w
    · rename_i b e
      obtain ⟨d, e0, h1, h2, h3, h4, rfl⟩ := eqq e
      exact ⟨d, e0, h1, h2, h3, h4, w.val S rfl⟩
    · exact w.elim
  | Lt =>
    simp only at w
    split at w
    · cases rx; cases ry; exact .inl ⟨_, _, rfl, rfl, w.val S rfl⟩
    · cases rx; cases ry; exact .inr ⟨_, _, rfl, rfl, w.val S rfl⟩
    · exact w.elim
  | LtE =>
    simp only at w
    split at w
    · cases rx; cases ry; exact ⟨_, _, rfl, rfl, w.val S rfl⟩
    · exact w.elim
  | Gt =>
    simp only at w
    split at w
    · cases rx; cases ry; exact ⟨_, _, rfl, rfl, w.val S rfl⟩
    · exact w.elim
  | GtE =>
    simp only at w
    split at w
    · cases rx; cases ry; exact ⟨_, _, rfl, rfl, w.val S rfl⟩
    · exact w.elim
  | Is =>
    simp only at w
    split at w
    · exact .inl (isn (b := id) ry rfl (w.val S rfl))
    · cases rx; cases ry; exact .inr ⟨_, _, rfl, rfl, w.val S rfl⟩
    · exact w.elim
  | IsNot =>
    simp only at w
    split at w
    · exact .inl (isn (b := not) ry rfl (w.val S rfl))
    · cases rx; cases ry; exact .inr ⟨_, _, rfl, rfl, w.val S rfl⟩
    · exact w.elim
  | In =>
    simp only at w
    split at w
    · cases rx; cases ry; exact .inl ⟨_, _, rfl, rfl, w.val S rfl⟩
    · split at w
      · rename_i xs e
        split at w
        · rename_i f
          exact .inr (seq (neg := false) e f (w.val S rfl))
        · exact w.elim
      · exact w.elim
  | NotIn =>
    simp only at w
    split at w
    · cases rx; cases ry; exact .inl ⟨_, _, rfl, rfl, w.val S rfl⟩
    · split at w
      · rename_i xs e
        split at w
        · rename_i f
          exact .inr (seq (neg := true) e f (w.val S rfl))
        · exact w.elim
      · exact w.elim
/-! ### subscripts, slices, truth, kinds -/
theorem atI_pair {α β : Type} {F : α → β → Prop} {xs : List α} {ys : List β} {i : Int} {v : α} (r : Paired F xs ys) (e : atI xs i = some v) : ∃ u, atI ys i = some u ∧ F v u := by
  unfold atI at e ⊢
  rw [← Paired.length r]
  cases q : ixN xs.length i with
  | none => rw [q] at e; cases e
  | some j =>
    rw [q] at e
    exact Paired.getP (i := j) r e
theorem getix_ok (S : Sim G μ h H) (rx : RV μ x x') (ry : RV μ y y') (w : WP G W τ RV μ (getix x y h) Q) : rIx G.K x' y' H Q := by
  unfold getix at w
  split at w
  · cases rx; cases ry
    split at w
    · rename_i hz
      split at w
      · rename_i c e
        exact .inr (.inr ⟨_, _, c, rfl, rfl, hz, e, w.val S rfl⟩)
      · exact w.elim
    · exact w.elim
  · cases ry
    split at w
    · rename_i xs e
      obtain ⟨b, ys, rfl, r1, hq⟩ := S.seq e rx
      split at w
      · rename_i v e1
        obtain ⟨u, e2, r2⟩ := atI_pair r1 e1
        rcases hq with hq | hq
        · exact .inl ⟨b, ys, _, u, rfl, rfl, hq, e2, w.val S r2⟩
        · exact .inr (.inl ⟨b, ys, _, u, rfl, rfl, hq, e2, w.val S r2⟩)
      · exact w.elim
    · exact w.elim
  · exact w.elim
def rSl (K : PySem.W.Frag) : V → Option Int → Option Int → Hp → VK → Prop := fun x lo hi H Q => rSlL K x lo hi H Q ∨ rSlS x lo hi H Q ∨ rSlA K x lo hi H Q
theorem sl_all {X : Cx} : SlR X (rSl X.K) := sl_list.or (sl_str.or sl_tupA)
theorem cut_pair {α : Type} {μ : List Addr} {xs ys : List V} (r : RVs μ xs ys) (lo hi : Option Int) : RVs μ (cutV xs lo hi) (cutV ys lo hi) := by
  unfold cutV
  rw [← Paired.length r]
  exact Paired.takeP _ (Paired.dropP _ r)
theorem getsl_ok {lo hi : Option Int} (S : Sim G μ h H) (rx : RV μ x x') (w : WP G W τ RV μ (getsl x lo hi h) Q) : rSl G.K x' lo hi H Q := by
  unfold getsl at w
  split at w
  · cases rx
    split at w
    · rename_i hz
      exact .inr (.inl ⟨_, rfl, hz, w.val S rfl⟩)
    · exact w.elim
  · obtain ⟨b, hb, rfl⟩ := rx
    split at w
    · rename_i xs e
      obtain ⟨ys, r1, q⟩ := S.lstR (.inl e) hb
      exact .inl ⟨b, ys, rfl, q, fun p hp => w.new S hp (objs_lst (cut_pair (α := V) r1 lo hi))⟩
    · rename_i xs e
      obtain ⟨ys, r1, q⟩ := S.lstR (.inr e) hb
      exact .inl ⟨b, ys, rfl, q, fun p hp => w.new S hp (objs_lst (cut_pair (α := V) r1 lo hi))⟩
    · rename_i xs _ e
      obtain ⟨ys, r1, q⟩ := S.tupR e hb
      have l1 := Paired.length r1
      refine .inr (.inr ⟨b, ys, rfl, q, fun c => ?_, fun c p hp => ?_⟩)
      · rw [← l1] at c
        rw [if_pos c] at w
        exact w.val S ⟨b, hb, rfl⟩
      · rw [← l1] at c
        rw [if_neg c] at w
        exact w.new S hp (objs_tup (cut_pair (α := V) r1 lo hi))
    · exact w.elim
  · exact w.elim
theorem truth_ok (S : Sim G μ h H) (rx : RV μ x x') {k : Bool} (e : truth h x = some k) : TruV G.K x' H k := by
  unfold truth at e
  split at e
  · cases rx; cases e; rfl
  · cases rx; cases e; rfl
  · cases rx; cases e; rfl
  · cases rx
    split at e
    · rename_i hz; cases e; exact ⟨hz, rfl⟩
    · cases e
  · obtain ⟨b, hb, rfl⟩ := rx
    have em : ∀ {α β : Type} {F : α → β → Prop} {xs : List α} {ys : List β}, Paired F xs ys → (!xs.isEmpty) = !ys.isEmpty := fun r => by cases r <;> rfl
    split at e
    · rename_i xs o
      obtain ⟨ys, r1, q⟩ := S.lstR (.inl o) hb
      cases e
      exact .inl ⟨ys, q, em r1⟩
    · rename_i xs o
      obtain ⟨ys, r1, q⟩ := S.lstR (.inr o) hb
      cases e
      exact .inl ⟨ys, q, em r1⟩
    · rename_i xs _ o
      obtain ⟨ys, r1, q⟩ := S.tupR o hb
      cases e
      exact .inr (.inl ⟨ys, q, em r1⟩)
    · rename_i kvs o
      obtain ⟨ks, r1, q⟩ := S.obj _ _ _ o hb
      cases e
      exact .inr (.inr ⟨ks, q, em r1⟩)
    · cases e
  · cases e
end
end MP
end
section
set_option Elab.async false
set_option linter.all false
set_option maxHeartbeats 400000
namespace MP
open PySem L2
theorem CallR.or {X : Cx} {f : Value} {r r' : List V → Hp → VK → Prop} (a : CallR X f r) (b : CallR X f r') : CallR X f (fun xs H Q => r xs H Q ∨ r' xs H Q) := fun pins s σ H xs us Q I v z => by
  rcases z with z | z
  · exact a pins s σ H xs us Q I v z
  · exact b pins s σ H xs us Q I v z
theorem fold_max : ∀ (l : List Int) (i : Int), let m := l.foldl (fun a b => if a < b then b else a) i; (m = i ∨ m ∈ l) ∧ i ≤ m ∧ ∀ y ∈ l, y ≤ m
  | [], i => ⟨.inl rfl, Int.le_refl _, fun _ h => by cases h⟩
  | j :: l, i => by
    have ih := fold_max l (if i < j then j else i)
    simp only [List.foldl_cons] at ih ⊢
    obtain ⟨h1, h2, h3⟩ := ih
    refine ⟨?_, ?_, fun y hy => ?_⟩
    · rcases h1 with h1 | h1
      · rw [h1]
        by_cases c : i < j
        · rw [if_pos c]; exact .inr List.mem_cons_self
        · rw [if_neg c]; exact .inl rfl
      · exact .inr (List.mem_cons_of_mem _ h1)
    · refine Int.le_trans ?_ h2
      by_cases c : i < j
      · rw [if_pos c]; omega
      · rw [if_neg c]; exact Int.le_refl _
    · rcases List.mem_cons.mp hy with rfl | hy
      · refine Int.le_trans ?_ h2
        by_cases c : i < y
        · rw [if_pos c]; exact Int.le_refl _
        · rw [if_neg c]; omega
      · exact h3 y hy
theorem fold_min : ∀ (l : List Int) (i : Int), let m := l.foldl (fun a b => if b < a then b else a) i; (m = i ∨ m ∈ l) ∧ m ≤ i ∧ ∀ y ∈ l, m ≤ y
  | [], i => ⟨.inl rfl, Int.le_refl _, fun _ h => by cases h⟩
  | j :: l, i => by
    have ih := fold_min l (if j < i then j else i)
    simp only [List.foldl_cons] at ih ⊢
    obtain ⟨h1, h2, h3⟩ := ih
    refine ⟨?_, ?_, fun y hy => ?_⟩
    · rcases h1 with h1 | h1
      · rw [h1]
        by_cases c : j < i
        · rw [if_pos c]; exact .inr List.mem_cons_self
        · rw [if_neg c]; exact .inl rfl
      · exact .inr (List.mem_cons_of_mem _ h1)
    · refine Int.le_trans h2 ?_
      by_cases c : j < i
      · rw [if_pos c]; omega
      · rw [if_neg c]; exact Int.le_refl _
    · rcases List.mem_cons.mp hy with rfl | hy
      · refine Int.le_trans h2 ?_
        by_cases c : y < i
        · rw [if_pos c]; exact Int.le_refl _
        · rw [if_neg c]; omega
      · exact h3 y hy
theorem maxI_eq {l : List Int} {m k : Int} (e : maxI l = some k) (h : m ∈ l) (g : ∀ y, y ∈ l → y ≤ m) : m = k := by
  cases l with
  | nil => cases h
  | cons i r =>
    cases e
    obtain ⟨h1, h2, h3⟩ := fold_max r i
    have a : m ≤ r.foldl (fun a b => if a < b then b else a) i := by
      rcases List.mem_cons.mp h with rfl | h
      · exact h2
      · exact h3 m h
    have b : r.foldl (fun a b => if a < b then b else a) i ≤ m := by
      rcases h1 with h1 | h1
      · rw [h1]; exact g i List.mem_cons_self
      · exact g _ (List.mem_cons_of_mem _ h1)
    exact Int.le_antisymm a b
theorem minI_eq {l : List Int} {m k : Int} (e : minI l = some k) (h : m ∈ l) (g : ∀ y, y ∈ l → m ≤ y) : m = k := by
  cases l with
  | nil => cases h
  | cons i r =>
    cases e
    obtain ⟨h1, h2, h3⟩ := fold_min r i
    have a : r.foldl (fun a b => if b < a then b else a) i ≤ m := by
      rcases List.mem_cons.mp h with rfl | h
      · exact h2
      · exact h3 m h
    have b : m ≤ r.foldl (fun a b => if b < a then b else a) i := by
      rcases h1 with h1 | h1
      · rw [h1]; exact g i List.mem_cons_self
      · exact g _ (List.mem_cons_of_mem _ h1)
    exact Int.le_antisymm b a
/-- repr of data, of a dict with ints for keys -/
def rReprA (K : PySem.W.Frag) : List V → Hp → VK → Prop := fun xs H Q => ∃ x d, xs = [x] ∧ Dp K H x d ∧ PyData.showable d = true ∧ PyData.hasDict d = false ∧ d.shown.length ≤ sizeLine ∧ d.depth ≤ 60 ∧ Q (.str d.shown) H
theorem call_reprA {X : Cx} (hg : X.A.guards = some []) (hu : X.A.units + 64 < cLine) : CallR X (.builtin "repr") (rReprA X.K) := by
  intro pins s σ H xs us Q I r z
  obtain ⟨x, d, rfl, dp, h1, h2, h3, h4, q⟩ := z
  obtain ⟨u, rfl, ru⟩ := vals1 r
  cases dp with
  | non =>
    cases ru
    exact PySem.P.repr_of_none ⟨.str _, H, I.tok _, ⟨_, rfl⟩, by simpa only [PyData.shown] using q⟩
  | bl b =>
    cases ru
    exact PySem.P.repr_of_bool ⟨.str _, H, I.tok _, ⟨_, rfl⟩, by simpa only [PyData.shown] using q⟩
  | int i =>
    obtain ⟨t, rfl⟩ := ru
    exact PySem.P.repr_of_int (by simpa [PyData.showable] using h1) ⟨.str _, H, I.tok _, ⟨_, rfl⟩, by simpa only [PyData.shown] using q⟩
  | str z =>
    obtain ⟨t, rfl⟩ := ru
    exact PySem.P.repr_of_str ⟨.str _, H, I.tok _, ⟨_, rfl⟩, by simpa only [PyData.shown] using q⟩ (by simpa only [PyData.shown] using h3)
  | lst hs ha =>
    obtain ⟨as, rd⟩ := Dp.reads I _ _ _ (Dp.lst hs ha) ru
    cases ru
    exact repr_of_reads' rd h1 (fun e => by rw [h2] at e; cases e) hg (by omega) (fun _ _ e => e) (fun h' u tk hk => ⟨.str _, H, I.kept hk, ⟨u, rfl⟩, q⟩) h3
  | tup hs ha =>
    obtain ⟨as, rd⟩ := Dp.reads I _ _ _ (Dp.tup hs ha) ru
    cases ru
    exact repr_of_reads' rd h1 (fun e => by rw [h2] at e; cases e) hg (by omega) (fun _ _ e => e) (fun h' u tk hk => ⟨.str _, H, I.kept hk, ⟨u, rfl⟩, q⟩) h3

def rReprB : List V → Hp → VK → Prop := fun xs H Q => ∃ a kvs ds, xs = [V.ref a] ∧ H a = some (.dK kvs) ∧ pairsD kvs = some ds ∧ (PyData.dict ds).showable = true ∧ (PyData.dict ds).shown.length ≤ sizeLine ∧ (PyData.dict ds).depth ≤ 60 ∧ Q (.str (PyData.dict ds).shown) H
theorem flat_reads {h : Heap} {v : V} {u : Value} {d : PyData} (e : flatD v = some d) (r : RelV v u) : Reads h u d [] := by
  cases v with
  | non => cases e; cases r; exact .none
  | bl b => cases e; cases r; exact .bool b
  | int i => cases e; obtain ⟨t, rfl⟩ := r; exact .int i t
  | str z => cases e; obtain ⟨t, rfl⟩ := r; exact .str z t
  | _ => cases e
theorem pairs_reads {P : Program} {w : World} {h : Heap} : ∀ {kvs : List (Key × V)} {vs : List (Key × Value)} {es : List DictEntry} {ds : List (PyData × PyData)}, pairsD kvs = some ds → KV kvs vs → Pairs (mixKind P w) es vs →
    ReadsAll h (es.map (·.key)) (ds.map (·.1)) [] ∧ ReadsAll h (es.map (·.val)) (ds.map (·.2)) []
  | [], _, _, _, e, .nil, p => by
    cases e
    cases p
    exact ⟨.nil, .nil⟩
  | (k, v) :: kvs, _, _, ds, e, .cons r t, p => by
    cases k with
    | inr x => cases e
    | inl i =>
      unfold pairsD at e
      split at e
      · rename_i d0 ds0 e1 e2
        cases e
        cases p with
        | @cons en q es ves h1 h0 h2 =>
          obtain ⟨q1, q2⟩ := pairs_reads (h := h) e2 t h2
          obtain ⟨r1, r2⟩ := r
          have hk : keyIs (Sum.inl i) en.key = true := by
            have z := h1
            rw [← r1] at z
            exact z
          obtain ⟨t, et⟩ := Value.isInt_shape (k := i) (v := en.key) hk
          refine ⟨?_, ?_⟩
          · show ReadsAll h (en.key :: es.map (·.key)) _ _
            rw [et]
            exact .cons (as := []) (.int i t) q1
          · show ReadsAll h (en.val :: es.map (·.val)) _ _
            rw [h0]
            exact .cons (as := []) (flat_reads e1 r2) q2
      · cases e
theorem call_reprB {X : Cx} (hg : X.A.guards = some []) (hu : X.A.units + 64 < cLine) : CallR X (.builtin "repr") rReprB := by
  intro pins s σ H xs us Q I r z
  obtain ⟨a, kvs, ds, rfl, ha, e, h1, h3, h4, q⟩ := z
  obtain ⟨u, rfl, ru⟩ := vals1 r
  cases ru
  obtain ⟨_, ns, vs, kv, o, es, ep, ho, hx, hd, _, hp, _⟩ := (show ObjOk X.prog X.w H s.heap a (.dK kvs) from I.hok a _ ha)
  obtain ⟨q1, q2⟩ := pairs_reads (h := s.heap) e kv hp
  have rd : Reads s.heap (.ref a) (.dict ds) (a :: [] ++ []) := .dict ho hx.1 hd q1 q2
  refine repr_of_reads' rd h1 (fun _ z => ?_) hg (by omega) (fun _ _ e => e) (fun h' u tk hk => ⟨.str _, H, I.kept hk, ⟨u, rfl⟩, q⟩) h3
  have z : sysModules = a := by simpa using z
  rw [← z] at ns
  simp at ns
def rRepr (K : PySem.W.Frag) : List V → Hp → VK → Prop := fun xs H Q => rReprA K xs H Q ∨ rReprB xs H Q
theorem call_reprD {X : Cx} (hg : X.A.guards = some []) (hu : X.A.units + 64 < cLine) : CallR X (.builtin "repr") (rRepr X.K) := (call_reprA hg hu).or (call_reprB hg hu)
theorem flatD_eq {μ : List Addr} {v v' : V} {d : PyData} (e : flatD v = some d) (r : RV μ v v') : v' = v := by
  cases v <;> first | exact r | cases e
theorem pairsD_eq {μ : List Addr} : ∀ {kvs ks : List (Key × V)} {ds : List (PyData × PyData)}, pairsD kvs = some ds → RKV μ kvs ks → ks = kvs
  | [], _, _, _, .nil => rfl
  | (k, v) :: kvs, _, ds, e, .cons r t => by
    cases k with
    | inr x => cases e
    | inl i =>
      unfold pairsD at e
      split at e
      · rename_i d0 ds0 e1 e2
        obtain ⟨r1, r2⟩ := r
        rw [pairsD_eq e2 t]
        congr 1
        exact Prod.ext r1 (flatD_eq e1 r2)
      · cases e
/-! ### built-in functions -/
def bifId : Bif → Option (Str × Value)
  | .len => some ("len", .builtin "len")
  | .all => some ("all", .builtin "all")
  | .any => some ("any", .builtin "any")
  | .sum => some ("sum", .builtin "sum")
  | .max1 => some ("max", .builtin "max")
  | .min1 => some ("min", .builtin "min")
  | .max2 => some ("max", .builtin "max")
  | .min2 => some ("min", .builtin "min")
  | .int => some ("int", .type "int")
  | .str => some ("str", .type "str")
  | .repr => some ("repr", .builtin "repr")
  | .list => some ("list", .type "list")
  | .tuple => some ("tuple", .type "tuple")
  | .ord => some ("ord", .builtin "ord")
  | _ => none
def bifV : Bif → Value
  | .len => .builtin "len"
  | .all => .builtin "all"
  | .any => .builtin "any"
  | .sum => .builtin "sum"
  | .max1 => .builtin "max"
  | .min1 => .builtin "min"
  | .max2 => .builtin "max"
  | .min2 => .builtin "min"
  | .int => .type "int"
  | .str => .type "str"
  | .repr => .builtin "repr"
  | .list => .type "list"
  | .tuple => .type "tuple"
  | .ord => .builtin "ord"
  | .lenSet => .none
  | .sorted => .none
def rBif (K : PySem.W.Frag) : Bif → List V → Hp → VK → Prop
  | .len => fun xs H Q => (∃ x n, xs = [x] ∧ LenV K x H n ∧ Q (.int n) H) ∨ ∃ a kvs, xs = [V.ref a] ∧ H a = some (.dK kvs) ∧ Q (.int kvs.length) H
  | .all => rAll K
  | .any => rAny K
  | .sum => rSum K
  | .max1 => rMax K
  | .min1 => rMin K
  | .max2 => fun xs H Q => ∃ i j, xs = [.int i, .int j] ∧ Q (.int (if j > i then j else i)) H
  | .min2 => fun xs H Q => ∃ i j, xs = [.int i, .int j] ∧ Q (.int (if j < i then j else i)) H
  | .int => fun xs H Q => ((∃ i, xs = [.int i] ∧ Q (.int i) H) ∨ ∃ k, xs = [.bl k] ∧ Q (.int (if k then 1 else 0)) H) ∨ ∃ a n, xs = [.str a] ∧ PySem.intText? a = some n ∧ a.length ≤ 640 ∧ Q (.int n) H
  | .str => fun xs H Q => (∃ i, xs = [.int i] ∧ i.natAbs.log2 < 1920 ∧ Q (.str (toString i)) H) ∨ ∃ a, xs = [.str a] ∧ Q (.str a) H
  | .repr => rRepr K
  | .list => fun xs H Q => ∃ p ys, xs = [.ref p] ∧ (SqL K H p ys ∨ SqT K H p ys) ∧ ∀ l, H l = none → Q (.ref l) (upd H l (.lst ys))
  | .tuple => fun xs H Q => ∃ p ys, xs = [.ref p] ∧ ((SqL K H p ys ∧ ∀ l, H l = none → Q (.ref l) (upd H l (.tup ys))) ∨ (SqT K H p ys ∧ Q (.ref p) H))
  | .ord => fun xs H Q => ∃ x, xs = [.str x] ∧ x.length = 1 ∧ Q (.int (x.cps.getD 0 0 : Nat)) H
  | .lenSet => fun _ _ _ => False
  | .sorted => fun _ _ _ => False
def bifHot : Bif → Bool
  | .len | .int | .str | .repr | .list | .tuple | .ord => true
  | _ => false
theorem call_bif {X : Cx} (hg : X.A.guards = some []) (hu : X.A.units + 64 < cLine) : ∀ b : Bif, (X.calm = true ∨ bifHot b = true) → (b ≠ .lenSet ∧ b ≠ .sorted) → CallR X (bifV b) (rBif X.K b)
  | .len, _, _ => call_len.or call_lenD
  | .all, c, _ => cr_all (c.resolve_right (by decide))
  | .any, c, _ => cr_any (c.resolve_right (by decide))
  | .sum, c, _ => cr_sum (c.resolve_right (by decide))
  | .max1, c, _ => cr_max (c.resolve_right (by decide))
  | .min1, c, _ => cr_min (c.resolve_right (by decide))
  | .max2, c, _ => call_max2 (c.resolve_right (by decide))
  | .min2, c, _ => call_min2 (c.resolve_right (by decide))
  | .int, _, _ => call_int1.or call_int_str
  | .str, _, _ => call_str_int.or SkE.call_str_str
  | .repr, _, _ => call_reprD hg hu
  | .list, _, _ => call_list_of
  | .tuple, _, _ => call_tuple_of
  | .ord, _, _ => call_ord
  | .lenSet, _, n => absurd rfl n.1
  | .sorted, _, n => absurd rfl n.2
section
variable {G : Stat} {W : WX} {τ : St} {μ : List Addr} {h : IH} {H : Hp} {x y x' y' : V} {Q : V → Hp → Prop}
theorem len_ok (S : Sim G μ h H) (rx : RV μ x x') {n : Nat} (e : lenOf x h = some n) : LenV G.K x' H n ∨ ∃ a kvs, x' = V.ref a ∧ H a = some (.dK kvs) ∧ n = kvs.length := by
  unfold lenOf at e
  split at e
  · cases rx
    split at e
    · rename_i hz; cases e; exact .inl ⟨hz, rfl⟩
    · cases e
  · obtain ⟨b, hb, rfl⟩ := rx
    split at e
    · rename_i xs o
      obtain ⟨ys, r1, q⟩ := S.lstR (.inl o) hb
      cases e
      exact .inl (.inl ⟨ys, q, Paired.length r1⟩)
    · rename_i xs o
      obtain ⟨ys, r1, q⟩ := S.lstR (.inr o) hb
      cases e
      exact .inl (.inl ⟨ys, q, Paired.length r1⟩)
    · rename_i xs _ o
      obtain ⟨ys, r1, q⟩ := S.tupR o hb
      cases e
      exact .inl (.inr ⟨ys, q, Paired.length r1⟩)
    · rename_i kvs o
      obtain ⟨ks, r1, q⟩ := S.obj _ _ _ o hb
      cases e
      exact .inr ⟨b, ks, rfl, q, Paired.length r1⟩
    · cases e
  · cases e
theorem bif_ok {b : Bif} {vs vs' : List V} (nb : b ≠ .lenSet) (S : Sim G μ h H) (r : RVs μ vs vs') (w : WP G W τ RV μ (bifn b vs h) Q) : rBif G.K b vs' H Q := by
  have one : ∀ {x : V} {ws : List V}, RVs μ [x] ws → ∃ x', ws = [x'] ∧ RV μ x x' := fun r => by
    cases r with
    | cons rx t => cases t; exact ⟨_, rfl, rx⟩
  unfold bifn at w
  split at w
  · obtain ⟨x', rfl, rx⟩ := one r
    split at w
    · rename_i n e
      rcases len_ok S rx e with z | ⟨a, kvs, rfl, z, rfl⟩
      · exact .inl ⟨_, n, rfl, z, w.val S rfl⟩
      · exact .inr ⟨a, kvs, rfl, z, w.val S rfl⟩
    · exact w.elim
  · obtain ⟨x', rfl, rx⟩ := one r
    split at w
    · rename_i xs e
      obtain ⟨p, ys, rfl, r1, hq⟩ := S.lseq e rx
      split at w
      · rename_i bs e1
        have ey := r1.bools e1
        subst ey
        exact ⟨p, bs, rfl, hq, w.val S rfl⟩
      · exact w.elim
    · exact w.elim
  · obtain ⟨x', rfl, rx⟩ := one r
    split at w
    · rename_i xs e
      obtain ⟨p, ys, rfl, r1, hq⟩ := S.lseq e rx
      split at w
      · rename_i bs e1
        have ey := r1.bools e1
        subst ey
        exact ⟨p, bs, rfl, hq, w.val S rfl⟩
      · exact w.elim
    · exact w.elim
  · obtain ⟨x', rfl, rx⟩ := one r
    split at w
    · rename_i xs e
      obtain ⟨p, ys, rfl, r1, hq⟩ := S.lseq e rx
      split at w
      · rename_i bs e1
        have ey := r1.ints e1
        subst ey
        exact ⟨p, bs, rfl, hq, w.val S rfl⟩
      · exact w.elim
    · exact w.elim
  · obtain ⟨x', rfl, rx⟩ := one r
    split at w
    · rename_i xs e
      obtain ⟨p, ys, rfl, r1, hq⟩ := S.lseq e rx
      split at w
      · rename_i k e1
        obtain ⟨is, e2, e3⟩ := Option.bind_eq_some_iff.mp e1
        have ey := r1.ints e2
        subst ey
        refine ⟨p, is, rfl, hq, ?_, fun m h1 h2 => ?_⟩
        · cases is with
          | nil => cases e3
          | cons i l => exact Nat.succ_pos _
        · have em := maxI_eq e3 h1 h2
          subst em
          exact w.val S rfl
      · exact w.elim
    · exact w.elim
  · obtain ⟨x', rfl, rx⟩ := one r
    split at w
    · rename_i xs e
      obtain ⟨p, ys, rfl, r1, hq⟩ := S.lseq e rx
      split at w
      · rename_i k e1
        obtain ⟨is, e2, e3⟩ := Option.bind_eq_some_iff.mp e1
        have ey := r1.ints e2
        subst ey
        refine ⟨p, is, rfl, hq, ?_, fun m h1 h2 => ?_⟩
        · cases is with
          | nil => cases e3
          | cons i l => exact Nat.succ_pos _
        · have em := minI_eq e3 h1 h2
          subst em
          exact w.val S rfl
      · exact w.elim
    · exact w.elim
  · cases r with
    | cons r1 t =>
      cases t with
      | cons r2 t =>
        cases t; cases r1; cases r2
        exact ⟨_, _, rfl, w.val S rfl⟩
  · cases r with
    | cons r1 t =>
      cases t with
      | cons r2 t =>
        cases t; cases r1; cases r2
        exact ⟨_, _, rfl, w.val S rfl⟩
  · obtain ⟨x', rfl, rx⟩ := one r
    cases rx
    exact .inl (.inl ⟨_, rfl, w.val S rfl⟩)
  · obtain ⟨x', rfl, rx⟩ := one r
    cases rx
    exact .inl (.inr ⟨_, rfl, w.val S rfl⟩)
  · obtain ⟨x', rfl, rx⟩ := one r
    cases rx
    split at w
    · rename_i n e
      split at w
      · rename_i hl
        exact .inr ⟨_, n, rfl, e, hl, w.val S rfl⟩
      · exact w.elim
    · exact w.elim
  · obtain ⟨x', rfl, rx⟩ := one r
    cases rx
    split at w
    · rename_i hl
      exact .inl ⟨_, rfl, hl, w.val S rfl⟩
    · exact w.elim
  · obtain ⟨x', rfl, rx⟩ := one r
    cases rx
    exact .inr ⟨_, rfl, w.val S rfl⟩
  · obtain ⟨x', rfl, rx⟩ := one r
    split at w
    · rename_i d e
      split at w
      · rename_i hc
        simp only [Bool.and_eq_true, Bool.not_eq_true', decide_eq_true_eq] at hc
        obtain ⟨⟨⟨h1, h2⟩, h3⟩, h4⟩ := hc
        exact .inl ⟨_, d, rfl, dp_of S 40 e rx, h1, h2, by omega, h4, w.val S rfl⟩
      · exact w.elim
    · split at w
      · rename_i d e
        split at w
        · rename_i hc
          simp only [Bool.and_eq_true, decide_eq_true_eq] at hc
          obtain ⟨⟨h1, h3⟩, h4⟩ := hc
          unfold dicD at e
          split at e
          · obtain ⟨b, hb, rfl⟩ := rx
            split at e
            · rename_i kvs ho
              obtain ⟨ds, e1, rfl⟩ := Option.map_eq_some_iff.mp e
              obtain ⟨ks, rk, hH⟩ := S.obj _ _ _ ho hb
              have := pairsD_eq e1 rk
              subst this
              exact .inr ⟨b, ks, ds, rfl, hH, e1, h1, by omega, h4, w.val S rfl⟩
            · cases e
          · cases e
        · exact w.elim
      · exact w.elim
  · obtain ⟨x', rfl, rx⟩ := one r
    split at w
    · rename_i xs e
      obtain ⟨p, ys, rfl, r1, hq⟩ := S.seq e rx
      exact ⟨p, ys, rfl, hq, fun l hl => w.new S hl (objs_lst r1)⟩
    · exact w.elim
  · obtain ⟨x', rfl, rx⟩ := one r
    obtain ⟨p, hp, rfl⟩ := rx
    split at w
    · rename_i xs e
      obtain ⟨ys, r1, hq⟩ := S.lstR (.inl e) hp
      exact ⟨p, ys, rfl, .inl ⟨hq, fun l hl => w.new S hl (objs_tup r1)⟩⟩
    · rename_i xs e
      obtain ⟨ys, r1, hq⟩ := S.lstR (.inr e) hp
      exact ⟨p, ys, rfl, .inl ⟨hq, fun l hl => w.new S hl (objs_tup r1)⟩⟩
    · rename_i xs _ e
      obtain ⟨ys, r1, hq⟩ := S.tupR e hp
      exact ⟨p, ys, rfl, .inr ⟨hq, w.val S ⟨p, hp, rfl⟩⟩⟩
    · exact w.elim
  · exact absurd rfl nb
  · obtain ⟨x', rfl, rx⟩ := one r
    cases rx
    split at w
    · rename_i hl
      exact ⟨_, rfl, hl, w.val S rfl⟩
    · exact w.elim
  · exact w.elim
end
end MP
end
section
set_option Elab.async false
set_option linter.all false
set_option maxHeartbeats 400000
namespace MP
open PySem L2

/-! ### what a def promises, where no guard runs -/
structure FnG (P : Program) (w : World) (K : PySem.W.Frag) (mg : Str → Option Value) (base : Heap) (k : Nat) (f : Addr) (fd : FuncData) (ps : List Str) (sp : Sp) : Prop where
  len : ∀ vs H Q E, sp vs H Q E → vs.length = ps.length
  run : ∀ (A : Around) (outer : List Env) (s : Shared) (H : Hp) (args : Args) (us : List Value) (vs : List V) (Q : VK) (E : XK), A.guards = some [] → Room k A →
    Env0 P w K mg base A outer s H → BindsTo s fd args (ps.zip us) → Vals vs us → sp vs H Q E → codeAny (model P w) A (.call (.ref f) args) (CR (L2.CX P w) outer P w H s Q E) s
section
variable {X : Cx} {W : WX} {k : Nat} {f : Addr} {fd : FuncData} {ps : List Str} {sp : Sp} {pins : List (Addr × Obj)} {σ : St} {H : Hp} {s : Shared}
theorem codeG (F : FnG X.prog X.w X.K X.mg X.base k f fd ps sp) (hg : X.A.guards = some []) (hr : Room k X.A) (hb : Binds X.K fd ps []) (tk : Takes X W) {Q : VK} {us : List Value} {vs : List V}
    (I : Inv X pins σ H s) (r : Vals vs us) (q : sp vs H Q fun c d H' => W c d σ H') : codeAny (model X.prog X.w) X.A (.call (.ref f) ⟨us, []⟩) (fun r s' => match r with | .ok (.ret v) => EP X pins σ Q v s' | .ok _ => False | .error e => X.xe e s') s := by
  have n : (us ++ []).length = ps.length := by rw [List.append_nil, ← r.length]; exact F.len _ _ _ _ q
  have b := hb s us I.kIn n
  rw [List.append_nil] at b
  have run := F.run X.A X.stack s H ⟨us, []⟩ us vs Q _ hg hr I.env0 b r q
  refine codeAny_mono run fun res s' z => ?_
  match res, z with
  | .error e, z => exact tk e s' (XE.of_call I (fun _ _ _ y => y) z)
  | .ok (.ret u), z => exact I.after z
  | .ok .next, z => exact False.elim z
  | .ok .brk, z => exact False.elim z
  | .ok .cont, z => exact False.elim z
theorem callG (F : FnG X.prog X.w X.K X.mg X.base k f fd ps sp) (hg : X.A.guards = some []) (hr : Room k X.A) (hb : Binds X.K fd ps []) (tk : Takes X W) {Q : VK} {us : List Value} {vs : List V}
    (I : Inv X pins σ H s) (r : Vals vs us) (q : sp vs H Q fun c d H' => W c d σ H') : wpAny (model X.prog X.w) X.A (call (.ref f) us) (EP X pins σ Q) X.xe s := wpAny_call (codeG F hg hr hb tk I r q)
theorem guards_make {A : Around} {C : Addr} {us : List Value} (hg : A.guards = some []) : (A.under (.builtin "type.__call__" ⟨.ref C :: us, []⟩)).guards = some [] := by
  have e : (Code.builtin "type.__call__" ⟨.ref C :: us, []⟩).guards = [] := by
    unfold Code.guards
    have z : (Code.builtin "type.__call__" ⟨.ref C :: us, []⟩).isGuard = false := by
      show guardIds.contains "type.__call__" = false
      decide +kernel
    rw [z]; rfl
  unfold Around.under
  simp only
  rw [e]
  exact hg
theorem makeG {C : Addr} (M : Mk X.K C f) (F : FnG X.prog X.w X.K X.mg X.base k f fd ps sp) (hg : X.A.guards = some []) (hr : Room (k + 1) X.A) (hb : Binds X.K fd ps []) (tk : Takes X W) {Q : VK} {us : List Value} {vs : List V}
    (I : Inv X pins σ H s) (r : Vals vs us)
    (q : ∀ x dx, H x = none → H dx = none → dx ≠ x → sp (.ref x :: vs) (upd (upd H dx (.own x)) x (.ins C dx [])) (fun v H2 => v = .non ∧ Q (.ref x) H2) fun c d H' => W c d σ H') :
    wpAny (model X.prog X.w) X.A (call (.ref C) us) (EP X pins σ Q) X.xe s := by
  have fr0 := I.hok.fresh (Nat.le_refl s.heap.objs.size)
  have fr1 := I.hok.fresh (Nat.le_succ s.heap.objs.size)
  have q1 := q _ _ fr1 fr0 (Nat.ne_of_lt (Nat.lt_succ_self _))
  have J := Inv.made (C := C) I
  have rr : Vals (V.ref (s.heap.objs.size + 1) :: vs) (Value.ref (s.heap.objs.size + 1) :: us) := .cons rfl r
  have n : ((Value.ref (s.heap.objs.size + 1) :: us) ++ []).length = ps.length := by
    rw [List.append_nil, ← rr.length]; exact F.len _ _ _ _ q1
  have b := fun s' kin => hb s' (Value.ref (s.heap.objs.size + 1) :: us) kin n
  simp only [List.append_nil] at b
  have run := F.run _ X.stack _ _ ⟨Value.ref (s.heap.objs.size + 1) :: us, []⟩ (Value.ref (s.heap.objs.size + 1) :: us) _ _ _ (guards_make hg) (hr.make C us []) (J.env0.make C us []) (b _ J.kIn) rr q1
  refine wpAny_call (make_map (f := f) I.kIn M.makes M.init (beq_iff_eq.mp M.fn) (codeAny_mono run fun res s' z => ?_))
  match res, z with
  | .error e, z => exact tk e s' (XE.of_call J (fun _ _ _ y => y) z)
  | .ok (.ret u), z =>
    obtain ⟨v, H', J', rv, ev, q3⟩ := J.after z
    subst ev
    exact ⟨rv, .ref (s.heap.objs.size + 1), H', J', rfl, q3⟩
  | .ok .next, z => exact False.elim z
  | .ok .brk, z => exact False.elim z
  | .ok .cont, z => exact False.elim z
end

/-! ### the text's facts and the reading of expressions -/
/-- a def of the text as it stands -/
structure Fn where
  f : Addr
  fd : FuncData
  ps : List Str
structure Nms where
  fn : Nat → Str
  cl : Nat → Str
  gl : Nat → Str
  fl : Nat → Str
structure Dat where
  G : Stat
  Γ : Gam
  nm : Nms
  fn : Nat → Option Fn
  gv : Nat → Option Value
/-- the promise of a def by the interpreter -/
def spI (D : Dat) (f : Nat) : Sp := fun vs' H Q E => ∃ F μ h vs, Sim (D.G.wf F) μ h H ∧ RVs μ vs vs' ∧ WP (D.G.wf F) (fun c d _ H' => E c d H') [] RV μ (D.Γ.call f vs h) Q
/-- the classes' and names' facts over K -/
structure Facts (D : Dat) (X : Cx) : Prop where
  K : X.K = D.G.K
  mg : X.mg = D.G.mg
  fl : D.nm.fl = D.G.fld
  cls : ∀ C, D.Γ.clsAt C ≠ none → Cls D.G.K (D.G.cls C)
structure Syn where
  N : List Str
  sc : Scope
  calm : Bool
def vis (sc : Scope) (x : Str) : Bool := match sc.names.lookup x with
  | some .local => true
  | some .cell => true
  | some .free => true
  | _ => false
def gbl (sc : Scope) (x : Str) : Bool := match sc.names.lookup x with
  | some .globalImplicit => true
  | _ => false
def okName (x : Str) : Bool := !(x == ("__debug__" : Str)) && !(x == ("__classdict__" : Str)) && !(x == ("__name__" : Str))
theorem vis_ok {sc : Scope} {x : Str} (h : vis sc x = true) : Vis sc x := by
  unfold vis at h
  unfold Vis
  split at h
  · rename_i e; exact .inl e
  · rename_i e; exact .inr (.inl e)
  · rename_i e; exact .inr (.inr e)
  · cases h
theorem gbl_ok {sc : Scope} {x : Str} (h : gbl sc x = true) : sc.names.lookup x = some .globalImplicit := by
  unfold gbl at h
  split at h
  · rename_i e; exact e
  · cases h
theorem okName_ok {x : Str} (h : okName x = true) : (x == ("__debug__" : Str)) = false ∧ (x == ("__classdict__" : Str)) = false ∧ x ≠ "__name__" := by
  unfold okName at h
  simp only [Bool.and_eq_true, Bool.not_eq_true'] at h
  exact ⟨h.1.1, h.1.2, fun e => by have z := h.2; rw [e] at z; simp at z⟩
/-- the exception that is being handled: its name's slot, its place, its class, its dict -/
abbrev CurR := Option (Option Nat × Addr × Value × Option Addr)
def CurOk (G : Stat) (μ : List Addr) (τ : St) : CurR → Option (Nat × Nat) → Prop
  | none, none => True
  | some (i, a, cv, dA), some (C, d) => cv = .ref (G.cls C) ∧ (∃ d', dA = some d' ∧ μ[d]? = some d') ∧ ∀ n, i = some n → τ[n]? = some (some (.ref a))
  | _, _ => False
theorem CurOk.mono {G : Stat} {μ μ' : List Addr} {τ : St} (p : μ <+: μ') : ∀ {r : CurR} {c : Option (Nat × Nat)}, CurOk G μ τ r c → CurOk G μ' τ r c
  | none, none, _ => trivial
  | some _, some _, ⟨e, ⟨d', e1, e2⟩, k⟩ => ⟨e, ⟨d', e1, pre_get p e2⟩, k⟩
  | none, some _, h => h.elim
  | some _, none, h => h.elim
def tE (D : Dat) (W : WX) (R : CurR) (m : ME) : TE := fun τ H Q => ∃ F μ σ h c, RS μ σ τ ∧ Sim (D.G.wf F) μ h H ∧ CurOk D.G μ τ R c ∧ WP (D.G.wf F) W τ RV μ (evE D.Γ c false m σ h) Q
def RB (_ : List Addr) (v : V) (b : Bool) : Prop := v = .bl b
def tT (D : Dat) (W : WX) (R : CurR) (m : ME) : TT := fun τ H Q => ∃ F μ σ h c, RS μ σ τ ∧ Sim (D.G.wf F) μ h H ∧ CurOk D.G μ τ R c ∧ WP (D.G.wf F) W τ RB μ (evE D.Γ c true m σ h) Q
def tA (D : Dat) (W : WX) (R : CurR) (m : MA) : TA := fun τ H Q => ∃ F μ σ h c, RS μ σ τ ∧ Sim (D.G.wf F) μ h H ∧ CurOk D.G μ τ R c ∧ WP (D.G.wf F) W τ RVs μ (evA D.Γ c m σ h) Q
theorem _root_.L2.PE.imp {X : Cx} {e : Expr} {t t' : TE} (a : PE X e t) (f : ∀ σ H Q, t' σ H Q → t σ H Q) : PE X e t' := ⟨fun pins s σ H Q I z => a.run pins s σ H Q I (f σ H Q z)⟩
theorem _root_.L2.PT.imp {X : Cx} {e : Expr} {t t' : TT} (a : PT X e t) (f : ∀ σ H Q, t' σ H Q → t σ H Q) : PT X e t' := ⟨fun pins s σ H Q I z => a.run pins s σ H Q I (f σ H Q z)⟩
theorem _root_.L2.PA.imp {X : Cx} {e : List Expr} {t t' : TA} (a : PA X e t) (f : ∀ σ H Q, t' σ H Q → t σ H Q) : PA X e t' := ⟨fun pos pins s σ H Q I z => a.run pos pins s σ H Q I (f σ H Q z)⟩
/-- the rule hangs on the state -/
theorem _root_.L2.PE.some {X : Cx} {e : Expr} {t' : TE} (a : ∀ σ H Q, t' σ H Q → ∃ t, PE X e t ∧ t σ H Q) : PE X e t' := ⟨fun pins s σ H Q I z => let ⟨_, p, q⟩ := a σ H Q z; p.run pins s σ H Q I q⟩
end MP
end
section
set_option Elab.async false
set_option linter.all false
set_option maxHeartbeats 400000
namespace MP
open PySem L2
def notStar : Expr → Bool
  | .Starred _ _ => false
  | _ => true
theorem star_of {e : Expr} {es : List Expr} {env : Env} (h : notStar e = true) : starEach (e :: es) env = (false, eval e env) :: starEach es env := by
  cases e <;> first | rfl | cases h
theorem backTo_plain {pos : Pos} {env : Env} : ∀ {es : List Expr}, es.all notStar = true → (backTo pos (starEach es env)).any (·.1) = false
  | [], _ => rfl
  | e :: es, h => by
    rw [List.all_cons, Bool.and_eq_true] at h
    rw [star_of h.1]
    show ((false || (backTo pos (starEach es env)).any (·.1)) = false)
    rw [Bool.false_or]
    exact backTo_plain h.2
theorem cmpop_bl {op : CmpOp} {x y z : V} {h h' : IH} (e : cmpop op x y h = some (.val z h')) : ∃ k, z = .bl k := by
  unfold cmpop at e
  (repeat' split at e) <;> first | (cases e; exact ⟨_, rfl⟩) | cases e
theorem cmpop_no {op : CmpOp} {x y : V} {h h' : IH} {C d : Nat} (e : cmpop op x y h = some (.exn C d h')) : False := by
  unfold cmpop at e
  (repeat' split at e) <;> cases e
section
variable {X : Cx} {D : Dat} {W : WX} {R : CurR} {e a b c : Expr} {m ma mb mc : ME} {pos : Pos}
/-- an expression is read as m says -/
structure SE (X : Cx) (D : Dat) (W : WX) (R : CurR) (e : Expr) (m : ME) (t : Bool) : Prop where
  pe : PE X e (tE D W R m)
  pt : t = true → PT X e (tT D W R m)
  pw : t = true → (∃ op vs pos, e = .BoolOp op vs pos) → PW X e (tT D W R m)
  ns : notStar e = true
theorem pt_leaf (hp : PE X e (tE D W R m)) (hk : X.K = D.G.K) (ev : ∀ c σ h, evE D.Γ c true m σ h = bnd (evE D.Γ c false m σ h) (fin true))
    (he : ∀ whole, isTrue e X.env whole = (do let v ← whole; standAt e.pos; holding [v] (truthy v))) : PT X e (tT D W R m) :=
  (pt_truth hp he).imp fun τ H Q ⟨F, μ, σ, h, c, rs, S, hc, w⟩ => by
    rw [ev] at w
    refine ⟨F, μ, σ, h, c, rs, S, hc, WP.imp (WP.bnd (rel := RV) w) fun x' H1 ⟨μ1, x, h1, p1, S1, rx, w1⟩ => ?_⟩
    unfold fin at w1
    split at w1
    · contradiction
    · split at w1
      · rename_i k e
        rw [show X.K = (D.G.wf F).K from hk]
        exact ⟨k, truth_ok S1 rx e, w1.val S1 rfl⟩
      · exact w1.elim
theorem se_leaf (hp : PE X e (tE D W R m)) (hk : X.K = D.G.K) (ev : ∀ c σ h, evE D.Γ c true m σ h = bnd (evE D.Γ c false m σ h) (fin true))
    (he : ∀ whole, isTrue e X.env whole = (do let v ← whole; standAt e.pos; holding [v] (truthy v))) (nb : ∀ op vs pos, e ≠ .BoolOp op vs pos) (ns : notStar e = true) : SE X D W R e m true :=
  ⟨hp, fun _ => pt_leaf hp hk ev he, fun _ ⟨op, vs, pos, z⟩ => absurd z (nb op vs pos), ns⟩
theorem RS.get {μ : List Addr} {σ τ : St} {i : Nat} {v : V} (r : RS μ σ τ) (e : σ[i]? = some (some v)) : ∃ v', τ[i]? = some (some v') ∧ RV μ v v' := by
  obtain ⟨u, h1, h2⟩ := Paired.getP r e
  cases u with
  | none => exact h2.elim
  | some v' => exact ⟨v', h1, h2⟩
theorem ev_fin (m : ME) (h : ∀ (Γ : Gam) (c : Option (Nat × Nat)) (σ : St) (h : IH), ∃ x : EV V, (∀ t, evE Γ c t m σ h = bnd x (fin t))) : ∀ (Γ : Gam) (c : Option (Nat × Nat)) (σ : St) (h : IH), evE Γ c true m σ h = bnd (evE Γ c false m σ h) (fin true) := fun Γ c σ hh => by
  obtain ⟨x, e⟩ := h Γ c σ hh
  rw [e true, e false, bnd_fin]
/-! ### names, constants -/
theorem se_var {i : Nat} {x : Str} (hk : X.K = D.G.K) (hN : X.N[i]? = some x) (hv : Vis X.env.scope x) (ok : okName x = true) : SE X D W R (.Name x pos) (.var i) true := by
  obtain ⟨o1, o2, _⟩ := okName_ok ok
  refine se_leaf ((pe_var hN hv o1 o2).imp fun τ H Q ⟨F, μ, σ, h, c, rs, S, hc, w⟩ => ?_) hk (fun c σ h => ev_fin _ (fun Γ c σ h => ⟨slotV σ i h, fun t => rfl⟩) _ c σ h) (fun _ => rfl) (by intros; intro z; cases z) rfl
  have w : WP (D.G.wf F) W τ RV μ (bnd (slotV σ i h) (fin false)) Q := w
  rw [bnd_fin] at w
  unfold slotV at w
  split at w
  · rename_i v e
    obtain ⟨v', e', r⟩ := RS.get rs e
    exact ⟨v', e', w.val S r⟩
  · exact w.elim
theorem rv_cst {μ : List Addr} {v : V} (h : ∀ a, v ≠ .ref a) : RV μ v v := by
  cases v with
  | ref a => exact absurd rfl (h a)
  | _ => rfl
theorem se_cst {v : V} {e : Expr} (hk : X.K = D.G.K) (hp : PE X e (tC v)) (hv : ∀ a, v ≠ .ref a) (he : ∀ whole, isTrue e X.env whole = (do let v ← whole; standAt e.pos; holding [v] (truthy v))) (nb : ∀ op vs pos, e ≠ .BoolOp op vs pos) (ns : notStar e = true) : SE X D W R e (.cst v) true := by
  refine se_leaf (hp.imp fun τ H Q ⟨F, μ, σ, h, c, rs, S, hc, w⟩ => ?_) hk (fun c σ h => by show fin true v h = bnd (fin false v h) (fin true); rfl) he nb ns
  have w : WP (D.G.wf F) W τ RV μ (ret v h) Q := w
  exact w.val S (rv_cst hv)
/-! ### operators -/
theorem pe_binS {op : Operator} (hk : X.K = D.G.K) (ha : PE X a (tE D W R ma)) (hb : PE X b (tE D W R mb)) : PE X (.BinOp a op b pos) (tE D W R (.bin op ma mb)) :=
  (pe_op (op_bin op) ha hb).imp fun τ H Q ⟨F, μ, σ, h, c, rs, S, hc, w⟩ => by
    simp only [evE, bnd_fin] at w
    refine ⟨F, μ, σ, h, c, rs, S, hc, WP.imp (WP.bnd (rel := RV) w) fun x' H1 ⟨μ1, x, h1, p1, S1, rx, w1⟩ => ?_⟩
    refine ⟨F, μ1, σ, h1, c, rs.mono p1, S1, hc.mono p1, WP.imp (WP.bnd (rel := RV) w1) fun y' H2 ⟨μ2, y, h2, p2, S2, ry, w2⟩ => ?_⟩
    rw [show X.K = (D.G.wf F).K from hk]
    exact binop_ok S2 (rx.mono p2) ry w2
theorem se_bin {op : Operator} (hk : X.K = D.G.K) (ha : PE X a (tE D W R ma)) (hb : PE X b (tE D W R mb)) : SE X D W R (.BinOp a op b pos) (.bin op ma mb) true :=
  se_leaf (pe_binS hk ha hb) hk (fun c σ h => ev_fin _ (fun Γ c σ h => ⟨_, fun t => rfl⟩) _ c σ h) (fun _ => rfl) (by intros; intro z; cases z) rfl
theorem se_neg (hk : X.K = D.G.K) (ha : PE X a (tE D W R ma)) : SE X D W R (.UnaryOp .USub a pos) (.neg ma) true :=
  se_leaf ((pe_un un_neg ha).imp fun τ H Q ⟨F, μ, σ, h, c, rs, S, hc, w⟩ => by
    simp only [evE, bnd_fin] at w
    refine ⟨F, μ, σ, h, c, rs, S, hc, WP.imp (WP.bnd (rel := RV) w) fun x' H1 ⟨μ1, x, h1, p1, S1, rx, w1⟩ => ?_⟩
    unfold negV at w1
    split at w1
    · cases rx
      exact ⟨_, rfl, w1.val S1 rfl⟩
    · exact w1.elim) hk (fun c σ h => ev_fin _ (fun Γ c σ h => ⟨_, fun t => rfl⟩) _ c σ h) (fun _ => rfl) (by intros; intro z; cases z) rfl
theorem pe_cmpS {op : CmpOp} (hk : X.K = D.G.K) (hu : X.A.units + 64 < cLine) (ha : PE X a (tE D W R ma)) (hb : PE X b (tE D W R mb)) (hm : behindInMarks op b = false) : PE X (.Compare a [op] [b] pos) (tE D W R (.cmp op ma mb)) :=
  (pe_cmpR (op_cmp hu op) ha hb hm).imp fun τ H Q ⟨F, μ, σ, h, c, rs, S, hc, w⟩ => by
    simp only [evE, bnd_fin] at w
    refine ⟨F, μ, σ, h, c, rs, S, hc, WP.imp (WP.bnd (rel := RV) w) fun x' H1 ⟨μ1, x, h1, p1, S1, rx, w1⟩ => ?_⟩
    refine ⟨F, μ1, σ, h1, c, rs.mono p1, S1, hc.mono p1, WP.imp (WP.bnd (rel := RV) w1) fun y' H2 ⟨μ2, y, h2, p2, S2, ry, w2⟩ => ?_⟩
    rw [show X.K = (D.G.wf F).K from hk]
    exact cmpop_ok S2 (rx.mono p2) ry w2
theorem bnd_assoc {α β γ : Type} (x : EV α) (k : α → IH → EV β) (l : β → IH → EV γ) : bnd (bnd x k) l = bnd x fun a h => bnd (k a h) l := by
  cases x with
  | none => rfl
  | some o => cases o <;> rfl
/-- what a comparison gives, as a test -/
theorem cmp_test {G : Stat} {τ : St} {μ : List Addr} {op : CmpOp} {x y : V} {h : IH} {Q : Bool → Hp → Prop} (w : WP G W τ RB μ (bnd (cmpop op x y h) (fin true)) Q) : WP G W τ RV μ (cmpop op x y h) fun z H' => ∃ k, z = .bl k ∧ Q k H' := by
  cases e : cmpop op x y h with
  | none => rw [e] at w; exact w
  | some o =>
    cases o with
    | exn C d h' => exact (cmpop_no e).elim
    | val z h' =>
      obtain ⟨k, rfl⟩ := cmpop_bl e
      rw [e] at w
      intro μ' H' v' p S r
      cases r
      exact ⟨k, rfl, w μ' H' k p S rfl⟩
theorem se_cmp {op : CmpOp} (hk : X.K = D.G.K) (hu : X.A.units + 64 < cLine) (ha : PE X a (tE D W R ma)) (hb : PE X b (tE D W R mb)) (hm : behindInMarks op b = false) : SE X D W R (.Compare a [op] [b] pos) (.cmp op ma mb) true :=
  ⟨pe_cmpS hk hu ha hb hm, fun _ => (pt_cmpR (op_cmp hu op) ha hb hm).imp fun τ H Q ⟨F, μ, σ, h, c, rs, S, hc, w⟩ => by
    simp only [evE, bnd_assoc] at w
    refine ⟨F, μ, σ, h, c, rs, S, hc, WP.imp (WP.bnd (rel := RV) w) fun x' H1 ⟨μ1, x, h1, p1, S1, rx, w1⟩ => ?_⟩
    refine ⟨F, μ1, σ, h1, c, rs.mono p1, S1, hc.mono p1, WP.imp (WP.bnd (rel := RV) w1) fun y' H2 ⟨μ2, y, h2, p2, S2, ry, w2⟩ => ?_⟩
    rw [show X.K = (D.G.wf F).K from hk]
    exact cmpop_ok S2 (rx.mono p2) ry (cmp_test w2), fun _ ⟨_, _, _, z⟩ => (by cases z), rfl⟩
theorem se_cmp2 {op op' : CmpOp} (hk : X.K = D.G.K) (hu : X.A.units + 64 < cLine) (ha : PE X a (tE D W R ma)) (hb : PE X b (tE D W R mb)) (hc' : PE X c (tE D W R mc)) (hm : behindInMarks op' c = false) : SE X D W R (.Compare a [op, op'] [b, c] pos) (.cmp2 op op' ma mb mc) true := by
  have sub : ∀ {τ : St} {H : Hp} {β : Type} {rel : List Addr → V → β → Prop} {Q : β → Hp → Prop} {Q' : VK} {t : Bool},
      (∀ {F : Hp} {μ : List Addr} {y w : V} {h : IH}, WP (D.G.wf F) W τ rel μ (bnd (cmpop op' y w h) (fin t)) Q → WP (D.G.wf F) W τ RV μ (cmpop op' y w h) Q') → (∀ {F : Hp} {μ : List Addr} {h : IH} {H : Hp}, Sim (D.G.wf F) μ h H → WP (D.G.wf F) W τ rel μ (ret (.bl false) h) Q → Q' (.bl false) H) →
      (∃ F μ σ h c, RS μ σ τ ∧ Sim (D.G.wf F) μ h H ∧ CurOk D.G μ τ R c ∧ WP (D.G.wf F) W τ rel μ (evE D.Γ c t (.cmp2 op op' ma mb mc) σ h) Q) → tChain (rCmp X.K op) (rCmp X.K op') (tE D W R ma) (tE D W R mb) (tE D W R mc) τ H Q' := by
    intro τ H β rel Q Q' t h1 h2 ⟨F, μ, σ, h, c, rs, S, hc, w⟩
    simp only [evE] at w
    refine ⟨F, μ, σ, h, c, rs, S, hc, WP.imp (WP.bnd (rel := RV) w) fun x' H1 ⟨μ1, x, h1', p1, S1, rx, w1⟩ => ?_⟩
    refine ⟨F, μ1, σ, h1', c, rs.mono p1, S1, hc.mono p1, WP.imp (WP.bnd (rel := RV) w1) fun y' H2 ⟨μ2, y, h2', p2, S2, ry, w2⟩ => ?_⟩
    rw [show X.K = (D.G.wf F).K from hk]
    refine cmpop_ok S2 (rx.mono p2) ry (WP.imp (WP.bnd (rel := RV) w2) fun z' H3 ⟨μ3, z, h3', p3, S3, rz, w3⟩ => ?_)
    split at w3
    · cases rz
      refine ⟨true, rfl, ?_⟩
      rw [if_pos rfl]
      refine ⟨F, μ3, σ, h3', c, ((rs.mono p1).mono p2).mono p3, S3, ((hc.mono p1).mono p2).mono p3, WP.imp (WP.bnd (rel := RV) w3) fun u' H4 ⟨μ4, u, h4', p4, S4, ru, w4⟩ => ?_⟩
      exact cmpop_ok S4 ((ry.mono p3).mono p4) ru (h1 w4)
    · cases rz
      refine ⟨false, rfl, ?_⟩
      rw [if_neg Bool.false_ne_true]
      exact h2 S3 w3
    · exact w3.elim
  refine ⟨(pe_chain (op_cmp hu op) (op_cmp hu op') ha hb hc' hm).imp fun τ H Q z => sub (β := V) (rel := RV) (t := false) (fun w => by rw [bnd_fin] at w; exact w) (fun S w => w.val S rfl) z, fun _ => (pt_chain (op_cmp hu op) (op_cmp hu op') ha hb hc' hm).imp fun τ H Q z => sub (β := Bool) (rel := RB) (t := true) (fun w => cmp_test w) (fun S w => ⟨false, rfl, w.val S rfl⟩) z, fun _ ⟨_, _, _, z⟩ => (by cases z), rfl⟩
end
end MP
end
section
set_option Elab.async false
set_option linter.all false
set_option maxHeartbeats 400000
namespace MP
open PySem L2
/-- what every context of a body bears -/
structure EX (X : Cx) (D : Dat) : Prop where
  K : X.K = D.G.K
  gd : X.A.guards = some []
  un : X.A.units + 64 < cLine
structure EC (k : Nat) (X : Cx) (D : Dat) (W : WX) : Prop extends EX X D where
  rm : Room k X.A
  tk : Takes X W
  cm : X.calm = true
section
variable {X : Cx} {D : Dat} {W : WX} {R : CurR} {e a b c : Expr} {m ma mb mc : ME} {pos : Pos} {t : Bool} {es rest : List Expr} {ms : MA}
theorem SE.any (h : SE X D W R e m true) : SE X D W R e m t := ⟨h.pe, fun _ => h.pt rfl, fun _ => h.pw rfl, h.ns⟩
theorem SE.val (h : SE X D W R e m t) : SE X D W R e m false := ⟨h.pe, fun z => (by cases z), fun z => (by cases z), h.ns⟩
theorem se_one {op : BoolOp} (ha : SE X D W R a ma t) : SE X D W R (.BoolOp op [a] pos) ma t :=
  have pw : t = true → PW X (.BoolOp op [a] pos) (tT D W R ma) := fun z => match op with
    | .And => pw_and1 (ha.pt z)
    | .Or => pw_or1 (ha.pt z)
  ⟨pe_one ha.pe, fun z => (pw z).pt, fun z _ => pw z, rfl⟩
theorem and_step {F : Hp} {β : Type} {rel : List Addr → V → β → Prop} {τ : St} {H : Hp} {μ : List Addr} {σ : St} {h : IH} {cu : Option (Nat × Nat)} {x : V} {Q : β → Hp → Prop} {k : Bool}
    (w : WP (D.G.wf F) W τ rel μ (match x with
      | .bl true => evE D.Γ cu t mb σ h
      | .bl false => ret (.bl false) h
      | _ => none) Q) : (x = .bl true ∧ WP (D.G.wf F) W τ rel μ (evE D.Γ cu t mb σ h) Q) ∨ (x = .bl false ∧ WP (D.G.wf F) W τ rel μ (ret (.bl false) h) Q) := by
  split at w
  · exact .inl ⟨rfl, w⟩
  · exact .inr ⟨rfl, w⟩
  · exact w.elim
theorem or_step {F : Hp} {β : Type} {rel : List Addr → V → β → Prop} {τ : St} {H : Hp} {μ : List Addr} {σ : St} {h : IH} {cu : Option (Nat × Nat)} {x : V} {Q : β → Hp → Prop} {k : Bool}
    (w : WP (D.G.wf F) W τ rel μ (match x with
      | .bl false => evE D.Γ cu t mb σ h
      | .bl true => ret (.bl true) h
      | _ => none) Q) : (x = .bl false ∧ WP (D.G.wf F) W τ rel μ (evE D.Γ cu t mb σ h) Q) ∨ (x = .bl true ∧ WP (D.G.wf F) W τ rel μ (ret (.bl true) h) Q) := by
  split at w
  · exact .inl ⟨rfl, w⟩
  · exact .inr ⟨rfl, w⟩
  · exact w.elim
theorem se_and (ha : SE X D W R a ma t) (hb : SE X D W R (.BoolOp .And (b :: rest) pos) mb t) : SE X D W R (.BoolOp .And (a :: b :: rest) pos) (.andE ma mb) t := by
  have pw : t = true → PW X (.BoolOp .And (a :: b :: rest) pos) (tT D W R (.andE ma mb)) := fun z => by
    subst z
    refine ⟨fun wh pins s τ H Q I y => (pw_and (ha.pt rfl) (hb.pw rfl ⟨_, _, _, rfl⟩)).run wh pins s τ H Q I ?_⟩
    obtain ⟨F, μ, σ, h, cu, rs, S, hc, w⟩ := y
    simp only [evE] at w
    refine ⟨F, μ, σ, h, cu, rs, S, hc, WP.imp (WP.bnd (rel := RB) w) fun x' H1 ⟨μ1, x, h1, p1, S1, rx, w1⟩ => ?_⟩
    rcases and_step (H := H) (k := true) w1 with ⟨e, w2⟩ | ⟨e, w2⟩
    · have : x' = true := by rw [show x = .bl x' from rx] at e; cases e; rfl
      subst this
      rw [if_pos rfl]
      exact ⟨F, μ1, σ, h1, cu, rs.mono p1, S1, hc.mono p1, w2⟩
    · have : x' = false := by rw [show x = .bl x' from rx] at e; cases e; rfl
      subst this
      rw [if_neg Bool.false_ne_true]
      exact w2.val S1 rfl
  refine ⟨(pe_and ha.pe hb.pe).imp fun τ H Q ⟨F, μ, σ, h, cu, rs, S, hc, w⟩ => ?_, fun z => (pw z).pt, fun z _ => pw z, rfl⟩
  simp only [evE] at w
  refine ⟨F, μ, σ, h, cu, rs, S, hc, WP.imp (WP.bnd (rel := RV) w) fun x' H1 ⟨μ1, x, h1, p1, S1, rx, w1⟩ => ?_⟩
  rcases and_step (H := H) (k := true) w1 with ⟨rfl, w2⟩ | ⟨rfl, w2⟩
  · cases rx
    refine ⟨true, rfl, ?_⟩
    rw [if_pos rfl]
    exact ⟨F, μ1, σ, h1, cu, rs.mono p1, S1, hc.mono p1, w2⟩
  · cases rx
    refine ⟨false, rfl, ?_⟩
    rw [if_neg Bool.false_ne_true]
    exact w2.val S1 rfl
theorem se_or (ha : SE X D W R a ma t) (hb : SE X D W R (.BoolOp .Or (b :: rest) pos) mb t) : SE X D W R (.BoolOp .Or (a :: b :: rest) pos) (.orE ma mb) t := by
  have pw : t = true → PW X (.BoolOp .Or (a :: b :: rest) pos) (tT D W R (.orE ma mb)) := fun z => by
    subst z
    refine ⟨fun wh pins s τ H Q I y => (pw_or (ha.pt rfl) (hb.pw rfl ⟨_, _, _, rfl⟩)).run wh pins s τ H Q I ?_⟩
    obtain ⟨F, μ, σ, h, cu, rs, S, hc, w⟩ := y
    simp only [evE] at w
    refine ⟨F, μ, σ, h, cu, rs, S, hc, WP.imp (WP.bnd (rel := RB) w) fun x' H1 ⟨μ1, x, h1, p1, S1, rx, w1⟩ => ?_⟩
    rcases or_step (H := H) (k := true) w1 with ⟨e, w2⟩ | ⟨e, w2⟩
    · have : x' = false := by rw [show x = .bl x' from rx] at e; cases e; rfl
      subst this
      rw [if_neg Bool.false_ne_true]
      exact ⟨F, μ1, σ, h1, cu, rs.mono p1, S1, hc.mono p1, w2⟩
    · have : x' = true := by rw [show x = .bl x' from rx] at e; cases e; rfl
      subst this
      rw [if_pos rfl]
      exact w2.val S1 rfl
  refine ⟨(pe_or ha.pe hb.pe).imp fun τ H Q ⟨F, μ, σ, h, cu, rs, S, hc, w⟩ => ?_, fun z => (pw z).pt, fun z _ => pw z, rfl⟩
  simp only [evE] at w
  refine ⟨F, μ, σ, h, cu, rs, S, hc, WP.imp (WP.bnd (rel := RV) w) fun x' H1 ⟨μ1, x, h1, p1, S1, rx, w1⟩ => ?_⟩
  rcases or_step (H := H) (k := true) w1 with ⟨rfl, w2⟩ | ⟨rfl, w2⟩
  · cases rx
    refine ⟨false, rfl, ?_⟩
    rw [if_neg Bool.false_ne_true]
    exact ⟨F, μ1, σ, h1, cu, rs.mono p1, S1, hc.mono p1, w2⟩
  · cases rx
    refine ⟨true, rfl, ?_⟩
    rw [if_pos rfl]
    exact w2.val S1 rfl
theorem se_not (ha : SE X D W R a ma t) : SE X D W R (.UnaryOp .Not a pos) (.notE ma) t := by
  refine ⟨(pe_not ha.pe).imp fun τ H Q ⟨F, μ, σ, h, cu, rs, S, hc, w⟩ => ?_, fun z => ?_, fun _ ⟨_, _, _, z⟩ => (by cases z), rfl⟩
  · simp only [evE] at w
    refine ⟨F, μ, σ, h, cu, rs, S, hc, WP.imp (WP.bnd (rel := RV) w) fun x' H1 ⟨μ1, x, h1, p1, S1, rx, w1⟩ => ?_⟩
    unfold notV at w1
    split at w1
    · cases rx
      exact ⟨_, rfl, w1.val S1 rfl⟩
    · exact w1.elim
  · subst z
    refine (pt_not (ha.pt rfl)).imp fun τ H Q ⟨F, μ, σ, h, cu, rs, S, hc, w⟩ => ?_
    simp only [evE] at w
    refine ⟨F, μ, σ, h, cu, rs, S, hc, WP.imp (WP.bnd (rel := RB) w) fun x' H1 ⟨μ1, x, h1, p1, S1, rx, w1⟩ => ?_⟩
    have rx : x = .bl x' := rx
    subst rx
    exact w1.val S1 rfl
theorem se_ife (hc' : SE X D W R c mc true) (ha : SE X D W R a ma false) (hb : SE X D W R b mb false) : SE X D W R (.IfExp c a b pos) (.ife mc ma mb) false := by
  refine ⟨(pe_ifExp (hc'.pt rfl) ha.pe hb.pe).imp fun τ H Q ⟨F, μ, σ, h, cu, rs, S, hc, w⟩ => ?_, fun z => (by cases z), fun z => (by cases z), rfl⟩
  simp only [evE, bnd_fin] at w
  refine ⟨F, μ, σ, h, cu, rs, S, hc, WP.imp (WP.bnd (rel := RB) w) fun x' H1 ⟨μ1, x, h1, p1, S1, rx, w1⟩ => ?_⟩
  have rx : x = .bl x' := rx
  subst rx
  cases x' with
  | true => rw [if_pos rfl]; exact ⟨F, μ1, σ, h1, cu, rs.mono p1, S1, hc.mono p1, w1⟩
  | false => rw [if_neg Bool.false_ne_true]; exact ⟨F, μ1, σ, h1, cu, rs.mono p1, S1, hc.mono p1, w1⟩
/-- argument lists -/
structure SA (X : Cx) (D : Dat) (W : WX) (R : CurR) (es : List Expr) (ms : MA) : Prop where
  pa : PA X es (tA D W R ms)
  ns : es.all notStar = true
theorem sa_nil : SA X D W R [] .nil := ⟨pa_nil.imp fun τ H Q ⟨F, μ, σ, h, cu, rs, S, hc, w⟩ => by
  simp only [evA] at w
  exact w.val S .nil, rfl⟩
theorem sa_cons (ha : SE X D W R e m false) (hr : SA X D W R es ms) : SA X D W R (e :: es) (.cons m ms) := ⟨(pa_cons ha.pe hr.pa (star_of ha.ns)).imp fun τ H Q ⟨F, μ, σ, h, cu, rs, S, hc, w⟩ => by
  simp only [evA] at w
  refine ⟨F, μ, σ, h, cu, rs, S, hc, WP.imp (WP.bnd (rel := RV) w) fun x' H1 ⟨μ1, x, h1, p1, S1, rx, w1⟩ => ?_⟩
  refine ⟨F, μ1, σ, h1, cu, rs.mono p1, S1, hc.mono p1, WP.imp (WP.bnd (rel := RVs) w1) fun xs' H2 ⟨μ2, xs, h2, p2, S2, rxs, w2⟩ => ?_⟩
  exact w2.val S2 (.cons (rx.mono p2) rxs), by rw [List.all_cons, ha.ns, hr.ns]; rfl⟩
theorem se_lst (hk : EX X D) (ha : SA X D W R es ms) : SE X D W R (.List es pos) (.lst ms) t :=
  (se_leaf ((pe_lst ha.pa).imp fun τ H Q ⟨F, μ, σ, h, c, rs, S, hc, w⟩ => by
    simp only [evE, bnd_fin] at w
    refine ⟨F, μ, σ, h, c, rs, S, hc, WP.imp (WP.bnd (rel := RVs) w) fun xs' H1 ⟨μ1, xs, h1, p1, S1, rx, w1⟩ => ?_⟩
    unfold listV at w1
    split at w1
    · rename_i hl
      exact ⟨by rw [← Paired.length rx]; exact hl, fun p hp => w1.new S1 hp (objs_lst rx)⟩
    · exact w1.elim) hk.K (fun c σ h => ev_fin _ (fun Γ c σ h => ⟨_, fun t => rfl⟩) _ c σ h) (fun _ => rfl) (by intros; intro z; cases z) rfl).any
theorem se_tup {x1 : Nat} (hk : EX X D) (ha : SA X D W R es ms) : SE X D W R (.Tuple es x1 pos) (.tup ms) t :=
  (se_leaf ((pe_tup ha.pa).imp fun τ H Q ⟨F, μ, σ, h, c, rs, S, hc, w⟩ => by
    simp only [evE, bnd_fin] at w
    refine ⟨F, μ, σ, h, c, rs, S, hc, WP.imp (WP.bnd (rel := RVs) w) fun xs' H1 ⟨μ1, xs, h1, p1, S1, rx, w1⟩ => ?_⟩
    unfold tupV at w1
    split at w1
    · rename_i hl
      exact ⟨by rw [← Paired.length rx]; exact hl, fun p hp => w1.new S1 hp (objs_tup rx)⟩
    · exact w1.elim) hk.K (fun c σ h => ev_fin _ (fun Γ c σ h => ⟨_, fun t => rfl⟩) _ c σ h) (fun _ => rfl) (by intros; intro z; cases z) rfl).any
theorem se_ix (hk : EX X D) (ha : SE X D W R a ma false) (hb : SE X D W R b mb false) (hp : PlainIx b) : SE X D W R (.Subscript a b pos) (.ix ma mb) t :=
  (se_leaf ((pe_ix ix_seq ha.pe hb.pe hp).imp fun τ H Q ⟨F, μ, σ, h, c, rs, S, hc, w⟩ => by
    simp only [evE, bnd_fin] at w
    refine ⟨F, μ, σ, h, c, rs, S, hc, WP.imp (WP.bnd (rel := RV) w) fun x' H1 ⟨μ1, x, h1, p1, S1, rx, w1⟩ => ?_⟩
    refine ⟨F, μ1, σ, h1, c, rs.mono p1, S1, hc.mono p1, WP.imp (WP.bnd (rel := RV) w1) fun y' H2 ⟨μ2, y, h2, p2, S2, ry, w2⟩ => ?_⟩
    rw [show X.K = (D.G.wf F).K from hk.K]
    exact getix_ok S2 (rx.mono p2) ry w2) hk.K (fun c σ h => ev_fin _ (fun Γ c σ h => ⟨_, fun t => rfl⟩) _ c σ h) (fun _ => rfl) (by intros; intro z; cases z) rfl).any
/-- a bound of a slice -/
def RI (_ : List Addr) (x y : Option Int) : Prop := x = y
def tO (D : Dat) (W : WX) (R : CurR) (m : MO) : TO := fun τ H Q => ∃ F μ σ h c, RS μ σ τ ∧ Sim (D.G.wf F) μ h H ∧ CurOk D.G μ τ R c ∧ WP (D.G.wf F) W τ RI μ (evO D.Γ c m σ h) Q
theorem _root_.L2.PO.imp {X : Cx} {e : Option Expr} {t t' : TO} (a : PO X e t) (f : ∀ σ H Q, t' σ H Q → t σ H Q) : PO X e t' := ⟨fun pins s σ H Q I z => a.run pins s σ H Q I (f σ H Q z)⟩
theorem so_none : PO X none (tO D W R .none) := po_none.imp fun τ H Q ⟨F, μ, σ, h, c, rs, S, hc, w⟩ => by
  simp only [evO] at w
  exact w.val S rfl
theorem so_some (ha : SE X D W R a ma false) : PO X (some a) (tO D W R (.some ma)) := (po_some ha.pe).imp fun τ H Q ⟨F, μ, σ, h, c, rs, S, hc, w⟩ => by
  simp only [evO] at w
  refine ⟨F, μ, σ, h, c, rs, S, hc, WP.imp (WP.bnd (rel := RV) w) fun x' H1 ⟨μ1, x, h1, p1, S1, rx, w1⟩ => ?_⟩
  unfold oneInt at w1
  split at w1
  · cases rx
    exact ⟨_, rfl, w1.val S1 rfl⟩
  · exact w1.elim
theorem se_sl {lo hi : Option Expr} {ml mh : MO} {p2 : Pos} (hk : EX X D) (ha : SE X D W R a ma false) (hl : PO X lo (tO D W R ml)) (hh : PO X hi (tO D W R mh)) : SE X D W R (.Subscript a (.Slice lo hi none p2) pos) (.sl ma ml mh) t :=
  (se_leaf ((pe_slice sl_all ha.pe hl hh).imp fun τ H Q ⟨F, μ, σ, h, c, rs, S, hc, w⟩ => by
    simp only [evE, bnd_fin] at w
    refine ⟨F, μ, σ, h, c, rs, S, hc, WP.imp (WP.bnd (rel := RV) w) fun x' H1 ⟨μ1, x, h1, p1, S1, rx, w1⟩ => ?_⟩
    refine ⟨F, μ1, σ, h1, c, rs.mono p1, S1, hc.mono p1, WP.imp (WP.bnd (rel := RI) w1) fun y' H2 ⟨μ2, y, h2, p2, S2, ry, w2⟩ => ?_⟩
    refine ⟨F, μ2, σ, h2, c, (rs.mono p1).mono p2, S2, (hc.mono p1).mono p2, WP.imp (WP.bnd (rel := RI) w2) fun z' H3 ⟨μ3, z, h3, p3, S3, rz, w3⟩ => ?_⟩
    have ry : y = y' := ry
    have rz : z = z' := rz
    subst ry rz
    rw [show X.K = (D.G.wf F).K from hk.K]
    exact getsl_ok S3 ((rx.mono p2).mono p3) w3) hk.K (fun c σ h => ev_fin _ (fun Γ c σ h => ⟨_, fun t => rfl⟩) _ c σ h) (fun _ => rfl) (by intros; intro z; cases z) rfl).any
/-- a global value -/
theorem se_glb {x : Str} {u : Value} {g : Nat} {v v' : V} (hk : EX X D) (hg : Gl X x) (hm : X.mg x = some u) (r : RelV v' u) (rv : RV D.G.pre v v') (hv : D.Γ.glob g = some v) (hd : (x == ("__debug__" : Str)) = false) : SE X D W R (.Name x pos) (.glb g) t :=
  (se_leaf ((pe_glob hg hm r hd).imp fun τ H Q ⟨F, μ, σ, h, c, rs, S, hc, w⟩ => by
    simp only [evE, hv, optV, bnd_fin] at w
    exact w.val S (rv.mono S.pre)) hk.K (fun c σ h => ev_fin _ (fun Γ c σ h => ⟨_, fun t => rfl⟩) _ c σ h) (fun _ => rfl) (by intros; intro z; cases z) rfl).any
end
end MP
end
section
set_option Elab.async false
set_option linter.all false
set_option maxHeartbeats 400000
namespace MP
open PySem L2
/-- a def at its place a, its promise with room 2 * k -/
structure FK (P : Program) (w : World) (K : PySem.W.Frag) (mg : Str → Option Value) (base : Heap) (D : Dat) (k f : Nat) (a : Addr) : Prop where
  ex : ∃ fd ps, FnG P w K mg base (2 * k) a fd ps (spI D f) ∧ Binds K fd ps []
def dnN : Dn → Str
  | .eq | .ne => "__eq__"
  | .inn | .nin => "__contains__"
  | .add => "__add__"
  | .mul => "__mul__"
  | .and => "__and__"
  | .or => "__or__"
  | .xor => "__xor__"
  | .get => "__getitem__"
  | .inv => "__invert__"
  | .len => "__len__"
/-- an own method with a form of its own -/
structure DunF (K : PySem.W.Frag) (C : Addr) (d : Dn) (a : Addr) : Prop where
  fi : PySem.W.findIn K (.ref C) (dnN d) = some (some (.ref a))
  fn : PySem.W.isFn K (.ref a) = true
  sf : PySem.W.selfFirst K C = true
/-- what isinstance asks of an own class -/
structure IsF (K : PySem.W.Frag) (C : Addr) : Prop where
  cl : Cls K C
  cc : PySem.W.findIn K (.ref C) "__class__" = some (some (.builtin "object.__class__"))
  cg : PySem.W.specialIn K (.builtin "object.__class__") "__get__" = some (some (.builtin "getset_descriptor.__get__"))
  ct : PySem.W.takesIn K (.builtin "object.__class__") = some true
  cm : PySem.W.mroIn K C (.type "object") = some true
  ne : PySem.W.findIn K (.ref C) "__ne__" = some (some (.builtin "object.__ne__"))
  kb : ∀ T : BT, PySem.W.kitOne K (.type (btN T)) (.ref C) = some false
/-- == and != say at once that something of another kind is unlike -/
def NotImp (P : Program) (w : World) (K : PySem.W.Frag) (mg : Str → Option Value) (base : Heap) (k : Nat) (C : Addr) : Prop :=
  ∀ (X : Cx) (pins : List (Addr × Obj)) (τ : St) (H : Hp) (s : Shared) (op : CmpOp) (a : Addr) (ox : Obj) (od : Option Obj) (u : Value) (y' : V) (T : BT) (Q : VK), X.prog = P → X.w = w → X.K = K → X.mg = mg → X.base = base → X.A.guards = some [] → Room (2 * k + 1) X.A →
    Inv X pins τ H s → PySem.W.InstAt s.heap a ox C od → RelV y' u → TyX K H y' (.type (btN T)) → (op = .Eq ∨ op = .NotEq) → Q (.bl (match op with | .NotEq => true | _ => false)) H → wpAny (model X.prog X.w) X.A (compareOp op (.ref a) u) (EP X pins τ Q) X.xe s
/-- the classes of the text -/
structure Dyn (P : Program) (w : World) (K : PySem.W.Frag) (mg : Str → Option Value) (base : Heap) (D : Dat) (k : Nat) : Prop where
  init : ∀ C f, D.Γ.init C = some f → ∃ a, Mk K (D.G.cls C) a ∧ FK P w K mg base D k f a
  callm : ∀ C f, D.Γ.callm C = some f → ∃ a, Cls K (D.G.cls C) ∧ StX.CallO K (D.G.cls C) a ∧ FK P w K mg base D k f a
  prop : ∀ C x f, D.Γ.prop C x = some f → ∃ p a, Cls K (D.G.cls C) ∧ PropOf K (D.G.cls C) (D.G.fld x) p a ∧ FK P w K mg base D k f a
  meth : ∀ C x f, D.Γ.meth C x = some f → x < D.G.M ∧ ∃ a, Cls K (D.G.cls C) ∧ Meth K (D.G.cls C) (D.G.fld x) a ∧ FK P w K mg base D k f a
  isF : ∀ C x, D.Γ.isF C x = true → x < D.G.M ∧ Cls K (D.G.cls C) ∧ NoAttr K (D.G.cls C) (D.G.fld x)
  con : ∀ C x v, D.Γ.con C x = some v → ∃ mc v' u, ClX.CRead K (D.G.cls C) mc ∧ ClX.CVal K (D.G.cls C) mc (D.G.fld x) v' u ∧ RV D.G.pre v v'
  cmeth : ∀ C x f c, D.Γ.cmeth C x = some (f, true) → D.Γ.clsAt C = some c → D.G.pre[c]? = some (D.G.cls C) ∧ ∃ mc p a, ClX.CRead K (D.G.cls C) mc ∧ ClX.CMet K (D.G.cls C) mc (D.G.fld x) p a ∧ FK P w K mg base D k f a
  smeth : ∀ C x f, D.Γ.cmeth C x = some (f, false) → ∃ mc p a rest, ClX.CRead K (D.G.cls C) mc ∧ PySem.W.findCls K (.ref (D.G.cls C)) mc (D.G.fld x) = some (.get (.builtin "staticmethod.__get__") (.ref p) .none (.ref (D.G.cls C))) ∧
    PySem.W.recIn K p "staticmethod" = some (.ref a :: rest) ∧ PySem.W.keepIn K (.ref a) = true ∧ FK P w K mg base D k f a
  dun : ∀ C d f, D.Γ.dun C d = some f → ∃ a, Cls K (D.G.cls C) ∧ DunF K (D.G.cls C) d a ∧ FK P w K mg base D k f a
  xo : ∀ C f, D.Γ.exf C = some f → f < D.G.M ∧ ExcC K (D.G.cls C) ∧ PySem.W.findIn K (.ref (D.G.cls C)) (D.G.fld f) = some none
  eqg : ∀ C, D.Γ.eqg C = true → NotImp P w K mg base k (D.G.cls C)
  isK : ∀ C, D.Γ.isK C = true → IsF K (D.G.cls C) ∧ ∀ E, D.Γ.isK E = true → PySem.W.kitOne K (.ref (D.G.cls E)) (.ref (D.G.cls C)) = some (D.Γ.sub E C)
/-- where calls may be -/
structure EY (k : Nat) (X : Cx) (D : Dat) (W : WX) : Prop extends EX X D where
  rm : Room (2 * k + 1) X.A
  tk : Takes X W
  cm : X.calm = true
  dy : Dyn X.prog X.w X.K X.mg X.base D k
theorem WP.at {α β : Type} {G : Stat} {W : WX} {τ τ' : St} {rel : List Addr → α → β → Prop} {μ : List Addr} {r : EV α} {Q : β → Hp → Prop} (w : WP G W τ rel μ r Q) : WP G (fun c d _ H => W c d τ H) τ' rel μ r Q := by
  cases r with
  | none => exact w
  | some o => cases o <;> exact w
theorem Sim.fresh {G : Stat} {μ : List Addr} {h : IH} {H : Hp} (S : Sim G μ h H) {p : Addr} {u : HO} (hp : H p = none) : Sim G μ h (upd H p u) :=
  ⟨S.len, fun a o b e1 e2 => ObjS.keep (S.obj a o b e1 e2) fun w z => .inl fun e => (by rw [e, hp] at z; cases z), S.inj, S.pre, fun b o e => (by
    have q := S.frm b o e
    rw [upd_ne (fun z => by rw [z, hp] at q; cases q)]
    exact q), S.fro⟩
section
variable {X : Cx} {D : Dat} {W : WX} {R : CurR} {e a b c o : Expr} {m ma mb mc mo : ME} {pos p apos : Pos} {t : Bool} {es rest : List Expr} {ms : MA} {k f : Nat} {g : Addr}
/-- the call of a def of the text -/
theorem callK {Fr : Hp} (E : EY k X D W) (F : FK X.prog X.w X.K X.mg X.base D k f g) {pins : List (Addr × Obj)} {τ : St} {H : Hp} {s : Shared} {us : List Value} {vs vs' : List V} {μ : List Addr} {h : IH} {Q : VK}
    (I : Inv X pins τ H s) (r : Vals vs' us) (S : Sim (D.G.wf Fr) μ h H) (rv : RVs μ vs vs') (w : WP (D.G.wf Fr) W τ RV μ (D.Γ.call f vs h) Q) : wpAny (model X.prog X.w) X.A (call (.ref g) us) (EP X pins τ Q) X.xe s := by
  obtain ⟨fd, ps, F, hb⟩ := F.ex
  exact callG F E.gd (E.rm.mono (Nat.le_succ _)) hb E.tk I r ⟨Fr, μ, h, vs, S, rv, w.at⟩
/-- an instance made -/
theorem makeK {Fr : Hp} (E : EY k X D W) {C : Nat} {pins : List (Addr × Obj)} {τ : St} {H : Hp} {s : Shared} {us : List Value} {vs vs' : List V} {μ : List Addr} {h : IH} {Q : VK}
    (I : Inv X pins τ H s) (r : Vals vs' us) (S : Sim (D.G.wf Fr) μ h H) (rv : RVs μ vs vs') (w : WP (D.G.wf Fr) W τ RV μ (makeV D.Γ C vs h) Q) : wpAny (model X.prog X.w) X.A (call (.ref (D.G.cls C)) us) (EP X pins τ Q) X.xe s := by
  unfold makeV at w
  split at w
  · rename_i f e
    obtain ⟨g, M, F⟩ := E.dy.init C f e
    obtain ⟨fd, ps, F, hb⟩ := F.ex
    refine makeG M F E.gd E.rm hb E.tk I r fun x dx hx hd ne => ?_
    have S1 := (S.fresh (u := .own x) hd).alloc (p := x) (u := .ins (D.G.cls C) dx []) (o := .ins C []) (by rw [upd_ne (Ne.symm ne)]; exact hx) ⟨dx, [], .nil, upd_same⟩
    have hl : (μ ++ [x])[h.length]? = some x := by rw [S.len, List.getElem?_append_right (Nat.le_refl _)]; simp
    refine ⟨Fr, μ ++ [x], h ++ [.ins C []], .ref h.length :: vs, S1, .cons ⟨x, hl, rfl⟩ (rv.mono len_pre), WP.at (WP.imp (WP.bnd (rel := RV) (w.mono len_pre)) fun v' H2 ⟨μ2, z, h2, p2, S2, rz, w2⟩ => ?_)⟩
    split at w2
    · cases rz
      exact ⟨rfl, w2.val S2 ⟨x, pre_get p2 hl, rfl⟩⟩
    · exact w2.elim
  · exact w.elim
theorem pt_fin (hp : PE X e (tE D W R m)) (hk : X.K = D.G.K) (ev : ∀ (Γ : Gam) (c : Option (Nat × Nat)) (σ : St) (h : IH), ∃ x : EV V, (∀ t, evE Γ c t m σ h = bnd x (fin t))) (he : ∀ whole, isTrue e X.env whole = (do let v ← whole; standAt e.pos; holding [v] (truthy v))) (nb : ∀ op vs pos, e ≠ .BoolOp op vs pos) (ns : notStar e = true) : SE X D W R e m t :=
  (se_leaf hp hk (fun c σ h => ev_fin _ ev _ c σ h) he nb ns).any
/-- f(e, ..), f a def -/
theorem se_call {x : Str} (E : EY k X D W) (hd : (x == ("__debug__" : Str)) = false) (hg : Gl X x) (hm : X.mg x = some (.ref g)) (hk : PySem.W.keepIn X.K (.ref g) = true) (F : FK X.prog X.w X.K X.mg X.base D k f g) (ha : SA X D W R (e :: es) ms) : SE X D W R (.Call (.Name x p) (e :: es) [] pos) (.call f ms) t := by
  have ns := ha.ns
  rw [List.all_cons, Bool.and_eq_true] at ns
  refine pt_fin ⟨fun pins s τ H Q I y => ?_⟩ E.K (fun Γ c σ h => ⟨_, fun t => rfl⟩) (fun _ => rfl) (by intros; intro z; cases z) rfl
  obtain ⟨Fr, μ, σ, h, cu, rs, S, hc, w⟩ := y
  simp only [evE, bnd_fin] at w
  refine wpAny_Call_Name_kw (ld_glob I hg hm ?_ hd)
  refine PySem.W.callWith_K (h₀ := X.base) I.ok.mod.kin hk (thn (ha.pa.run pos pins s τ H _ I ⟨Fr, μ, σ, h, cu, rs, S, hc, WP.bnd (rel := RVs) w⟩) fun us s1 z => ?_) (star_of ns.1) (backTo_plain ns.2)
  obtain ⟨vs', H1, I1, r, μ1, vs, h1, p1, S1, rv, w1⟩ := z
  exact ⟨I1.kIn, callK E F I1 r S1 rv w1⟩
/-- C(e, ..) -/
theorem se_make {x : Str} {C : Nat} (E : EY k X D W) (hd : (x == ("__debug__" : Str)) = false) (hg : Gl X x) (hm : X.mg x = some (.ref (D.G.cls C))) (hk : PySem.W.keepIn X.K (.ref (D.G.cls C)) = true) (ha : SA X D W R (e :: es) ms) : SE X D W R (.Call (.Name x p) (e :: es) [] pos) (.make C ms) t := by
  have ns := ha.ns
  rw [List.all_cons, Bool.and_eq_true] at ns
  refine pt_fin ⟨fun pins s τ H Q I y => ?_⟩ E.K (fun Γ c σ h => ⟨_, fun t => rfl⟩) (fun _ => rfl) (by intros; intro z; cases z) rfl
  obtain ⟨Fr, μ, σ, h, cu, rs, S, hc, w⟩ := y
  simp only [evE, bnd_fin] at w
  refine wpAny_Call_Name_kw (ld_glob I hg hm ?_ hd)
  refine PySem.W.callWith_K (h₀ := X.base) I.ok.mod.kin hk (thn (ha.pa.run pos pins s τ H _ I ⟨Fr, μ, σ, h, cu, rs, S, hc, WP.bnd (rel := RVs) w⟩) fun us s1 z => ?_) (star_of ns.1) (backTo_plain ns.2)
  obtain ⟨vs', H1, I1, r, μ1, vs, h1, p1, S1, rv, w1⟩ := z
  exact ⟨I1.kIn, makeK E I1 r S1 rv w1⟩
/-- the reading of one attribute -/
theorem RF.some {G : Stat} {μ : List Addr} {fs : List (Nat × V)} {gs : List (Str × V)} {f : Nat} {v : V} (r : RF G μ fs gs) (e : lookF f fs = some v) : f < G.M ∧ ∃ v', gs.lookup (G.fld f) = some v' ∧ RV μ v v' := by
  induction r with
  | nil => cases e
  | @cons p q fs gs h r ih =>
    obtain ⟨g, u⟩ := p
    obtain ⟨y, u'⟩ := q
    obtain ⟨h1, h2, h3⟩ := h
    unfold lookF at e
    have h2 : y = G.fld g := h2
    subst h2
    split at e
    · rename_i eq
      cases e
      subst eq
      exact ⟨h1, u', by simp [List.lookup], h3⟩
    · rename_i ne
      obtain ⟨hf, v', l, rv⟩ := ih e
      refine ⟨hf, v', ?_, rv⟩
      have : (G.fld f == G.fld g) = false := by
        rw [beq_eq_false_iff_ne]
        exact fun z => ne (G.fok _ _ hf h1 z)
      rw [List.lookup, this]
      exact l
theorem RF.none {G : Stat} {μ : List Addr} {fs : List (Nat × V)} {gs : List (Str × V)} {f : Nat} (r : RF G μ fs gs) (hf : f < G.M) (e : lookF f fs = none) : gs.lookup (G.fld f) = none := by
  induction r with
  | nil => rfl
  | @cons p q fs gs h r ih =>
    obtain ⟨g, u⟩ := p
    obtain ⟨y, u'⟩ := q
    obtain ⟨h1, h2, h3⟩ := h
    unfold lookF at e
    have h2 : y = G.fld g := h2
    subst h2
    split at e
    · cases e
    · rename_i ne
      have : (G.fld f == G.fld g) = false := by
        rw [beq_eq_false_iff_ne]
        exact fun z => ne (G.fok _ _ hf h1 z)
      rw [List.lookup, this]
      exact ih e
theorem WP.noExn {G : Stat} {τ : St} {μ : List Addr} {r : EV V} {Q : V → Hp → Prop} (w : WP G W τ RV μ (bndN r ret) Q) : WP G (fun _ _ _ _ => False) τ RV μ r Q := by
  cases r with
  | none => exact w
  | some o =>
    cases o with
    | val v h => exact w
    | exn C d h => exact (show False from w).elim
theorem Room.in0 {k : Nat} {A : Around} (r : Room (k + 1) A) : Room k A.in1 := r.in1
theorem att_ok {Fr : Hp} (E : EY k X D W) {x : Nat} {pins : List (Addr × Obj)} {τ : St} {H : Hp} {s : Shared} {u : Value} {v v' : V} {μ : List Addr} {h : IH} {Q : VK} {b : Bool}
    (I : Inv X pins τ H s) (r : RelV v' u) (S : Sim (D.G.wf Fr) μ h H) (rv : RV μ v v') (w : WP (D.G.wf Fr) W τ RV μ (attV D.Γ x v h) Q) : wpAny (model X.prog X.w) X.A (getAttr u (D.G.fld x) b) (EP X pins τ Q) X.xe s := by
  unfold attV at w
  split at w
  · rename_i q
    obtain ⟨a, ha, rfl⟩ := rv
    obtain rfl : u = Value.ref a := r
    split at w
    · rename_i C fs ho
      obtain ⟨dx, gs, rf, oa⟩ := S.obj _ _ _ ho ha
      split at w
      · rename_i y hl
        split at w
        · rename_i hF
          obtain ⟨_, c, n⟩ := E.dy.isF C x hF
          obtain ⟨_, y', l, ry⟩ := rf.some hl
          exact getattr_ok I oa c n l fun u' s2 I2 ru => ⟨y', H, I2, ru, w.val S ry⟩
        · exact w.elim
      · rename_i hl
        split at w
        · rename_i f hp
          obtain ⟨pa, g, c, po, F⟩ := E.dy.prop C x f hp
          obtain ⟨fd, ps, F, hb⟩ := F.ex
          obtain ⟨mA, O, _, _, _, _⟩ := ins_get I.hok oa
          obtain ⟨od, J, _⟩ := O.look
          obtain ⟨rest, hrec⟩ := po.rec_
          have I1 := I.tok (s.toks + 1)
          have hcl : (PySem.W.clsIn X.K (D.G.cls C)).isSome = true := by
            obtain ⟨cd, hcd, _⟩ := PySem.W.any_some c.hd
            rw [hcd]
            rfl
          have sp0 : spI D f [V.ref a] H Q (fun _ _ _ => False) := ⟨Fr, μ, h, [.ref q], S, .cons ⟨a, ha, rfl⟩ .nil, (WP.noExn w).at⟩
          have hl2 := F.len _ _ _ _ sp0
          refine PySem.W.get_bind I.kIn J (PySem.W.plainGet_of (c.get (D.G.fld x))).1 (PySem.W.findObj_data hcl po.at_ po.get po.tak) (PySem.W.plainGet_of (c.get (D.G.fld x))).2 (wpAny_call (PySem.W.prop_get (s := { s with toks := s.toks + 1 }) I.kIn hrec ?_))
          have hb1 := hb { s with toks := s.toks + 1 } [.ref a] I1.kIn (by simpa using hl2)
          rw [List.append_nil] at hb1
          refine codeAny_mono (F.run X.A.in1 X.stack { s with toks := s.toks + 1 } H ⟨[.ref a], []⟩ [.ref a] [.ref a] Q (fun _ _ _ => False) E.gd E.rm.in1 I1.env0.in1 hb1 (.cons rfl .nil) sp0) fun res s' hq => ?_
          match res, hq with
          | .error er, hq =>
            obtain ⟨_, _, _, _, _, _, _, _, _, _, _, _, z⟩ := hq
            exact z.elim
          | .ok (.ret u), hq =>
            obtain ⟨v2, H', I3, rv2, q3⟩ := I1.after hq
            show wpAny _ _ (handedOut u) _ _ _
            rw [PySem.W.handedOut_of (handed_of rv2)]
            exact wpAny_pure ⟨v2, H', I3, rv2, q3⟩
          | .ok .next, hq => exact False.elim hq
          | .ok .brk, hq => exact False.elim hq
          | .ok .cont, hq => exact False.elim hq
        · exact w.elim
    · rename_i C ho
      have hC : a = D.G.cls C := S.obj _ _ _ ho ha
      subst hC
      unfold optV at w
      split at w
      · rename_i y hy
        obtain ⟨mc, v', u, cr, cv, ry⟩ := E.dy.con C x y hy
        exact ClX.getcval_ok I cr cv fun s2 I2 => ⟨v', H, I2, cv.rel, w.val S (ry.mono S.pre)⟩
      · exact w.elim
    · rename_i C d ho
      split at w
      · rename_i g y hd
        split at w
        · rename_i hc
          obtain ⟨rfl, ef⟩ := hc
          obtain ⟨_, ec, no⟩ := E.dy.xo C x ef
          obtain ⟨d', hd', oa⟩ := S.obj _ _ _ ho ha
          obtain ⟨_, y', ry, od⟩ := S.obj _ _ _ hd hd'
          obtain ⟨⟨oe, vs, e1, e2, e3, e4⟩, _, _⟩ := (show ObjOk X.prog X.w H s.heap a (ExoO (D.G.cls C) d' a) from I.hok a _ oa)
          obtain ⟨mA, hns, hr⟩ := (show ObjOk X.prog X.w H s.heap d' (.xd [(D.G.fld x, y')]) from I.hok d' _ od)
          obtain ⟨odd, hodd, hl⟩ := lookIn_ns hns
          obtain ⟨u, hu, ru⟩ := RelO.some_of (v := y') (o := mA (D.G.fld x)) (by rw [show some y' = List.lookup (D.G.fld x) [(D.G.fld x, y')] from by simp [List.lookup]]; exact hr (D.G.fld x))
          have J : PySem.W.InstAt s.heap a oe (D.G.cls C) (some odd) := ⟨e1, e2, by unfold PySem.W.notCls; rw [e4] <;> rfl, by rw [e3]; exact hodd⟩
          exact HandSPX.exc_get I.kIn J ec.hg ec.hk ec.hs (PySem.W.findObj_own ec.hd no rfl (by rw [hl, hu])) (handed_of ru) ⟨y', H, I.tok _, ru, w.val S ry⟩
        · exact w.elim
      · exact w.elim
    · exact w.elim
  · exact w.elim
/-- e.f -/
theorem se_att {x : Nat} {f : Str} (E : EY k X D W) (hf : D.G.fld x = f) (ha : SE X D W R a ma false) (hb : attributeBase a f X.env (eval a X.env) = eval a X.env) : SE X D W R (.Attribute a f pos) (.att ma x) t := by
  subst hf
  refine pt_fin ⟨fun pins s τ H Q I y => ?_⟩ E.K (fun Γ c σ h => ⟨_, fun t => rfl⟩) (fun _ => rfl) (by intros; intro z; cases z) rfl
  obtain ⟨Fr, μ, σ, h, cu, rs, S, hc, w⟩ := y
  simp only [evE, bnd_fin] at w
  refine attr_of hb (thn (ha.pe.run pins s τ H _ I ⟨Fr, μ, σ, h, cu, rs, S, hc, WP.bnd (rel := RV) w⟩) fun u s1 z => ?_)
  obtain ⟨v', H1, I1, r, μ1, v, h1, p1, S1, rv, w1⟩ := z
  exact att_ok E I1 r S1 rv w1
end
end MP
end
section
set_option Elab.async false
set_option linter.all false
set_option maxHeartbeats 400000
namespace MP
open PySem L2
section
variable {X : Cx} {D : Dat} {W : WX} {R : CurR} {e a b c o : Expr} {m ma mb mc mo : ME} {pos p apos : Pos} {t : Bool} {es rest : List Expr} {ms : MA} {k f : Nat} {g : Addr}
/-- C.m(e, ..): a classmethod, a staticmethod -/
theorem se_clm {x : Str} {C n : Nat} {mname : Str} {pl : Sem Bool} (E : EY k X D W) (hd : (x == ("__debug__" : Str)) = false) (hg : Gl X x) (hm : X.mg x = some (.ref (D.G.cls C))) (hn : D.G.fld n = mname) (ha : SA X D W R (e :: es) ms)
    (ht : eval (.Call (.Attribute (.Name x p) mname apos) (e :: es) [] pos) X.env = (do
      let ov ← eval (.Name x p) X.env
      standAt apos.atName
      let (q, first) ← holding [ov] (getMethod ov mname pl)
      callWith pos q first (backTo pos (starEach (e :: es) X.env)) (backToKw pos (keywordEach [] X.env)))) :
    SE X D W R (.Call (.Attribute (.Name x p) mname apos) (e :: es) [] pos) (.clm C n ms) t := by
  subst hn
  have ns := ha.ns
  rw [List.all_cons, Bool.and_eq_true] at ns
  refine pt_fin ⟨fun pins s τ H Q I y => ?_⟩ E.K (fun Γ c σ h => ⟨_, fun t => rfl⟩) (fun _ => rfl) (by intros; intro z; cases z) rfl
  obtain ⟨Fr, μ, σ, h, cu, rs, S, hc, w⟩ := y
  simp only [evE, bnd_fin] at w
  refine PySem.W.methodCall_KW (pl := pl) (ld_glob I hg hm ?_ hd) ht
  split at w
  · rename_i f c e1 e2
    obtain ⟨hpre, mc, pp, ga, cr, cm, F⟩ := E.dy.cmeth C n f c e1 e2
    obtain ⟨fd, ps, F, hb⟩ := F.ex
    refine ClX.getmethcm_ok I cr cm fun s2 I2 => ?_
    refine ClX.callwith_cm I2 (ClX.base_none I (Nat.le_refl _)) cm.fi (thn (ha.pa.run pos _ s2 τ H _ I2 ⟨Fr, μ, σ, h, cu, rs, S, hc, WP.bnd (rel := RVs) w⟩) fun us s3 z => ?_) (star_of ns.1) (backTo_plain ns.2)
    obtain ⟨vs', H1, I3, r, μ1, vs, h1, p1, S1, rv, w1⟩ := z
    refine ⟨⟨ClX.pin_at I3, I3.kIn⟩, ?_⟩
    have z : wpAny (model X.prog X.w) X.A (call (.ref s.heap.objs.size) us) (EP X ((s.heap.objs.size, PySem.W.methodObj (.ref ga) (.ref (D.G.cls C))) :: pins) τ Q) X.xe s3 := by
      have hs : spI D f (V.ref (D.G.cls C) :: vs') H1 Q (fun c d H' => W c d τ H') := ⟨Fr, μ1, h1, V.ref c :: vs, S1, .cons ⟨_, pre_get (S1.pre) hpre, rfl⟩ rv, w1.at⟩
      have cg := codeG F E.gd (E.rm.mono (Nat.le_succ _)) hb E.tk I3 (us := .ref (D.G.cls C) :: us) (vs := V.ref (D.G.cls C) :: vs') (.cons rfl r) hs
      refine wpAny_call (PySem.W.method_call (ClX.pin_at I3) ?_)
      exact cg
    exact thn z fun _ _ y => ClX.unpinE y
  · rename_i f e1
    obtain ⟨mc, pp, ga, rest, cr, cv, hr, hk, F⟩ := E.dy.smeth C n f e1
    refine PySem.W.method_cls I.kIn cr.ga (PySem.W.cls_bind I.kIn cr.rd cv (wpAny_call (PySem.W.sm_get (s := { s with toks := s.toks + 1 }) I.kIn hr (PySem.W.handed_on rfl ?_))))
    refine PySem.W.callWith_K (h₀ := X.base) I.ok.mod.kin hk (thn (ha.pa.run pos pins _ τ H _ (I.tok (s.toks + 1)) ⟨Fr, μ, σ, h, cu, rs, S, hc, WP.bnd (rel := RVs) w⟩) fun us s1 z => ?_) (star_of ns.1) (backTo_plain ns.2)
    obtain ⟨vs', H1, I1, r, μ1, vs, h1, p1, S1, rv, w1⟩ := z
    exact ⟨I1.kIn, callK E F I1 r S1 rv w1⟩
  · exact w.elim
/-- x(e, ..), x a local: a class, an instance -/
theorem se_callv {x : Str} {i : Nat} (E : EY k X D W) (hN : X.N[i]? = some x) (hv : Vis X.env.scope x) (ok : okName x = true) (hk : ∀ C f, D.Γ.init C = some f → PySem.W.keepIn X.K (.ref (D.G.cls C)) = true) (ha : SA X D W R (e :: es) ms) :
    SE X D W R (.Call (.Name x p) (e :: es) [] pos) (.callv i ms) t := by
  obtain ⟨o1, o2, _⟩ := okName_ok ok
  have ns := ha.ns
  rw [List.all_cons, Bool.and_eq_true] at ns
  refine pt_fin ⟨fun pins s τ H Q I y => ?_⟩ E.K (fun Γ c σ h => ⟨_, fun t => rfl⟩) (fun _ => rfl) (by intros; intro z; cases z) rfl
  obtain ⟨Fr, μ, σ, h, cu, rs, S, hc, w⟩ := y
  simp only [evE, bnd_fin] at w
  unfold slotV at w
  split at w
  · rename_i v hv0
    obtain ⟨v', ev', rv⟩ := RS.get rs hv0
    simp only [bnd] at w
    split at w
    · rename_i ca e1
      refine wpAny_Call_Name_kw (thn ((pe_var hN hv o1 o2).run pins s τ H (fun y H' => y = v' ∧ H' = H) I ⟨v', ev', rfl, rfl⟩) fun u s0 z => ?_)
      obtain ⟨y, H0, I0, ry, rfl, rfl⟩ := z
      unfold calV at e1
      split at e1
      · rename_i q
        obtain ⟨ad, had, rfl⟩ := rv
        obtain rfl : u = Value.ref ad := ry
        split at e1
        · rename_i C ho
          split at e1
          · rename_i hi
            cases e1
            have hC : ad = D.G.cls C := S.obj _ _ _ ho had
            subst hC
            obtain ⟨f, ei⟩ := Option.isSome_iff_exists.mp hi
            refine PySem.W.callWith_K (h₀ := X.base) I.ok.mod.kin (hk C f ei) (thn (ha.pa.run pos pins s0 τ _ _ I0 ⟨Fr, μ, σ, h, cu, rs, S, hc, WP.bnd (rel := RVs) w⟩) fun us s1 z => ?_) (star_of ns.1) (backTo_plain ns.2)
            obtain ⟨vs', H1, I1, r, μ1, vs, h1, p1, S1, rv, w1⟩ := z
            exact ⟨I1.kIn, makeK E I1 r S1 rv w1⟩
          · cases e1
        · rename_i C0 fs0 ho
          cases e1
          refine StX.callO_with (thn (ha.pa.run pos pins s0 τ _ _ I0 ⟨Fr, μ, σ, h, cu, rs, S, hc, WP.bnd (rel := RVs) w⟩) fun us s1 z => ?_) (star_of ns.1) (backTo_plain ns.2)
          obtain ⟨vs', H1, I1, r, μ1, vs, h1, p1, S1, rvs, w1⟩ := z
          simp only [runCal] at w1
          split at w1
          · rename_i C fs hq
            split at w1
            · rename_i f ec
              obtain ⟨ga, cl, co, F⟩ := E.dy.callm C f ec
              obtain ⟨fd, ps, F, hb⟩ := F.ex
              have hq1 : μ1[q]? = some ad := pre_get p1 had
              obtain ⟨dx, gs, rf, oa⟩ := S1.obj _ _ _ hq hq1
              obtain ⟨ox, od, J, hd⟩ := StX.insC_at I1 (C := D.G.cls C) (a := ad) (.inr ⟨dx, gs, oa⟩)
              refine ⟨⟨_, ox, od, J, hd⟩, ?_⟩
              have hs : spI D f (V.ref ad :: vs') H1 Q (fun c d H' => W c d τ H') := ⟨Fr, μ1, h1, V.ref q :: vs, S1, .cons ⟨_, hq1, rfl⟩ rvs, w1.at⟩
              have cg := codeG F E.gd (E.rm.mono (Nat.le_succ _)) hb E.tk I1 (us := .ref ad :: us) (vs := V.ref ad :: vs') (.cons rfl r) hs
              exact wpAny_call (PySem.W.kco_code I1.kIn J hd co.at_ co.fn co.fi cg)
            · exact w1.elim
          · exact w1.elim
        · cases e1
      · cases e1
    · exact w.elim
  · exact w.elim
end
end MP
end
section
set_option Elab.async false
set_option linter.all false
set_option maxHeartbeats 400000
namespace MP
open PySem L2
/-! ### targets -/
mutual
def slT : MT → List Nat
  | .nm i => [i]
  | .tup ts => slTs ts
def slTs : MTs → List Nat
  | .nil => []
  | .cons t r => slT t ++ slTs r
end
theorem RS.set {μ : List Addr} {σ τ : St} {v v' : V} (r : RS μ σ τ) (i : Nat) (rv : RV μ v v') : RS μ (σ.set i (some v)) (τ.set i (some v')) := Paired.setP (show RO μ (some v) (some v') from rv) i r
/-- nothing but these slots is other -/
def But (js : List Nat) (τ τ' : St) : Prop := τ'.length = τ.length ∧ ∀ j, j ∉ js → τ'[j]? = τ[j]?
theorem But.refl {js : List Nat} {τ : St} : But js τ τ := ⟨rfl, fun _ _ => rfl⟩
theorem But.trans {js ks : List Nat} {τ τ' τ2 : St} (a : But js τ τ') (b : But ks τ' τ2) : But (js ++ ks) τ τ2 :=
  ⟨b.1.trans a.1, fun j hj => (b.2 j fun z => hj (List.mem_append_right _ z)).trans (a.2 j fun z => hj (List.mem_append_left _ z))⟩
theorem But.set {τ : St} {i : Nat} {o : Option V} : But [i] τ (τ.set i o) := ⟨List.length_set, fun j hj => List.getElem?_set_ne fun z => hj (by simp [z])⟩
theorem wipe_get {σ : St} {vs : List Nat} {j : Nat} : (wipe σ vs)[j]? = if j ∈ vs then (if j < σ.length then some none else none) else σ[j]? := by
  induction vs with
  | nil => simp [wipe]
  | cons v vs ih =>
    unfold wipe
    by_cases h : v = j
    · subst h
      rw [if_pos (by simp)]
      by_cases hl : v < σ.length
      · rw [List.getElem?_set_self (by rw [wipe_length]; exact hl), if_pos hl]
      · rw [if_neg hl]
        exact List.getElem?_eq_none (by rw [List.length_set, wipe_length]; omega)
    · rw [List.getElem?_set_ne h, ih]
      by_cases hm : j ∈ vs
      · rw [if_pos hm, if_pos (List.mem_cons_of_mem _ hm)]
      · rw [if_neg hm, if_neg (by simp [hm, Ne.symm h])]
theorem But.wipe {js vs : List Nat} {τ τ' : St} (a : But js τ τ') (h : ∀ j ∈ js, j ∈ vs) : L2.wipe τ' vs = L2.wipe τ vs := by
  apply List.ext_getElem?
  intro j
  rw [wipe_get, wipe_get, a.1]
  by_cases hj : j ∈ vs
  · rw [if_pos hj, if_pos hj]
  · rw [if_neg hj, if_neg hj]
    exact a.2 j fun z => hj (h j z)
theorem RS.wipe {μ : List Addr} {σ τ : St} (r : RS μ σ τ) : ∀ vs : List Nat, RS μ (L2.wipe σ vs) (L2.wipe τ vs)
  | [] => r
  | v :: vs => Paired.setP (show RO μ none none from trivial) v (RS.wipe r vs)
/-- what an iterator hands on -/
def YR (μ : List Addr) (H : Hp) : V × Option V → V → Prop
  | (v, none), x => RV μ v x
  | (v, some w), x => ∃ T v' w', x = .ref T ∧ H T = some (.tup [v', w']) ∧ RV μ v v' ∧ RV μ w w'
def lnTs : MTs → Nat
  | .nil => 0
  | .cons _ r => lnTs r + 1
theorem asgTs_len : ∀ {ms : MTs} {vs : List V} {σ σ' : St} {h : IH}, asgTs ms vs σ h = some σ' → vs.length = lnTs ms
  | .nil, [], _, _, _, _ => rfl
  | .nil, _ :: _, _, _, _, e => by simp only [asgTs] at e; cases e
  | .cons _ _, [], _, _, _, e => by simp only [asgTs] at e; cases e
  | .cons t r, v :: vs, σ, σ', h, e => by
    simp only [asgTs] at e
    split at e
    · show vs.length + 1 = lnTs r + 1
      rw [asgTs_len e]
    · cases e
structure SG (X : Cx) (D : Dat) (e : Expr) (m : MT) (g : TG) : Prop where
  pg : PG X e g
  rd : ∀ {F : Hp} {μ : List Addr} {σ σ' τ : St} {h : IH} {H : Hp} {v v' : V} {Q : St → Hp → Prop}, RS μ σ τ → Sim (D.G.wf F) μ h H → RV μ v v' → asgT m v σ h = some σ' → (∀ τ', RS μ σ' τ' → But (slT m) τ τ' → Q τ' H) → g v' τ H Q
  rx : ∀ {F : Hp} {μ : List Addr} {σ σ' τ : St} {h : IH} {H : Hp} {v : V × Option V} {v' : V} {Q : St → Hp → Prop}, RS μ σ τ → Sim (D.G.wf F) μ h H → YR μ H v v' → asgX m v σ h = some σ' → (∀ τ', RS μ σ' τ' → But (slT m) τ τ' → Q τ' H) → g v' τ H Q
structure SGs (X : Cx) (D : Dat) (es : List Expr) (m : MTs) (g : TGs) : Prop where
  pg : PGs X es g
  rd : ∀ {F : Hp} {μ : List Addr} {σ σ' τ : St} {h : IH} {H : Hp} {vs vs' : List V} {Q : St → Hp → Prop}, RS μ σ τ → Sim (D.G.wf F) μ h H → RVs μ vs vs' → asgTs m vs σ h = some σ' → (∀ τ', RS μ σ' τ' → But (slTs m) τ τ' → Q τ' H) → g vs' τ H Q
  ln : lnTs m = es.length
section
variable {X : Cx} {D : Dat} {e : Expr} {es : List Expr} {pos : Pos}
theorem sg_nm {i : Nat} {x : Str} (hN : X.N.Nodup) (hi : X.N[i]? = some x) (hx : Loc X.env.scope x) (hf : X.fn x = true ∨ X.env.scope.names.lookup x = some .local) : SG X D (.Name x pos) (.nm i) (gName i) :=
  have rd : ∀ {F : Hp} {μ : List Addr} {σ σ' τ : St} {h : IH} {H : Hp} {v v' : V} {Q : St → Hp → Prop}, RS μ σ τ → Sim (D.G.wf F) μ h H → RV μ v v' → asgT (.nm i) v σ h = some σ' → (∀ τ', RS μ σ' τ' → But (slT (.nm i)) τ τ' → Q τ' H) → gName i v' τ H Q := fun rs S rv e k => by
    simp only [asgT] at e
    cases e
    exact k _ (rs.set i rv) (by simp only [slT]; exact But.set)
  ⟨pg_name hN hi hx hf, rd, fun {F μ σ σ' τ h H v v' Q} rs S rv e k => by
    obtain ⟨v, o⟩ := v
    cases o with
    | none => exact rd rs S rv (by simpa only [asgX] using e) k
    | some w => simp only [asgX] at e; cases e⟩
theorem sgs_nil : SGs X D [] .nil gNil := ⟨pgs_nil, fun {F μ σ σ' τ h H vs vs' Q} rs S rv e k => (by
  cases rv with
  | nil =>
    simp only [asgTs] at e
    cases e
    exact ⟨rfl, k _ rs But.refl⟩
  | cons _ _ => simp only [asgTs] at e; cases e), rfl⟩
theorem sgs_cons {m : MT} {ms : MTs} {g : TG} {gs : TGs} (h1 : SG X D e m g) (h2 : SGs X D es ms gs) (hs : (assignEach (e :: es) X.env).map (·.2) = assign e X.env :: (assignEach es X.env).map (·.2)) : SGs X D (e :: es) (.cons m ms) (gCons g gs) := ⟨pgs_cons h1.pg h2.pg hs, fun {F μ σ σ' τ h H vs vs' Q} rs S rv e k => (by
  cases rv with
  | nil => simp only [asgTs] at e; cases e
  | @cons v v' vs vs' r rr =>
    simp only [asgTs] at e
    split at e
    · rename_i σ1 e1
      exact ⟨v', vs', rfl, h1.rd rs S r e1 fun τ1 rs1 b1 => h2.rd rs1 S rr e fun τ2 rs2 b2 => k τ2 rs2 (by simp only [slTs]; exact b1.trans b2)⟩
    · cases e), by show lnTs ms + 1 = es.length + 1; rw [h2.ln]⟩
theorem sg_tup {ms : MTs} {gs : TGs} {k : Nat} (hK : X.K = D.G.K) (hc : X.calm = true) (h : SGs X D es ms gs) (hn : (assignEach es X.env).length = es.length) (hst : (assignEach es X.env).findIdx? (·.1) = none) : SG X D (.Tuple es k pos) (.tup ms) (gTup X.K es.length gs) :=
  have go : ∀ {F : Hp} {μ : List Addr} {σ σ' τ : St} {hh : IH} {H : Hp} {b : Addr} {vs vs' : List V} {Q : St → Hp → Prop}, RS μ σ τ → Sim (D.G.wf F) μ hh H → RVs μ vs vs' → SqT X.K H b vs' → asgTs ms vs σ hh = some σ' → (∀ τ', RS μ σ' τ' → But (slTs ms) τ τ' → Q τ' H) → gTup X.K es.length gs (.ref b) τ H Q := fun rs S rv sq e k =>
    ⟨_, _, rfl, sq, by rw [← rv.length, asgTs_len e, h.ln], h.rd rs S rv e k⟩
  have rd : ∀ {F : Hp} {μ : List Addr} {σ σ' τ : St} {hh : IH} {H : Hp} {v v' : V} {Q : St → Hp → Prop}, RS μ σ τ → Sim (D.G.wf F) μ hh H → RV μ v v' → asgT (.tup ms) v σ hh = some σ' → (∀ τ', RS μ σ' τ' → But (slT (.tup ms)) τ τ' → Q τ' H) → gTup X.K es.length gs v' τ H Q := fun rs S rv e k => by
    simp only [asgT] at e
    split at e
    · rename_i a
      obtain ⟨b, hb, rfl⟩ := rv
      split at e
      · rename_i xs kk ho
        obtain ⟨ys, r1, sq⟩ := S.tupR ho hb
        refine go rs S r1 (by rw [hK]; exact sq) e fun τ' r' b' => k τ' r' (by simpa only [slT] using b')
      · cases e
    · cases e
  ⟨pg_tup hc h.pg hn hst, rd, fun {F μ σ σ' τ hh H v v' Q} rs S rv e k => by
    obtain ⟨v, o⟩ := v
    cases o with
    | none => exact rd rs S rv (by simpa only [asgX] using e) k
    | some w =>
      obtain ⟨T, a1, a2, rfl, hT, r1, r2⟩ := rv
      have e2 : asgTs ms [v, w] σ hh = some σ' := by
        unfold asgX at e
        split at e
        · rename_i t v2 σ2 h2 heq1 heq2
          cases heq2
        · rename_i t u v2 w2 σ2 h2 heq1 heq2
          cases heq1
          cases heq2
          simp only [asgTs]
          split at e
          · rename_i σ1 e1
            simp only [e1, e]
          · cases e
        · cases e
      exact go rs S (.cons r1 (.cons r2 .nil)) (.inl (.inl hT)) e2 fun τ' r' b' => k τ' r' (by simpa only [slT] using b')⟩
end
end MP
end
section
set_option Elab.async false
set_option linter.all false
set_option maxHeartbeats 400000
namespace MP
open PySem L2
/-! ### iterations -/
def JOk (D : Dat) (μ0 : List Addr) (is : Its) (J : It) : Prop := ∀ (F : Hp) (μ : List Addr) (h : IH) (H : Hp), μ0 <+: μ → Sim (D.G.wf F) μ h H → okG h is.gd = true →
  J.stop is.xs.length H ∧ (∀ i, i < is.xs.length → J.go i H) ∧ ∀ i x' H', i < is.xs.length → J.yld i H x' H' → Sim (D.G.wf F) μ h H' ∧ (∃ x, is.xs[i]? = some x ∧ YR μ H' x x') ∧ ∀ b o, H b = some o → H' b = some o
def tI (D : Dat) (W : WX) (R : CurR) (m : MI) : TI := fun τ H R' => ∃ F μ σ h c, RS μ σ τ ∧ Sim (D.G.wf F) μ h H ∧ CurOk D.G μ τ R c ∧ WP (D.G.wf F) W τ (JOk D) μ (evI D.Γ c m σ h) R'
theorem _root_.L2.PI.imp {X : Cx} {tg e : Expr} {t t' : TI} (a : PI X tg e t) (f : ∀ σ H R, t' σ H R → t σ H R) : PI X tg e t' := ⟨fun pins s σ H R I z => a.run pins s σ H R I (f σ H R z)⟩
theorem _root_.L2.PI.some {X : Cx} {tg e : Expr} {t' : TI} (a : ∀ σ H R, t' σ H R → ∃ t, PI X tg e t ∧ t σ H R) : PI X tg e t' := ⟨fun pins s σ H R I z => let ⟨_, p, q⟩ := a σ H R z; p.run pins s σ H R I q⟩
theorem okG1 {h : IH} {a : Nat} {o : IO} (e : okG h [(a, o)] = true) : h[a]? = some o := by
  simpa [okG] using e
theorem okG2 {h : IH} {a b : Nat} {o u : IO} (e : okG h [(a, o), (b, u)] = true) : h[a]? = some o ∧ h[b]? = some u := by
  simpa [okG] using e
theorem len_get {α β : Type} {F : α → β → Prop} {xs : List α} {ys : List β} (r : Paired F xs ys) {i : Nat} (hi : i < xs.length) : ∃ x y, xs[i]? = some x ∧ ys[i]? = some y ∧ F x y := by
  obtain ⟨y, h1, h2⟩ := Paired.getP (i := i) (x := xs[i]) r (List.getElem?_eq_getElem hi)
  exact ⟨_, y, List.getElem?_eq_getElem hi, h1, h2⟩
theorem jok_list {D : Dat} {μ0 : List Addr} {a : Nat} {b : Addr} {xs : List V} {o : IO} (hb : μ0[a]? = some b) (ho : o = .lst xs ∨ o = .flst xs) : JOk D μ0 ⟨xs.map (·, none), [(a, o)]⟩ (Itl D.G.K b) := by
  intro F μ h H p S g
  have e := okG1 g
  obtain ⟨ys, r, sq⟩ := S.lstR (a := a) (b := b) (xs := xs) (ho.imp (fun z => by rw [e, z]) fun z => by rw [e, z]) (pre_get p hb)
  refine ⟨⟨ys, sq, by simp [Paired.length r]⟩, fun i hi => ?_, fun i x' H' hi y => ?_⟩
  · obtain ⟨x, y, h1, h2, h3⟩ := len_get r (i := i) (by simpa using hi)
    exact ⟨ys, y, sq, h2⟩
  · obtain ⟨rfl, y⟩ := y
    obtain ⟨x, y', h1, h2, h3⟩ := len_get r (i := i) (by simpa using hi)
    have e2 := y ys sq
    rw [h2] at e2
    cases e2
    exact ⟨S, ⟨(x, none), by simp [h1], h3⟩, fun _ _ z => z⟩
theorem jok_tup {D : Dat} {μ0 : List Addr} {a : Nat} {b : Addr} {xs : List V} {k : Bool} (hb : μ0[a]? = some b) : JOk D μ0 ⟨xs.map (·, none), [(a, .tup xs k)]⟩ (Itt D.G.K b) := by
  intro F μ h H p S g
  have e := okG1 g
  obtain ⟨ys, r, sq⟩ := S.tupR (a := a) (b := b) e (pre_get p hb)
  refine ⟨⟨ys, sq, by simp [Paired.length r]⟩, fun i hi => ?_, fun i x' H' hi y => ?_⟩
  · obtain ⟨x, y, h1, h2, h3⟩ := len_get r (i := i) (by simpa using hi)
    exact ⟨ys, y, sq, h2⟩
  · obtain ⟨rfl, y⟩ := y
    obtain ⟨x, y', h1, h2, h3⟩ := len_get r (i := i) (by simpa using hi)
    have e2 := y ys sq
    rw [h2] at e2
    cases e2
    exact ⟨S, ⟨(x, none), by simp [h1], h3⟩, fun _ _ z => z⟩
theorem jok_str {D : Dat} {μ0 : List Addr} {s : Str} : JOk D μ0 ⟨s.cps.toList.map fun c => (V.str ⟨#[c]⟩, none), []⟩ (L2.Its s) := by
  intro F μ h H p S g
  refine ⟨by show s.cps.size ≤ _; simp, fun i hi => by show i < s.cps.size; simpa using hi, fun i x' H' hi y => ?_⟩
  obtain ⟨rfl, c, h1, rfl⟩ := y
  refine ⟨S, ⟨(V.str ⟨#[c]⟩, none), ?_, rfl⟩, fun _ _ z => z⟩
  simp [h1]
theorem jok_rng {D : Dat} {μ0 : List Addr} {lo : Int} {n : Nat} : JOk D μ0 ⟨rngOf lo n, []⟩ (Itr lo n) := by
  intro F μ h H p S g
  refine ⟨by show n ≤ _; simp [rngOf], fun i hi => by show i < n; simpa [rngOf] using hi, fun i x' H' hi y => ?_⟩
  obtain ⟨rfl, rfl⟩ := y
  refine ⟨S, ⟨(.int (lo + (i : Int)), none), ?_, rfl⟩, fun _ _ z => z⟩
  have hi : i < n := by simpa [rngOf] using hi
  simp [rngOf, hi]
theorem enum_get {xs : List V} : ∀ {n i : Nat} {x : V}, xs[i]? = some x → (enumOf n xs)[i]? = some (.int ((n + i : Nat) : Int), some x) := by
  induction xs with
  | nil => intro n i x e; simp at e
  | cons a r ih =>
    intro n i x e
    cases i with
    | zero => simp at e; subst e; simp [enumOf]
    | succ i =>
      have := ih (n := n + 1) (i := i) (x := x) (by simpa using e)
      simp only [enumOf, List.getElem?_cons_succ, this]
      congr 3
      omega
theorem enum_len {xs : List V} : ∀ {n : Nat}, (enumOf n xs).length = xs.length := by
  induction xs with
  | nil => intro n; rfl
  | cons a r ih => intro n; simp [enumOf, ih]
theorem jok_enum {D : Dat} {μ0 : List Addr} {a : Nat} {b : Addr} {xs : List V} {o : IO} (hb : μ0[a]? = some b) (ho : o = .lst xs ∨ o = .flst xs) : JOk D μ0 ⟨enumOf 0 xs, [(a, o)]⟩ (Ite D.G.K b) := by
  intro F μ h H p S g
  have e := okG1 g
  obtain ⟨ys, r, sq⟩ := S.lstR (a := a) (b := b) (xs := xs) (ho.imp (fun z => by rw [e, z]) fun z => by rw [e, z]) (pre_get p hb)
  refine ⟨⟨ys, sq, by simp [Paired.length r, enum_len]⟩, fun i hi => ?_, fun i x' H' hi y => ?_⟩
  · obtain ⟨x, y, h1, h2, h3⟩ := len_get r (i := i) (by simpa [enum_len] using hi)
    exact ⟨ys, y, sq, h2⟩
  · obtain ⟨T, y', rfl, hT, rfl, y⟩ := y
    obtain ⟨x, y2, h1, h2, h3⟩ := len_get r (i := i) (by simpa [enum_len] using hi)
    have e2 := y ys sq
    rw [h2] at e2
    cases e2
    refine ⟨S.fresh hT, ⟨_, enum_get h1, T, _, _, rfl, upd_same, by simp [RV], h3⟩, fun c o z => ?_⟩
    rw [upd_ne (fun w => by rw [w, hT] at z; cases z)]
    exact z
section
variable {X : Cx} {D : Dat} {W : WX} {R : CurR} {e a b tg : Expr} {m ma mb : ME} {pos p : Pos}
theorem si_ev (hk : X.K = D.G.K) (ha : SE X D W R e m false) : PI X tg e (tI D W R (.ev m)) := PI.some fun τ H R' ⟨F, μ, σ, h, c, rs, S, hc, w⟩ => by
  simp only [evI] at w
  cases er : evE D.Γ c false m σ h with
  | none => rw [er] at w; exact w.elim
  | some o =>
    cases o with
    | exn C d h1 =>
      rw [er] at w
      refine ⟨_, pi_list ha.pe, ?_⟩
      show tE D W R m τ H _
      exact ⟨F, μ, σ, h, c, rs, S, hc, by rw [er]; exact w⟩
    | val v h1 =>
      rw [er] at w
      have w : WP (D.G.wf F) W τ (JOk D) μ (evV v h1) R' := w
      unfold evV itsOf at w
      split at w
      · rename_i is e1
        split at e1
        · rename_i s
          cases e1
          refine ⟨_, pi_str ha.pe, ?_⟩
          show tE D W R m τ H _
          refine ⟨F, μ, σ, h, c, rs, S, hc, ?_⟩
          rw [er]
          intro μ' H' v' p S' rv
          cases rv
          exact ⟨s, rfl, w μ' H' _ p S' jok_str⟩
        · rename_i q
          split at e1
          · rename_i xs ho
            cases e1
            refine ⟨_, pi_list ha.pe, ?_⟩
            show tE D W R m τ H _
            refine ⟨F, μ, σ, h, c, rs, S, hc, ?_⟩
            rw [er]
            intro μ' H' v' p S' rv
            obtain ⟨b, hb, rfl⟩ := rv
            obtain ⟨ys, r, sq⟩ := S'.lstR (.inl ho) hb
            rw [hk]
            exact ⟨b, rfl, ⟨ys, sq⟩, w μ' H' _ p S' (jok_list hb (.inl rfl))⟩
          · rename_i xs ho
            cases e1
            refine ⟨_, pi_list ha.pe, ?_⟩
            show tE D W R m τ H _
            refine ⟨F, μ, σ, h, c, rs, S, hc, ?_⟩
            rw [er]
            intro μ' H' v' p S' rv
            obtain ⟨b, hb, rfl⟩ := rv
            obtain ⟨ys, r, sq⟩ := S'.lstR (.inr ho) hb
            rw [hk]
            exact ⟨b, rfl, ⟨ys, sq⟩, w μ' H' _ p S' (jok_list hb (.inr rfl))⟩
          · rename_i xs kk ho
            cases e1
            refine ⟨_, pi_tup ha.pe, ?_⟩
            show tE D W R m τ H _
            refine ⟨F, μ, σ, h, c, rs, S, hc, ?_⟩
            rw [er]
            intro μ' H' v' p S' rv
            obtain ⟨b, hb, rfl⟩ := rv
            obtain ⟨ys, r, sq⟩ := S'.tupR ho hb
            rw [hk]
            exact ⟨b, rfl, ⟨ys, sq⟩, w μ' H' _ p S' (jok_tup hb)⟩
          · cases e1
        · cases e1
      · exact w.elim
theorem si_rng1 {x : Str} (hx : x = "range") (hg : Gl X x) (hm : X.mg x = none) (ha : SE X D W R a ma false) : PI X tg (.Call (.Name x p) [a] [] pos) (tI D W R (.rng1 ma)) := by
  subst hx
  refine (pi_range1 hg hm (pa_cons ha.pe pa_nil (star_of ha.ns)) (by rw [star_of ha.ns]; rfl)).imp fun τ H R' ⟨F, μ, σ, h, c, rs, S, hc, w⟩ => ?_
  simp only [evI] at w
  refine ⟨F, μ, σ, h, c, rs, S, hc, WP.imp (WP.bnd (rel := RV) w) fun x' H1 ⟨μ1, x, h1, p1, S1, rx, w1⟩ => ?_⟩
  unfold rng1V at w1
  split at w1
  · rename_i j
    cases rx
    split at w1
    · rename_i hj
      exact ⟨j, rfl, hj.1, hj.2, WP.val w1 S1 jok_rng⟩
    · exact w1.elim
  · exact w1.elim
theorem si_rng2 {x : Str} (hx : x = "range") (hg : Gl X x) (hm : X.mg x = none) (ha : SE X D W R a ma false) (hb : SE X D W R b mb false) : PI X tg (.Call (.Name x p) [a, b] [] pos) (tI D W R (.rng2 ma mb)) := by
  subst hx
  refine (pi_range2 hg hm (pa_cons ha.pe (pa_cons hb.pe pa_nil (star_of hb.ns)) (star_of ha.ns)) (by rw [star_of ha.ns, star_of hb.ns]; rfl) (by rw [star_of hb.ns]; rfl)).imp fun τ H R' ⟨F, μ, σ, h, c, rs, S, hc, w⟩ => ?_
  simp only [evI] at w
  refine ⟨F, μ, σ, h, c, rs, S, hc, WP.imp (WP.bnd (rel := RV) w) fun x' H1 ⟨μ1, x, h1, p1, S1, rx, w1⟩ => ?_⟩
  refine ⟨F, μ1, σ, h1, c, rs.mono p1, S1, hc.mono p1, WP.imp (WP.bnd (rel := RV) w1) fun y' H2 ⟨μ2, y, h2, p2, S2, ry, w2⟩ => ?_⟩
  unfold rng2V at w2
  split at w2
  · cases rx
    cases ry
    split at w2
    · rename_i hj
      exact ⟨_, _, rfl, ⟨hj.1.1, hj.1.2, hj.2.1, hj.2.2⟩, WP.val w2 S2 jok_rng⟩
    · exact w2.elim
  · exact w2.elim
theorem si_enum {x : Str} {elts : List Expr} {kk : Nat} {tpos : Pos} (hk : X.K = D.G.K) (hx : x = "enumerate") (hg : Gl X x) (hm : X.mg x = none) (ha : SE X D W R a ma false) : PI X (.Tuple elts kk tpos) (.Call (.Name x p) [a] [] pos) (tI D W R (.enum ma)) := by
  subst hx
  refine (pi_enum hg hm (pa_cons ha.pe pa_nil (star_of ha.ns)) (by rw [star_of ha.ns]; rfl)).imp fun τ H R' ⟨F, μ, σ, h, c, rs, S, hc, w⟩ => ?_
  simp only [evI] at w
  refine ⟨F, μ, σ, h, c, rs, S, hc, WP.imp (WP.bnd (rel := RV) w) fun x' H1 ⟨μ1, x, h1, p1, S1, rx, w1⟩ => ?_⟩
  unfold enumV at w1
  split at w1
  · rename_i q
    obtain ⟨b, hb, rfl⟩ := rx
    split at w1
    · rename_i xs ho
      obtain ⟨ys, r, sq⟩ := S1.lstR (.inl ho) hb
      rw [hk]
      exact ⟨b, ys, rfl, sq, WP.val w1 S1 (jok_enum hb (.inl rfl))⟩
    · rename_i xs ho
      obtain ⟨ys, r, sq⟩ := S1.lstR (.inr ho) hb
      rw [hk]
      exact ⟨b, ys, rfl, sq, WP.val w1 S1 (jok_enum hb (.inr rfl))⟩
    · exact w1.elim
  · exact w1.elim
end
end MP
end
section
set_option Elab.async false
set_option linter.all false
set_option maxHeartbeats 400000
namespace MP
open PySem L2
abbrev WF : WX := fun _ _ _ _ => False
theorem WP.triv {α β : Type} {G : Stat} {W : WX} {τ : St} {rel : List Addr → α → β → Prop} {μ : List Addr} {v : α} {h : IH} {Q : β → Hp → Prop} (k : ∀ μ' H' v', μ <+: μ' → Sim G μ' h H' → rel μ' v v' → Q v' H') : WP G W τ rel μ (some (.val v h)) Q := k
theorem ObjS.keepL {G : Stat} {μ : List Addr} {H : Hp} {b : Addr} {u : HO} {xs : List V} (hb : H b = some (.lst xs)) : ∀ {o : IO}, ObjS G μ H b o → mutb o = false → ObjS G μ (upd H b u) b o
  | .lst _, _, m => by cases m
  | .dic _, _, m => by cases m
  | .ins _ _, _, m => by cases m
  | .flst _, ⟨ys, r, e⟩, _ => ⟨ys, r, .inr (e.elim (fun ⟨o, z⟩ => by rw [hb] at z; cases z) id)⟩
  | .tup _ _, ⟨ys, r, e⟩, _ => ⟨ys, r, .inr (e.elim (fun ⟨z, _⟩ => by
      rcases z with z | ⟨o, z⟩
      · rw [hb] at z; cases z
      · rw [hb] at z; cases z) id)⟩
  | .xd _ _, ⟨_, v', r, e⟩, _ => by rw [hb] at e; cases e
  | .cls _, e, _ => e
  | .exo _ _, ⟨_, _, e⟩, _ => by rw [hb] at e; cases e
/-- a held list is written -/
theorem Sim.held {G : Stat} {F : Hp} {μ : List Addr} {h : IH} {H : Hp} {p : Addr} {ys zs : List V} (S : Sim (G.wf (upd F p (.lst ys))) μ h H) : Sim (G.wf (upd F p (.lst zs))) μ h (upd H p (.lst zs)) := by
  have hp : H p = some (.lst ys) := S.frm p _ (show upd F p (.lst ys) p = _ from upd_same)
  have fro : ∀ (a : Nat) (o : IO) (b : Addr), h[a]? = some o → μ[a]? = some b → mutb o = true → b ≠ p ∧ F b = none := fun a o b e1 e2 m => by
    have z : upd F p (.lst ys) b = none := S.fro a o b e1 e2 m
    by_cases hb : b = p
    · rw [hb, upd_same] at z; cases z
    · rw [upd_ne hb] at z; exact ⟨hb, z⟩
  refine ⟨S.len, fun a o b e1 e2 => ?_, S.inj, S.pre, fun b o e => ?_, fun a o b e1 e2 m => ?_⟩
  · have q := S.obj a o b e1 e2
    have q2 : ObjS (G.wf (upd F p (.lst ys))) μ (upd H p (.lst zs)) b o := by
      by_cases hb : b = p
      · subst hb
        cases hm : mutb o with
        | false => exact ObjS.keepL hp q hm
        | true => exact absurd rfl (fro a o b e1 e2 hm).1
      · exact ObjS.keep q fun _ _ => .inl hb
    cases o <;> exact q2
  · have e : upd F p (.lst zs) b = some o := e
    by_cases hb : b = p
    · subst hb
      rw [upd_same] at e ⊢
      exact e
    · rw [upd_ne hb] at e ⊢
      exact S.frm b o (show upd F p (.lst ys) b = some o by rw [upd_ne hb]; exact e)
  · obtain ⟨hb, z⟩ := fro a o b e1 e2 m
    show upd F p (.lst zs) b = none
    rw [upd_ne hb]
    exact z
theorem wipe_wipe (σ : St) (vs : List Nat) : L2.wipe (L2.wipe σ vs) vs = L2.wipe σ vs := by
  apply List.ext_getElem?
  intro j
  rw [wipe_get, wipe_get, wipe_length]
  by_cases hj : j ∈ vs
  · rw [if_pos hj, if_pos hj]
  · rw [if_neg hj, if_neg hj]
theorem bndN_val {α β : Type} {x : EV α} {k : α → IH → EV β} {v : β} {h : IH} (e : bndN x k = some (.val v h)) : ∃ a h1, x = some (.val a h1) ∧ k a h1 = some (.val v h) := by
  cases x with
  | none => cases e
  | some o =>
    cases o with
    | val a h1 => exact ⟨a, h1, rfl, e⟩
    | exn _ _ _ => cases e
/-- the conditions of a comprehension -/
def tCo (D : Dat) (mc : MO) : TT := fun τ H Q => ∃ F μ σ h, RS μ σ τ ∧ Sim (D.G.wf F) μ h H ∧ WP (D.G.wf F) WF τ RB μ (evC D.Γ mc σ h) Q
theorem _root_.L2.PTs.imp {X : Cx} {es : List Expr} {t t' : TT} (a : PTs X es t) (f : ∀ σ H R, t' σ H R → t σ H R) : PTs X es t' := ⟨fun pins s σ H R I z => a.run pins s σ H R I (f σ H R z)⟩
section
variable {X : Cx} {D : Dat} {W : WX} {R : CurR} {e a b tg elt iter : Expr} {m ma mb melt : ME} {mt : MT} {mi : MI} {mc : MO} {pos p : Pos} {t : Bool}
theorem sc_none : PTs X [] (tCo D .none) := pts_nil.imp fun τ H Q ⟨F, μ, σ, h, rs, S, w⟩ => by
  simp only [evC] at w
  exact w.val S rfl
theorem sc_one (ha : SE X D WF none a ma true) : PTs X [a] (tCo D (.some ma)) := (pts_one (ha.pt rfl)).imp fun τ H Q ⟨F, μ, σ, h, rs, S, w⟩ => by
  simp only [evC] at w
  exact ⟨F, μ, σ, h, none, rs, S, trivial, w⟩
theorem lc_read {ws : List Nat} {g : TG} {σ τ : St} {F : Hp} {μ1 : List Addr} {h1 hE : IH} {H1 : Hp} {is : Its} {J : It} {vs : List V} {Q : VK} {Dd : Addr} {X' : Cx} (hg : SG X' D tg mt g) (hws : ∀ j ∈ slT mt, j ∈ ws)
    (rs : RS μ1 σ τ) (S1 : Sim (D.G.wf F) μ1 h1 H1) (jok : JOk D μ1 is J) (hD : H1 Dd = none) (hl : vs.length ≤ sizeLine)
    (el : loopC (turnC mt ws σ (evC D.Γ mc) (evE D.Γ none false melt)) is.gd is.xs h1 = some (.val vs hE))
    (hq : ∀ μ' H' v', μ1 <+: μ' → Sim (D.G.wf F) μ' (hE ++ [.lst vs]) H' → RV μ' (.ref hE.length) v' → Q v' H') :
    ∃ Wm : Nat → Nat → Hp → Prop, (∃ m, Wm 0 m (upd H1 Dd (.lst []))) ∧ ∀ i m H, Wm i m H →
      (J.stop i H ∧ Q (.ref Dd) H) ∨ (J.go i H ∧ ∃ Nx : Hp → Prop, (∀ H', Nx H' → ∃ m', m' < m ∧ Wm (i + 1) m' H') ∧ ∀ x H', J.yld i H x H' → g x (L2.wipe τ ws) H' fun σ2 H2 => L2.wipe σ2 ws = L2.wipe τ ws ∧ tCo D mc σ2 H2 fun b H3 =>
        if b = true then tE D WF none melt σ2 H3 fun y H4 => ∃ acc, H4 Dd = some (.lst acc) ∧ acc.length < sizeLine ∧ Nx (upd H4 Dd (.lst (acc ++ [y]))) else Nx H3) := by
  have hF : F Dd = none := by
    cases ef : F Dd with
    | none => rfl
    | some o =>
      have q := S1.frm Dd o ef
      rw [hD] at q; cases q
  generalize hn : is.xs.length = n at *
  refine ⟨fun i m H => m = n - i ∧ i ≤ n ∧ ∃ μ' h' acc acc' rest, μ1 <+: μ' ∧ Sim (D.G.wf (upd F Dd (.lst acc'))) μ' h' H ∧ RVs μ' acc acc' ∧ loopC (turnC mt ws σ (evC D.Γ mc) (evE D.Γ none false melt)) is.gd (is.xs.drop i) h' = some (.val rest hE) ∧ acc ++ rest = vs, ⟨n, by simp, Nat.zero_le _, μ1, h1, [], [], vs, List.prefix_refl _, ?_, .nil, by simpa using el, rfl⟩, ?_⟩
  · refine Sim.refr (G := D.G.wf F) (S1.fresh hD) (upd F Dd (.lst [])) (fun b o e => ?_) (fun b e => ?_)
    · by_cases hb : b = Dd
      · subst hb
        rw [upd_same] at e ⊢
        exact e
      · rw [upd_ne hb] at e ⊢
        exact S1.frm b o e
    · by_cases hb : b = Dd
      · subst hb
        refine .inr fun a o e1 e2 m => ?_
        obtain ⟨u, hu⟩ := ObjS.mutAt (S1.obj a o b e1 e2) m
        rw [hD] at hu; cases hu
      · rw [upd_ne hb] at e
        exact .inl e
  · rintro i m H ⟨rfl, hi, μ', h', acc, acc', rest, p, S', ra, el', ev⟩
    by_cases hlt : i < n
    · have hix : i < is.xs.length := by rw [hn]; exact hlt
      rw [List.drop_eq_getElem_cons hix] at el'
      unfold loopC at el'
      split at el'
      · rename_i ok
        obtain ⟨o, h2, et, el2⟩ := bndN_val el'
        obtain ⟨rest', hE2, el3, er⟩ := bndN_val el2
        cases er
        obtain ⟨_, jgo, jy⟩ := jok _ μ' h' H p S' ok
        refine .inr ⟨jgo i hix, fun H' => n - (i + 1) = n - (i + 1) ∧ i + 1 ≤ n ∧ ∃ μ' h' acc acc' rest, μ1 <+: μ' ∧ Sim (D.G.wf (upd F Dd (.lst acc'))) μ' h' H' ∧ RVs μ' acc acc' ∧ loopC (turnC mt ws σ (evC D.Γ mc) (evE D.Γ none false melt)) is.gd (is.xs.drop (i + 1)) h' = some (.val rest hE) ∧ acc ++ rest = vs, fun H' z => ⟨n - (i + 1), by omega, z⟩, fun x' H' y => ?_⟩
        obtain ⟨S2, ⟨x, ex, yr⟩, kp⟩ := jy i x' H' hix y
        have ex2 : is.xs[i] = x := by
          rw [List.getElem?_eq_getElem hix] at ex
          exact Option.some.inj ex
        rw [ex2] at et
        unfold turnC at et
        split at et
        · rename_i σt ea
          obtain ⟨k, h3, ec, et2⟩ := bndN_val et
          refine hg.rx (rs.mono p |>.wipe ws) S2 yr ea fun τ' rs' bt => ⟨(bt.wipe hws).trans (wipe_wipe _ _), _, μ', σt, h', rs', S2, ?_⟩
          rw [ec]
          intro μ3 H3 kb p3 S3 rk
          have rk : k = .bl kb := rk
          subst rk
          cases kb with
          | true =>
            rw [if_pos rfl]
            obtain ⟨v, h4, ee, et3⟩ := bndN_val et2
            cases et3
            refine ⟨_, μ3, σt, h3, none, rs'.mono p3, S3, trivial, ?_⟩
            rw [ee]
            intro μ4 H4 v' p4 S4 rv
            refine ⟨acc', S4.frm Dd _ (show upd F Dd (.lst acc') Dd = _ from upd_same), ?_, rfl, hlt, μ4, h2, acc ++ [v], acc' ++ [v'], rest', (p.trans p3).trans p4, S4.held, Paired.app ((ra.mono p3).mono p4) (.cons rv .nil), el3, by rw [← ev]; simp⟩
            have e1 := congrArg List.length ev
            simp at e1
            rw [← Paired.length ra]
            omega
          | false =>
            rw [if_neg Bool.false_ne_true]
            cases et2
            exact ⟨rfl, hlt, μ3, h2, acc, acc', rest', p.trans p3, S3, ra.mono p3, el3, by rw [← ev]; simp⟩
        · cases et
      · cases el'
    · have e : i = n := by omega
      subst e
      rw [List.drop_eq_nil_of_le (by omega)] at el'
      unfold loopC at el'
      split at el'
      · rename_i ok
        cases el'
        obtain ⟨jst, _, _⟩ := jok _ μ' _ H p S' ok
        rw [List.append_nil] at ev
        subst ev
        refine .inl ⟨by rw [← hn]; exact jst, hq (μ' ++ [Dd]) H _ (p.trans len_pre) (S'.adopt hF ra) ⟨Dd, ?_, rfl⟩⟩
        rw [S'.len, List.getElem?_append_right (Nat.le_refl _)]
        simp
      · cases el'
theorem lc_tE {g : TG} {ws : List Nat} {X' : Cx} (hg : SG X' D tg mt g) (hws : ∀ j ∈ slT mt, j ∈ ws) {τ : St} {H : Hp} {Q : VK} (y : tE D W R (.lc ws melt mt mi mc) τ H Q) : tLc (tI D W R mi) g (tCo D mc) (tE D WF none melt) ws τ H Q := by
  obtain ⟨F, μ, σ, h, c, rs, S, hcu, w⟩ := y
  simp only [evE, bnd_fin] at w
  refine ⟨F, μ, σ, h, c, rs, S, hcu, WP.imp (WP.bnd (rel := JOk D) w) fun J H1 ⟨μ1, is, h1, p1, S1, jok, w1⟩ => fun Dd hD => ?_⟩
  cases el : loopC (turnC mt ws σ (evC D.Γ mc) (evE D.Γ none false melt)) is.gd is.xs h1 with
  | none => rw [el] at w1; exact w1.elim
  | some o =>
    cases o with
    | exn C d h2 => rw [el] at w1; exact (show False from w1).elim
    | val vs hE =>
      rw [el] at w1
      have w1 : WP (D.G.wf F) W τ RV μ1 (listV vs hE) Q := w1
      unfold listV at w1
      split at w1
      · rename_i hl
        exact lc_read hg hws (rs.mono p1) S1 jok hD hl el w1
      · exact w1.elim
theorem se_lc {ifs : List Expr} {scope : Scope} {own : List (Str × Nat)} {g : TG} {ws : List Nat} (hk : EX X D) (hc : X.calm = true) (hN : X.N.Nodup) (hi : PI X tg iter (tI D W R mi)) (ok : BlkOk X.N X.env.scope scope own)
    (hg : ∀ (s : Shared) (H : Hp) (C : Addr) (cl : List (Str × Addr)) (fp : List Addr), SG (X.blk s H scope (compEnvC scope cl C X.env) fp) D tg mt g)
    (ht : ∀ (s : Shared) (H : Hp) (C : Addr) (cl : List (Str × Addr)) (fp : List Addr), PTs (X.blk s H scope (compEnvC scope cl C X.env) fp) ifs (tCo D mc))
    (he : ∀ (s : Shared) (H : Hp) (C : Addr) (cl : List (Str × Addr)) (fp : List Addr), SE (X.blk s H scope (compEnvC scope cl C X.env) fp) D WF none elt melt false)
    (hs : ∀ x, foldedSetIterable iter X.env x = pure x) (hw : own.map (·.2) = ws) (hws : ∀ j ∈ slT mt, j ∈ ws) : SE X D W R (.ListComp elt [⟨tg, iter, ifs, 0⟩] scope pos) (.lc ws melt mt mi mc) t := by
  subst hw
  exact pt_fin ((L2.pe_lc hc hN hi ok (fun s H C cl fp => (hg s H C cl fp).pg) ht (fun s H C cl fp => (he s H C cl fp).pe) hs).imp fun τ H Q y => lc_tE (hg ⟨X.base, #[], X.s_0.drawn, 0, X.s_0.os⟩ H 0 [] []) hws y) hk.K (fun Γ c σ h => ⟨_, fun t => rfl⟩) (fun _ => rfl) (by intros; intro z; cases z) rfl
end
end MP
end
section
set_option Elab.async false
set_option linter.all false
set_option maxHeartbeats 400000
namespace MP
open PySem L2
theorem sqL_k {K : PySem.W.Frag} {b : Addr} {ys : List V} (h : ∀ H' : Hp, SqL K H' b ys) : ∃ o, K.lookup b = some o ∧ o.cls = .type "list" := by
  rcases h (fun _ => none) with (z | ⟨o, z⟩) | ⟨o, _, _, e, c, _⟩
  · cases z
  · cases z
  · exact ⟨o, e, c⟩
theorem sqT_k {K : PySem.W.Frag} {b : Addr} {ys : List V} (h : ∀ H' : Hp, SqT K H' b ys) : ∃ o, K.lookup b = some o ∧ o.cls = .type "tuple" := by
  rcases h (fun _ => none) with (z | ⟨o, z⟩) | ⟨o, _, _, e, c, _⟩
  · cases z
  · cases z
  · exact ⟨o, e, c⟩
theorem ty_ok {G : Stat} {μ : List Addr} {h : IH} {H : Hp} (S : Sim G μ h H) {v v' : V} (r : RV μ v v') {B : BT} (e : tyOf h v = some (.b B)) : TyX G.K H v' (.type (btN B)) := by
  unfold tyOf at e
  split at e
  · cases r; cases e; exact .base .non
  · cases r; cases e; exact .base (.bl _)
  · cases r; cases e; exact .base (.int _)
  · cases r; cases e; exact .base (.str _)
  · obtain ⟨b, hb, rfl⟩ := r
    split at e
    · rename_i xs ho
      cases e
      obtain ⟨ys, _, q⟩ := S.obj _ _ _ ho hb
      exact .base (.lst q)
    · rename_i xs ho
      cases e
      obtain ⟨ys, _, q⟩ := S.obj _ _ _ ho hb
      rcases q with ⟨o, q⟩ | q
      · exact .base (.frz q)
      · obtain ⟨o, k, c⟩ := sqL_k q
        exact .kList k c
    · rename_i xs k ho
      cases e
      obtain ⟨ys, _, q⟩ := S.obj _ _ _ ho hb
      rcases q with ⟨q | ⟨o, q⟩, _⟩ | ⟨q, _⟩
      · exact .base (.tup q)
      · exact .fTuple q
      · obtain ⟨o, k, c⟩ := sqT_k q
        exact .kTuple k c
    · rename_i xs ho
      cases e
      obtain ⟨ys, _, q⟩ := S.obj _ _ _ ho hb
      exact .base (.dK q)
    · cases e
    · cases e
  · cases e
theorem kit_bt {K : PySem.W.Frag} : ∀ B T : BT, PySem.W.kitOne K (.type (btN B)) (.type (btN T)) = some (B == T || (B == .bool && T == .int)) := fun B T => kit_ty (by cases B <;> cases T <;> decide +kernel)
theorem kitAny_bt {K : PySem.W.Frag} {B : BT} : ∀ ts : List BT, PySem.W.kitAny K (.type (btN B)) (ts.map fun T => Value.type (btN T)) = some (ts.any fun T => B == T || (B == .bool && T == .int))
  | [] => rfl
  | T :: ts => kitAny_cons (kit_bt B T) (fun e => by
      rw [kitAny_bt ts, List.any_cons, e, Bool.false_or]) fun e => by rw [List.any_cons, e, Bool.true_or]
theorem idx_first {z : Str} : ∀ {ys : List Str} {m : Nat}, m < ys.idxOf z → ys[m]? ≠ some z
  | [], m, h => by simp at h
  | a :: r, m, h => by
    rw [List.idxOf_cons] at h
    cases ha : a == z with
    | true => rw [ha] at h; simp at h
    | false =>
      rw [ha] at h
      cases m with
      | zero =>
        intro e
        simp at e
        rw [e] at ha
        simp at ha
      | succ m =>
        have := idx_first (ys := r) (m := m) (by simpa using h)
        simpa using this
section
variable {X : Cx} {D : Dat} {W : WX} {R : CurR} {e a b o : Expr} {m ma mb mo : ME} {pos p p2 apos : Pos} {t : Bool} {es : List Expr} {ms : MA}
/-! ### built-in functions -/
theorem se_biB {B : Bif} {id : String} {x : Str} (hk : EX X D) (hc : X.calm = true ∨ bifHot B = true) (nb : B ≠ .lenSet ∧ B ≠ .sorted) (hv : bifV B = .builtin id) (hg : Gl X x) (hm : X.mg x = none) (hb : bootBuiltins x = some (.builtin id)) (ok : okName x = true) (ha : SA X D W R (e :: es) ms) :
    SE X D W R (.Call (.Name x p) (e :: es) [] pos) (.bi B ms) t := by
  obtain ⟨o1, _, o3⟩ := okName_ok ok
  have ns := ha.ns
  rw [List.all_cons, Bool.and_eq_true] at ns
  have cr := call_bif hk.gd hk.un B hc nb
  rw [hv] at cr
  refine pt_fin ((pe_callB cr hg hm hb ha.pa o3 o1 (star_of ns.1) (backTo_plain ns.2)).imp fun τ H Q ⟨F, μ, σ, h, c, rs, S, hc, w⟩ => ?_) hk.K (fun Γ c σ h => ⟨_, fun t => rfl⟩) (fun _ => rfl) (by intros; intro z; cases z) rfl
  simp only [evE, bnd_fin] at w
  refine ⟨F, μ, σ, h, c, rs, S, hc, WP.imp (WP.bnd (rel := RVs) w) fun xs' H1 ⟨μ1, xs, h1, p1, S1, rx, w1⟩ => ?_⟩
  rw [show X.K = (D.G.wf F).K from hk.K]
  exact bif_ok nb.1 S1 rx w1
theorem se_biT {B : Bif} {T : String} {x : Str} (hk : EX X D) (hc : X.calm = true ∨ bifHot B = true) (nb : B ≠ .lenSet ∧ B ≠ .sorted) (hv : bifV B = .type T) (hg : Gl X x) (hm : X.mg x = none) (hb : bootBuiltins x = some (.type T)) (ok : okName x = true) (ha : SA X D W R (e :: es) ms) :
    SE X D W R (.Call (.Name x p) (e :: es) [] pos) (.bi B ms) t := by
  obtain ⟨o1, _, o3⟩ := okName_ok ok
  have ns := ha.ns
  rw [List.all_cons, Bool.and_eq_true] at ns
  have cr := call_bif hk.gd hk.un B hc nb
  rw [hv] at cr
  refine pt_fin ((pe_callTy cr hg hm hb ha.pa o3 o1 (star_of ns.1) (backTo_plain ns.2)).imp fun τ H Q ⟨F, μ, σ, h, c, rs, S, hc, w⟩ => ?_) hk.K (fun Γ c σ h => ⟨_, fun t => rfl⟩) (fun _ => rfl) (by intros; intro z; cases z) rfl
  simp only [evE, bnd_fin] at w
  refine ⟨F, μ, σ, h, c, rs, S, hc, WP.imp (WP.bnd (rel := RVs) w) fun xs' H1 ⟨μ1, xs, h1, p1, S1, rx, w1⟩ => ?_⟩
  rw [show X.K = (D.G.wf F).K from hk.K]
  exact bif_ok nb.1 S1 rx w1
/-! ### methods of built-in types -/
theorem se_bmG {M : Bm} {T id : String} {name : Str} {r : V → List V → Hp → VK → Prop} (hk : EX X D) (pa : PlainAttrs T) (slot : Slot T name id) (hty : typeOf (.builtin id) = pure (.type "method_descriptor")) (hm : MtR X id r)
    (okT : ∀ {F : Hp} {μ : List Addr} {h : IH} {H : Hp} {x x' : V}, Sim (D.G.wf F) μ h H → RV μ x x' → bmTy M x h = true → L2.tyV X.K T x' H)
    (ok : ∀ {F : Hp} {μ : List Addr} {h : IH} {H : Hp} {x x' : V} {vs vs' : List V} {τ : St} {Q : VK}, Sim (D.G.wf F) μ h H → RV μ x x' → RVs μ vs vs' → WP (D.G.wf F) W τ RV μ (bmeth M x vs h) Q → r x' vs' H Q)
    (ho : SE X D W R o mo false) (ha : SA X D W R (e :: es) ms) (hbase : attributeBase o name X.env (eval o X.env) = eval o X.env)
    (hfew : ((backTo pos (starEach (e :: es) X.env)).all (fun x => !x.1) && (backToKw pos (keywordEach [] X.env)).all (fun x => x.1.isSome)
      && decide ((e :: es).length + ([] : List Keyword).length + (if ([] : List Keyword).isEmpty then 0 else 1) < 30)) = true)
    (hline : (apos.endLine == pos.line) = true) : SE X D W R (.Call (.Attribute o name apos) (e :: es) [] pos) (.bm M mo ms) t := by
  have ns := ha.ns
  rw [List.all_cons, Bool.and_eq_true] at ns
  refine pt_fin ((pe_bm pa slot hty hm ho.pe ha.pa hbase hfew hline (star_of ns.1) (backTo_plain ns.2)).imp fun τ H Q ⟨F, μ, σ, h, c, rs, S, hc, w⟩ => ?_) hk.K (fun Γ c σ h => ⟨_, fun t => rfl⟩) (fun _ => rfl) (by intros; intro z; cases z) rfl
  simp only [evE, bnd_fin] at w
  refine ⟨F, μ, σ, h, c, rs, S, hc, WP.imp (WP.bnd (rel := RV) w) fun x' H1 ⟨μ1, x, h1, p1, S1, rx, w1⟩ => ?_⟩
  split at w1
  · rename_i hT
    refine ⟨okT S1 rx hT, F, μ1, σ, h1, c, rs.mono p1, S1, hc.mono p1, WP.imp (WP.bnd (rel := RVs) w1) fun ys' H2 ⟨μ2, ys, h2, p2, S2, ry, w2⟩ => ?_⟩
    exact ok S2 (rx.mono p2) ry w2
  · exact w1.elim
theorem tyStr {F : Hp} {μ : List Addr} {h : IH} {H : Hp} {x x' : V} (r : RV μ x x') (e : isStr x = true) : L2.tyV X.K "str" x' H := by
  cases x <;> first | (cases r; rfl) | cases e
theorem se_join {name : Str} (hn : name = "join") (hk : EX X D) (ho : SE X D W R o mo false) (ha : SA X D W R (e :: es) ms) (hbase : attributeBase o name X.env (eval o X.env) = eval o X.env)
    (hfew : ((backTo pos (starEach (e :: es) X.env)).all (fun x => !x.1) && (backToKw pos (keywordEach [] X.env)).all (fun x => x.1.isSome)
      && decide ((e :: es).length + ([] : List Keyword).length + (if ([] : List Keyword).isEmpty then 0 else 1) < 30)) = true)
    (hline : (apos.endLine == pos.line) = true) : SE X D W R (.Call (.Attribute o name apos) (e :: es) [] pos) (.bm .join mo ms) t := by
  subst hn
  refine se_bmG hk F.plainAttrs_str F.slot_str_join F.type_str_join mt_join (fun {F μ h H x x'} S r e => tyStr (F := F) (h := h) r e) (fun {F μ h H x x' vs vs' τ Q} S rx rv w => ?_) ho ha hbase hfew hline
  · have w : WP (D.G.wf F) W τ RV μ (mJoin x vs h) Q := w
    unfold mJoin at w
    split at w
    · cases rx
      cases rv with
      | cons r1 r2 =>
        cases r2
        split at w
        · rename_i xs e1
          split at w
          · rename_i ys e2
            split at w
            · rename_i hl
              obtain ⟨b, zs, rfl, rz, sq⟩ := S.seq e1 r1
              have ez := RVs.strs e2 rz
              subst ez
              rw [show X.K = (D.G.wf F).K from hk.K]
              exact ⟨_, b, ys, rfl, rfl, sq, hl, w.val S rfl⟩
            · exact w.elim
          · exact w.elim
        · exact w.elim
    · exact w.elim
theorem se_count {name : Str} (hn : name = "count") (hk : EX X D) (ho : SE X D W R o mo false) (ha : SA X D W R (e :: es) ms) (hbase : attributeBase o name X.env (eval o X.env) = eval o X.env)
    (hfew : ((backTo pos (starEach (e :: es) X.env)).all (fun x => !x.1) && (backToKw pos (keywordEach [] X.env)).all (fun x => x.1.isSome)
      && decide ((e :: es).length + ([] : List Keyword).length + (if ([] : List Keyword).isEmpty then 0 else 1) < 30)) = true)
    (hline : (apos.endLine == pos.line) = true) : SE X D W R (.Call (.Attribute o name apos) (e :: es) [] pos) (.bm .count mo ms) t := by
  subst hn
  refine se_bmG hk F.plainAttrs_str F.slot_str_count F.type_str_count mt_count (fun {F μ h H x x'} S r e => tyStr (F := F) (h := h) r e) (fun {F μ h H x x' vs vs' τ Q} S rx rv w => ?_) ho ha hbase hfew hline
  · have w : WP (D.G.wf F) W τ RV μ (mCount x vs h) Q := w
    unfold mCount at w
    split at w
    · cases rx
      cases rv with
      | cons r1 r2 =>
        cases r1
        cases r2
        exact ⟨_, _, rfl, rfl, w.val S rfl⟩
    · exact w.elim
theorem tyLst (hk : X.K = D.G.K) {F : Hp} {μ : List Addr} {h : IH} {H : Hp} {x x' : V} (S : Sim (D.G.wf F) μ h H) (r : RV μ x x') (e : isLst x h = true) : L2.tyV X.K "list" x' H := by
  unfold isLst at e
  split at e
  · obtain ⟨b, hb, rfl⟩ := r
    split at e
    · rename_i ho
      obtain ⟨ys, ry, eb⟩ := S.lst ho hb
      exact .inl ⟨rfl, ys, .inl (.inl eb)⟩
    · cases e
  · cases e
theorem se_append {name : Str} (hn : name = "append") (hk : EX X D) (ho : SE X D W R o mo false) (ha : SA X D W R (e :: es) ms) (hbase : attributeBase o name X.env (eval o X.env) = eval o X.env)
    (hfew : ((backTo pos (starEach (e :: es) X.env)).all (fun x => !x.1) && (backToKw pos (keywordEach [] X.env)).all (fun x => x.1.isSome)
      && decide ((e :: es).length + ([] : List Keyword).length + (if ([] : List Keyword).isEmpty then 0 else 1) < 30)) = true)
    (hline : (apos.endLine == pos.line) = true) : SE X D W R (.Call (.Attribute o name apos) (e :: es) [] pos) (.bm .append mo ms) t := by
  subst hn
  refine se_bmG hk F.plainAttrs_list F.slot_list_append F.type_list_append (show MtR X "list.append" rAppend from mt_append) (fun S r e => tyLst hk.K S r e) (fun {F μ h H x x' vs vs' τ Q} S rx rv w => ?_) ho ha hbase hfew hline
  · have w : WP (D.G.wf F) W τ RV μ (mAppend x vs h) Q := w
    unfold mAppend at w
    split at w
    · obtain ⟨b, hb, rfl⟩ := rx
      cases rv with
      | cons r1 r2 =>
        cases r2
        split at w
        · rename_i xs ho
          obtain ⟨zs, rz, oz⟩ := S.lst ho hb
          split at w
          · rename_i hl
            refine ⟨b, zs, _, rfl, rfl, oz, by rw [← Paired.length rz]; exact hl, ?_⟩
            exact w.val (S.write ho hb rfl rfl ⟨_, Paired.app rz (.cons r1 .nil), upd_same⟩) rfl
          · exact w.elim
        · exact w.elim
    · exact w.elim
theorem se_index {name : Str} (hn : name = "index") (hk : EX X D) (ho : SE X D W R o mo false) (ha : SA X D W R (e :: es) ms) (hbase : attributeBase o name X.env (eval o X.env) = eval o X.env)
    (hfew : ((backTo pos (starEach (e :: es) X.env)).all (fun x => !x.1) && (backToKw pos (keywordEach [] X.env)).all (fun x => x.1.isSome)
      && decide ((e :: es).length + ([] : List Keyword).length + (if ([] : List Keyword).isEmpty then 0 else 1) < 30)) = true)
    (hline : (apos.endLine == pos.line) = true) : SE X D W R (.Call (.Attribute o name apos) (e :: es) [] pos) (.bm .index mo ms) t := by
  subst hn
  refine se_bmG hk F.plainAttrs_tuple F.slot_tuple_index F.type_tuple_index mt_tup_index (fun {F μ h H x x'} S r e => ?_) (fun {F μ h H x x' vs vs' τ Q} S rx rv w => ?_) ho ha hbase hfew hline
  · have e : isTupK x h = true := e
    unfold isTupK at e
    split at e
    · obtain ⟨b, hb, rfl⟩ := r
      split at e
      · rename_i ho
        obtain ⟨ys, ry, q⟩ := S.obj _ _ _ ho hb
        rw [show X.K = (D.G.wf F).K from hk.K]
        exact (q.resolve_left (fun z => by cases z.2)).2 rfl H
      · cases e
    · cases e
  · have w : WP (D.G.wf F) W τ RV μ (mIndex x vs h) Q := w
    unfold mIndex at w
    split at w
    · rename_i a z
      obtain ⟨b, hb, rfl⟩ := rx
      cases rv with
      | cons r1 r2 =>
        cases r1
        cases r2
        split at w
        · rename_i xs ho
          obtain ⟨zs, rz, sq⟩ := S.tupR ho hb
          split at w
          · rename_i ys e2
            split at w
            · rename_i hz
              have ez := RVs.strs e2 rz
              subst ez
              rw [show X.K = (D.G.wf F).K from hk.K]
              refine ⟨b, ys, _, ys.idxOf _, rfl, rfl, sq, ?_, fun m hm => ?_, w.val S rfl⟩
              · rw [List.getElem?_eq_getElem (List.idxOf_lt_length_of_mem hz)]
                congr 1
                exact List.getElem_idxOf _
              · exact idx_first hm
            · exact w.elim
          · exact w.elim
        · exact w.elim
    · exact w.elim
/-! ### isinstance -/
inductive CL (X : Cx) : List Expr → List BT → Prop
  | nil : CL X [] []
  | cons {x : Str} {p : Pos} {T : BT} {es : List Expr} {ts : List BT} (hg : Gl X x) (hm : X.mg x = none) (hb : bootBuiltins x = some (.type (btN T))) (ok : okName x = true) (r : CL X es ts) : CL X (.Name x p :: es) (T :: ts)
theorem CL.pa {es : List Expr} {ts : List BT} (h : CL X es ts) : PA X es (fun _ H Q => Q (ts.map fun T => V.ty (btN T)) H) := by
  induction h with
  | nil => exact pa_nil
  | cons hg hm hb ok r ih =>
    obtain ⟨o1, _, o3⟩ := okName_ok ok
    exact (pa_cons (pe_bltn hg hm hb (v := .ty _) rfl o3 o1) ih (star_of rfl)).imp fun _ _ _ z => z
theorem isI_ok {F : Hp} {μ : List Addr} {h : IH} {H : Hp} {v v' : V} {τ : St} {β : Type} {rel : List Addr → V → β → Prop} {Q : β → Hp → Prop} {ts : List BT} (S : Sim (D.G.wf F) μ h H) (r : RV μ v v') (w : WP (D.G.wf F) W τ rel μ (tyV D.Γ (ts.map Ty.b) v h) Q) :
    ∃ B, TyX D.G.K H v' (.type (btN B)) ∧ WP (D.G.wf F) W τ rel μ (ret (.bl (ts.any fun T => B == T || (B == .bool && T == .int))) h) Q := by
  unfold tyV at w
  split at w
  · rename_i u e
    refine ⟨u, ty_ok S r e, ?_⟩
    rw [List.any_map] at w
    exact w
  · exact w.elim
end
end MP
end
section
set_option Elab.async false
set_option linter.all false
set_option maxHeartbeats 400000
/-! isinstance of an exception that bears a dict -/
namespace PySem.W
open PySem PySem.Spec PySem.Calls PyProof.Rows
section
variable {prog : Program} {w : World} {A : Around} {E : Value → Shared → Prop} {s : Shared} {Kf : Frag} {x Dd : Addr} {ox : Obj} {od0 : Obj}
set_option maxHeartbeats 1000000 in
theorem mp_class (Cx : L2.ExcC Kf Dd) {Q : Option Value → Shared → Prop} (Xi : Kf.In s.heap) (Ii : InstAt s.heap x ox Dd (some od0)) (hq : Q (some (.ref Dd)) { s with toks := s.toks + 1 }) : wpAny (model prog w) A (getAttr? (.ref x) "__class__") Q E s := by
  have hcls : (clsIn Kf Dd).isSome = true := by
    obtain ⟨cd, hc, _⟩ := any_some Cx.hd
    rw [hc] <;> rfl
  have found : findObj Kf Dd (some od0) "__class__" = some (.bind (.builtin "getset_descriptor.__get__") (.builtin "object.__class__")) := findObj_data hcls Cx.ha Cx.hn Cx.ht
  obtain ⟨hp, g, d, t, os⟩ := s
  have K0 := Ii.type (M := model prog w)
  have K1 := looks_findIn (M := model prog w) Xi Cx.hg
  have K2 := looks_findIn (M := model prog w) Xi Cx.hk
  have K3 := looks_find (M := model prog w) Xi Ii found
  have isB : Looks (model prog w) hp (isInstance (.ref x) (.type "BaseException")) true := K0.andThen (looks_subIn Xi Cx.hs)
  have n0 : (false && onTheHeap (Value.builtin "BaseException.__getattribute__")) = false := rfl
  have n1 : (onTheHeap (Value.ref Dd) && Value.builtin "BaseException.__getattribute__" == Value.builtin "object.__getattribute__") = false := by
    rw [show (Value.builtin "BaseException.__getattribute__" == Value.builtin "object.__getattribute__") = false from by decide +kernel]
    rfl
  unfold getAttr? getAttrBy? getAttrBy
  refine wpAny_bind (wpAny_mkText (wpAny_bind (wpAny_attempt (wpAny_holding (wpAny_bind (K0.at (wpAny_bind (K1.at ?_))))))))
  show wpAny _ _ (if (onTheHeap (Value.ref Dd) && Value.builtin "BaseException.__getattribute__" == Value.builtin "object.__getattribute__") = true then _ else _) _ _ _
  rw [n1, if_neg Bool.false_ne_true]
  unfold getAttrByItsOwn hookBefore; refine wpAny_bind ?_
  rw [if_pos (show onTheHeap (Value.ref Dd) = true from rfl)]
  refine K2.at ?_
  refine wpAny_bind (wpAny_attempt (wpAny_holding ?_)); unfold callGetattribute
  rw [n0, if_neg Bool.false_ne_true]; unfold boundAndCalled
  rw [PySem.F.excAttr_ValueError.ga.bind (.ref x)]; refine wpAny_bind (wpAny_pure ?_)
  show wpAny _ _ (call (.builtin "BaseException.__getattribute__") [.ref x, .str "__class__" t]) _ _ _; refine wpAny_call (codeAny_call_builtin PySem.F.excAttr_ValueError.ga.plain PySem.F.entry_bexc_ga ?_)
  refine @check_slot (model prog w) _ _ (Shared.mk hp g d (t + 1) os) "BaseException.__getattribute__" "BaseException" "__getattribute__" (Value.ref x) [Value.str "__class__" t] [] _
    (by decide +kernel) (by decide +kernel) isB (PySem.F.args_bexc_ga (Value.ref x) (.str "__class__" t)) ?_
  unfold Builtin.«object.__getattribute__»; refine wpAny_bind (wpAny_of_eq (a := ((Value.ref x : Value), [Value.str "__class__" t])) (by first | rfl | (simp only [slotArgs]; rfl)) ?_)
  refine wpAny_bind (wpAny_pure (wpAny_bind (K0.at (wpAny_bind (K3.at ?_)))))
  show wpAny _ _ (holding [Value.builtin "object.__class__"] (call (.builtin "getset_descriptor.__get__") [.builtin "object.__class__", .ref x, .ref Dd]) >>= ret) _ _ _
  refine wpAny_bind (wpAny_holding (wpAny_call (class_get (s := ⟨hp, g, d, t + 1, os⟩) (ox := ox) (od := some od0) Xi Ii Cx.hm ?_))); refine wpAny_pure ?_
  show wpAny _ _ (handedOut (.ref Dd)) _ _ _; rw [handedOut_of (v := .ref Dd) rfl]
  first
    | exact wpAny_pure (wpAny_pure hq)
    | exact wpAny_pure hq
    | exact wpAny_pure (wpAny_bind (wpAny_pure (wpAny_pure hq)))
theorem mp_kit (Cx : L2.ExcC Kf Dd) : KitX Kf (.ref x) (.ref Dd) (fun h => ∃ od0, InstAt h x ox Dd (some od0)) where
  ty := fun _ _ _ ⟨_, I⟩ => I.type
  it := fun _ _ Xi _ => by
    obtain ⟨cdD, hcD, _⟩ := any_some Cx.hd
    unfold clsIn at hcD; split at hcD
    · rename_i c' d' cd' sl' ho
      intro A' Q' E' s' k q
      unfold isType loadHead; exact wpAny_bind (wpAny_loadPart (k _ _ (Xi _ _ ho)) (wpAny_pure q))
    · cases hcD
  ne := fun h tp dd its n sl Xi htp => by
    obtain ⟨cdD, hcD, _⟩ := any_some Cx.hd
    refine Bool.eq_false_iff.mpr fun q => ?_
    have e : Dd = tp := Value.ref.inj (beq_iff_eq.mp q); subst e
    unfold clsIn at hcD; split at hcD
    · rename_i c' d' cd' sl' ho
      have z := (Xi _ _ ho).symm.trans htp; cases z
    · cases hcD
  ca := fun Xi ⟨_, I⟩ k => mp_class Cx Xi I k
end
end PySem.W
end
section
set_option Elab.async false
set_option linter.all false
set_option maxHeartbeats 400000
namespace MP
open PySem L2 PySem.Spec
section
variable {X : Cx} {D : Dat} {W : WX} {R : CurR} {e a b o : Expr} {m ma mb mo : ME} {pos p p2 apos : Pos} {t : Bool} {es : List Expr} {ms : MA}
theorem tyV_fin {Γ : Gam} {ts : List Ty} {x : EV V} : bnd (bnd x (tyV Γ ts)) (fin true) = bnd x (tyV Γ ts) := by
  rw [bnd_assoc]
  congr 1
  funext a h
  unfold tyV
  split <;> rfl
theorem se_isI {x y : Str} {T : BT} (hk : EX X D) (hx : x = "isinstance") (hg : Gl X x) (hm : X.mg x = none) (ha : SE X D W R a ma false) (hc : CL X [.Name y p2] [T]) : SE X D W R (.Call (.Name x p) [a, .Name y p2] [] pos) (.isI ma (.b T)) t := by
  subst hx
  refine pt_fin ((pe_callB call_isi hg hm (by decide +kernel) (pa_cons ha.pe hc.pa (star_of ha.ns)) (by decide) (by decide) (star_of ha.ns) (by rw [star_of (e := Expr.Name y p2) rfl]; rfl)).imp fun τ H Q ⟨F, μ, σ, h, c, rs, S, hcu, w⟩ => ?_) hk.K
    (fun Γ c σ h => ⟨bnd (evE Γ c false ma σ h) (tyV Γ [.b T]), fun t => by
      cases t with
      | false => rw [bnd_fin]; simp only [evE]
      | true => rw [tyV_fin]; simp only [evE]⟩) (fun _ => rfl) (by intros; intro z; cases z) rfl
  simp only [evE] at w
  refine ⟨F, μ, σ, h, c, rs, S, hcu, WP.imp (WP.bnd (rel := RV) w) fun v' H1 ⟨μ1, v, h1, p1, S1, rv, w1⟩ => ?_⟩
  obtain ⟨B, ty, w2⟩ := isI_ok (ts := [T]) S1 rv w1
  rw [show X.K = (D.G.wf F).K from hk.K]
  refine ⟨v', .ty (btN T), _, _, _, rfl, .ty _, ty, kit_bt B T, ?_⟩
  rw [List.any_cons, List.any_nil, Bool.or_false] at w2
  exact w2.val S1 rfl
theorem clsv_map : ∀ ts : List BT, Paired ClsV (ts.map fun T => V.ty (btN T)) (ts.map fun T => Value.type (btN T))
  | [] => .nil
  | _ :: ts => .cons (.ty _) (clsv_map ts)
theorem se_isIs {x : Str} {T : BT} {ts : List BT} {es : List Expr} {x1 : Nat} (hk : EX X D) (hx : x = "isinstance") (hg : Gl X x) (hm : X.mg x = none) (ha : SE X D W R a ma false) (hc : CL X es ts) (hl : ts.length ≤ 100) : SE X D W R (.Call (.Name x p) [a, .Tuple es x1 p2] [] pos) (.isIs ma (ts.map .b)) t := by
  subst hx
  refine pt_fin ((pe_callB call_isiT hg hm (by decide +kernel) (pa_cons ha.pe (pa_cons (pe_tup hc.pa) pa_nil (star_of rfl)) (star_of ha.ns)) (by decide) (by decide) (star_of ha.ns) (by rw [star_of (e := Expr.Tuple es x1 p2) rfl]; rfl)).imp fun τ H Q ⟨F, μ, σ, h, c, rs, S, hcu, w⟩ => ?_) hk.K
    (fun Γ c σ h => ⟨bnd (evE Γ c false ma σ h) (tyV Γ (ts.map .b)), fun t => by
      cases t with
      | false => rw [bnd_fin]; simp only [evE]
      | true => rw [tyV_fin]; simp only [evE]⟩) (fun _ => rfl) (by intros; intro z; cases z) rfl
  simp only [evE] at w
  refine ⟨F, μ, σ, h, c, rs, S, hcu, WP.imp (WP.bnd (rel := RV) w) fun v' H1 ⟨μ1, v, h1, p1, S1, rv, w1⟩ => ?_⟩
  refine ⟨by rw [List.length_map, sizeLine_eq]; omega, fun q hq => ?_⟩
  obtain ⟨B, ty, w2⟩ := isI_ok (S1.fresh (u := .tup (ts.map fun T => V.ty (btN T))) hq) rv w1
  rw [show X.K = (D.G.wf F).K from hk.K]
  exact ⟨v', q, _, _, ts.map fun T => Value.type (btN T), _, rfl, upd_same, clsv_map ts, ty, kitAny_bt ts, w2.val (S1.fresh hq) rfl⟩
/-! ### len(set(..)) of ints -/
theorem ints_vals : ∀ {ns : List Int} {us : List Value}, Vals (ns.map V.int) us → PyProof.Rows.IntsAre us ns
  | [], _, .nil => .nil
  | n :: ns, _, .cons r t => by
    obtain ⟨k, rfl⟩ := r
    exact .cons n k (ints_vals t)
theorem lenSet_eq {Γ : Gam} {c : Option (Nat × Nat)} {σ : St} {h : IH} : evE Γ c false (.bi .lenSet (.cons ma .nil)) σ h = bnd (evE Γ c false ma σ h) fun v h1 => bifn .lenSet [v] h1 := by
  simp only [evE, evA, bnd_fin, bnd_assoc]
  rfl
theorem nd_le : ∀ {l m : List Int}, l.Nodup → (∀ x ∈ l, x ∈ m) → l.length ≤ m.length
  | [], _, _, _ => Nat.zero_le _
  | a :: r, m, nd, s => by
    rw [List.nodup_cons] at nd
    have ha := s a List.mem_cons_self
    have q : ∀ x ∈ r, x ∈ m.erase a := fun x hx => by
      have ne : x ≠ a := fun z => nd.1 (z ▸ hx)
      exact (List.mem_erase_of_ne ne).mpr (s x (List.mem_cons_of_mem _ hx))
    have := nd_le nd.2 q
    rw [List.length_erase_of_mem ha] at this
    have hp : 0 < m.length := List.length_pos_of_mem ha
    rw [List.length_cons]
    omega
theorem firstMet_nd (val : Nat → Int) : ∀ i, (PyProof.Rows.firstMet val i).Nodup
  | 0 => List.nodup_nil
  | i + 1 => by
    rw [PyProof.Rows.firstMet_succ]
    unfold PyProof.Rows.step_dedup
    have ih := firstMet_nd val i
    split
    · exact ih
    · rename_i n
      rw [List.nodup_append]
      refine ⟨ih, by simp, fun a ha b hb => ?_⟩
      rw [List.mem_singleton] at hb
      subst hb
      intro z
      subst z
      exact n (by rw [List.any_eq_true]; exact ⟨_, ha, by simp⟩)
theorem firstMet_mem {ns : List Int} {k : Int} : k ∈ PyProof.Rows.firstMet (fun i => ns.getD i 0) ns.length ↔ k ∈ ns := by
  have q := PyProof.Rows.firstMet_any (fun i => ns.getD i 0) ns.length k
  have e : (List.range ns.length).map (fun i => ns.getD i 0) = ns := by
    refine List.ext_getElem (by simp) fun i h1 h2 => ?_
    rw [List.getElem_map, List.getElem_range, List.getD_eq_getElem?_getD, List.getElem?_eq_getElem h2]
    rfl
  rw [e] at q
  constructor
  · intro h
    have : (PyProof.Rows.firstMet (fun i => ns.getD i 0) ns.length).any (· == k) = true := by rw [List.any_eq_true]; exact ⟨k, h, by simp⟩
    rw [q, List.any_eq_true] at this
    obtain ⟨x, hx, ex⟩ := this
    rw [beq_iff_eq] at ex
    exact ex ▸ hx
  · intro h
    have : ns.any (· == k) = true := by rw [List.any_eq_true]; exact ⟨k, h, by simp⟩
    rw [← q, List.any_eq_true] at this
    obtain ⟨x, hx, ex⟩ := this
    rw [beq_iff_eq] at ex
    exact ex ▸ hx
theorem distinct_of {ns ks : List Int} (nd : ks.Nodup) (m : ∀ k, k ∈ ks ↔ k ∈ ns) : ks.length = distinct ns :=
  Nat.le_antisymm (nd_le nd fun x hx => firstMet_mem.mpr ((m x).mp hx)) (nd_le (firstMet_nd _ _) fun x hx => (m x).mpr (firstMet_mem.mp hx))
theorem se_lenSet {x y : Str} {q : Pos} (hk : EX X D) (hc : X.calm = true) (hx : x = "len") (hy : y = "set") (hg : Gl X x) (hm : X.mg x = none) (hg2 : Gl X y) (hm2 : X.mg y = none) (ha : SE X D W R a ma false) :
    SE X D W R (.Call (.Name x p) [.Call (.Name y p2) [a] [] q] [] pos) (.bi .lenSet (.cons ma .nil)) t := by
  subst hx hy
  refine pt_fin ⟨fun pins s τ H Q I z => ?_⟩ hk.K (fun Γ c σ h => ⟨_, fun t => rfl⟩) (fun _ => rfl) (by intros; intro z; cases z) rfl
  obtain ⟨F, μ, σ, h, c, rs, S, hcu, w⟩ := z
  rw [lenSet_eq] at w
  refine PyProof.Rows.Call_ (ld_blt I hg hm PySem.boot_len ?_)
  refine PyProof.Rows.callWith_builtin1 (PyProof.Rows.args_cons ?_ rfl) rfl rfl
  refine PyProof.Rows.Call_ (ld_blt I hg2 hm2 PyProof.Rows.boot_set ?_)
  refine PyProof.Rows.callWith_type1 (PyProof.Rows.args_cons (thn (ha.pe.run pins s τ H _ I ⟨F, μ, σ, h, c, rs, S, hcu, WP.bnd (rel := RV) w⟩) fun v s1 z => PyProof.Rows.args_nil ?_) (by rw [star_of ha.ns])) (by rw [star_of ha.ns]) rfl
  obtain ⟨v', H1, I1, r1, μ1, vv, h1, p1, S1, rv, w1⟩ := z
  unfold bifn at w1
  simp only at w1
  split at w1
  · rename_i xs e1
    split at w1
    · rename_i ns e2
      split at w1
      · rename_i hl
        obtain ⟨l, ys, rfl, ry, sq⟩ := S1.seq e1 rv
        have ey := RVs.ints e2 ry
        subst ey
        cases r1
        have hle := PyProof.Rows.firstMet_length_le (fun i => ns.getD i 0) ns.length
        rcases sq with sq | sq
        · have sq : SqL X.K H1 l (ns.map V.int) := by rw [show X.K = (D.G.wf F).K from hk.K]; exact sq
          obtain ⟨its, r, pl, hz⟩ := I1.list sq
          have hlen : its.toArray.size = ns.length := by rw [List.size_toArray, ← r.length, List.length_map]
          refine call_set_list (I1.ok.hd hc) pl.isList (ns := ns) (by simpa using ints_vals r) (by rw [hlen]; unfold scanBound; omega) fun h' tk hS hk2 => ?_
          refine PyProof.Rows.args_nil ?_
          rw [hlen] at hS
          obtain ⟨o, es, ep, tt, ho, hex, hd, _, _, _, hf, hn⟩ := hS
          have I2 : Inv X pins τ H1 { s1 with heap := h', toks := tk } := I1.kept fun b o e => hk2 b o (Heap.lt_size e) e
          exact call_len_set ho hex hd hf (by rw [hn]; omega) ⟨.int ((distinct ns : Nat) : Int), H1, I2.tok _, ⟨_, by rw [hn]; rfl⟩, w1.val S1 rfl⟩
        · have sq : SqT X.K H1 l (ns.map V.int) := by rw [show X.K = (D.G.wf F).K from hk.K]; exact sq
          obtain ⟨its, r, pl, hz⟩ := I1.tuple sq
          refine call_set_tupI ns (I1.ok.hd hc) pl (by simpa using ints_vals r) (by unfold scanBound; omega) fun h' tk c hS hcl hk2 => ?_
          refine PyProof.Rows.args_nil ?_
          obtain ⟨o, es, ep, tt, ho, hex, hd, _, hnd, hmem, _, hf, hn, _⟩ := hS
          have ec : c = distinct ns := by
            have q := distinct_of (ns := ns) hnd fun k => by rw [← hmem k]; simp
            rw [List.length_map] at q
            rw [← hn, ← q]
            simp
          have I2 : Inv X pins τ H1 { s1 with heap := h', toks := tk } := I1.kept fun b o e => hk2 b o e
          exact call_len_set ho hex hd hf (by rw [hn, ec]; have : distinct ns < 64 := Nat.lt_of_le_of_lt hle hl; omega) ⟨.int ((distinct ns : Nat) : Int), H1, I2.tok _, ⟨_, by rw [hn, ec]⟩, w1.val S1 rfl⟩
      · exact w1.elim
    · exact w1.elim
  · exact w1.elim
/-! ### dict displays of constants -/
inductive CP (X : Cx) : List (Option Expr) → List Expr → List (Key × V) → List (TE × TE) → Prop
  | nil : CP X [] [] [] []
  | cons {ke ve : Expr} {k : Key} {v : V} {ks : List (Option Expr)} {vs : List Expr} {kvs : List (Key × V)} {trs : List (TE × TE)} (hk : PE X ke (tC (kV k))) (hv : PE X ve (tC v)) (nv : ∀ a, v ≠ .ref a) (r : CP X ks vs kvs trs) : CP X (some ke :: ks) (ve :: vs) ((k, v) :: kvs) ((tC (kV k), tC v) :: trs)
theorem CP.pps {ks : List (Option Expr)} {vs : List Expr} {kvs : List (Key × V)} {trs : List (TE × TE)} (h : CP X ks vs kvs trs) : PPs X pos ks vs trs := by
  induction h with
  | nil => exact pps_nil
  | cons hk hv nv r ih => exact pps_cons hk hv ih
theorem CP.rd {ks : List (Option Expr)} {vs : List Expr} {kvs : List (Key × V)} {trs : List (TE × TE)} (h : CP X ks vs kvs trs) {σ : St} {H : Hp} : ∀ {Q : List (V × V) → Hp → Prop}, Q (kvs.map fun kv => (kV kv.1, kv.2)) H → tPairs trs σ H Q := by
  induction h with
  | nil => exact fun q => q
  | cons hk hv nv r ih => exact fun q => ih q
theorem CP.rk {ks : List (Option Expr)} {vs : List Expr} {kvs : List (Key × V)} {trs : List (TE × TE)} (h : CP X ks vs kvs trs) {μ : List Addr} : ∀ p ∈ kvs, RV μ p.2 p.2 := by
  induction h with
  | nil => simp
  | cons hk hv nv r ih =>
    intro p hp
    rcases List.mem_cons.mp hp with rfl | hp
    · exact rv_cst nv
    · exact ih p hp
theorem upd_upd {H : Hp} {p : Addr} {a b : HO} : upd (upd H p a) p b = upd H p b := by
  funext c
  by_cases hc : c = p
  · subst hc; rw [upd_same, upd_same]
  · rw [upd_ne hc, upd_ne hc, upd_ne hc]
theorem mem_putK {k : Key} {v : V} : ∀ {kvs : List (Key × V)} {p : Key × V}, p ∈ putK kvs k v → p ∈ kvs ∨ p.2 = v
  | kvs, p, h => by
    unfold putK at h
    split at h
    · obtain ⟨q, hq, e⟩ := List.mem_map.mp h
      split at e
      · subst e; exact .inr rfl
      · subst e; exact .inl hq
    · rcases List.mem_append.mp h with h | h
      · exact .inl h
      · simp at h; subst h; exact .inr rfl
theorem mem_mergeK : ∀ {more kvs : List (Key × V)} {p : Key × V}, p ∈ mergeK kvs more → (∃ q ∈ kvs, q.2 = p.2) ∨ ∃ q ∈ more, q.2 = p.2
  | [], kvs, p, h => .inl ⟨p, h, rfl⟩
  | q :: r, kvs, p, h => by
    rcases mem_mergeK (more := r) (kvs := putK kvs q.1 q.2) h with ⟨z, hz, e⟩ | ⟨z, hz, e⟩
    · rcases mem_putK hz with hz | hz
      · exact .inl ⟨z, hz, e⟩
      · exact .inr ⟨q, List.mem_cons_self, by rw [← e, hz]⟩
    · exact .inr ⟨z, List.mem_cons_of_mem _ hz, e⟩
theorem rkv_self {μ : List Addr} : ∀ {kvs : List (Key × V)}, (∀ p ∈ kvs, RV μ p.2 p.2) → RKV μ kvs kvs
  | [], _ => .nil
  | p :: r, h => .cons ⟨rfl, h p List.mem_cons_self⟩ (rkv_self fun q hq => h q (List.mem_cons_of_mem _ hq))
theorem se_dct0 (hk : EX X D) : SE X D W R (.Dict [] [] pos) (.dct []) t :=
  pt_fin (pe_dnewK.imp fun τ H Q ⟨F, μ, σ, h, c, rs, S, hcu, w⟩ => by
    simp only [evE, bnd_fin] at w
    exact fun q hq => w.new S hq ⟨[], .nil, upd_same⟩) hk.K (fun Γ c σ h => ⟨_, fun t => rfl⟩) (fun _ => rfl) (by intros; intro z; cases z) rfl
theorem se_dct {ks : List (Option Expr)} {vs : List Expr} {kvs : List (Key × V)} {trs : List (TE × TE)} (hk : EX X D) (hp : CP X ks vs kvs trs) (h1 : ks.all (·.isSome) = true) (h2 : ks.length = vs.length) (h3 : ks ≠ []) (h4 : ks.length ≤ 15) (h5 : kvs.length ≤ 15) : SE X D W R (.Dict ks vs pos) (.dct kvs) t :=
  pt_fin ((pe_disp hp.pps h1 h2 h3 h4).imp fun τ H Q ⟨F, μ, σ, h, c, rs, S, hcu, w⟩ => fun q hq => by
    simp only [evE, bnd_fin] at w
    refine hp.rd ⟨upd_same, kvs, rfl, h5, ?_⟩
    rw [upd_upd]
    refine w.new S hq ⟨mergeK [] kvs, rkv_self fun p hm => ?_, upd_same⟩
    rcases mem_mergeK hm with ⟨z, hz, _⟩ | ⟨z, hz, e⟩
    · cases hz
    · rw [← e]; exact hp.rk z hz) hk.K (fun Γ c σ h => ⟨_, fun t => rfl⟩) (fun _ => rfl) (by intros; intro z; cases z) rfl
end
end MP
end
section
set_option Elab.async false
set_option linter.all false
set_option maxHeartbeats 400000
namespace MP
open PySem L2
/-! ### statements -/
def WPS (G : Stat) (W : WX) (R : CurR) (c : Option (Nat × Nat)) (Dn : Ends) (μ : List Addr) : ES → Prop
  | some (.ok (.nx σ) h) => ∀ μ' τ H, μ <+: μ' → RS μ' σ τ → Sim G μ' h H → CurOk G μ' τ R c → Dn.nx τ H
  | some (.ok (.bk σ) h) => ∀ μ' τ H, μ <+: μ' → RS μ' σ τ → Sim G μ' h H → CurOk G μ' τ R c → Dn.bk τ H
  | some (.ok (.ct σ) h) => ∀ μ' τ H, μ <+: μ' → RS μ' σ τ → Sim G μ' h H → CurOk G μ' τ R c → Dn.ct τ H
  | some (.ok (.rt v) h) => ∀ μ' H v', μ <+: μ' → Sim G μ' h H → RV μ' v v' → Dn.rt v' H
  | some (.ex C d σ h) => ∀ μ' τ H d', μ <+: μ' → RS μ' σ τ → Sim G μ' h H → μ'[d]? = some d' → W (.ref (G.cls C)) (some d') τ H
  | none => False
theorem WPS.mono {G : Stat} {W : WX} {R : CurR} {c : Option (Nat × Nat)} {Dn : Ends} {μ μ' : List Addr} {r : ES} (w : WPS G W R c Dn μ r) (p : μ <+: μ') : WPS G W R c Dn μ' r := by
  match r, w with
  | some (.ok (.nx σ) h), w => exact fun m τ H q => w m τ H (p.trans q)
  | some (.ok (.bk σ) h), w => exact fun m τ H q => w m τ H (p.trans q)
  | some (.ok (.ct σ) h), w => exact fun m τ H q => w m τ H (p.trans q)
  | some (.ok (.rt v) h), w => exact fun m H v' q => w m H v' (p.trans q)
  | some (.ex C d σ h), w => exact fun m τ H d' q => w m τ H d' (p.trans q)
theorem WPS.bE {α β : Type} {G : Stat} {W : WX} {R : CurR} {c : Option (Nat × Nat)} {Dn : Ends} {μ : List Addr} {rel : List Addr → α → β → Prop} {x : EV α} {k : α → IH → ES} {σ τ : St} (w : WPS G W R c Dn μ (MP.bE σ x k)) (rs : RS μ σ τ) :
    WP G W τ rel μ x fun b H1 => ∃ μ1 a h1, μ <+: μ1 ∧ Sim G μ1 h1 H1 ∧ rel μ1 a b ∧ WPS G W R c Dn μ1 (k a h1) := by
  cases x with
  | none => exact w
  | some o =>
    cases o with
    | val v h => exact fun m H v' q S r => ⟨m, v, h, q, S, r, WPS.mono w q⟩
    | exn C d h => exact fun m H d' q S e => w m τ H d' q (rs.mono q) S e
def tS (D : Dat) (N : Nat) (W : WX) (R : CurR) (m : MS) : TS := fun Dn τ H => ∃ F μ σ h c, RS μ σ τ ∧ Sim (D.G.wf F) μ h H ∧ CurOk D.G μ τ R c ∧ WPS (D.G.wf F) W R c Dn μ (evS D.Γ N c m σ h)
def tB (D : Dat) (N : Nat) (W : WX) (R : CurR) (m : MB) : TS := fun Dn τ H => ∃ F μ σ h c, RS μ σ τ ∧ Sim (D.G.wf F) μ h H ∧ CurOk D.G μ τ R c ∧ WPS (D.G.wf F) W R c Dn μ (evB D.Γ N c m σ h)
theorem _root_.L2.PS.imp {X : Cx} {e : Stmt} {t t' : TS} (a : PS X e t) (f : ∀ D σ H, t' D σ H → t D σ H) : PS X e t' := ⟨fun pins s σ H D I z => a.run pins s σ H D I (f D σ H z)⟩
theorem _root_.L2.PSs.imp {X : Cx} {e : List Stmt} {t t' : TS} (a : PSs X e t) (f : ∀ D σ H, t' D σ H → t D σ H) : PSs X e t' := ⟨fun pins s σ H D I z => a.run pins s σ H D I (f D σ H z)⟩
/-- the exception's name is not among these slots -/
def RNot (R : CurR) (js : List Nat) : Prop := ∀ i a cv d, R = some (some i, a, cv, d) → i ∉ js
theorem CurOk.but {G : Stat} {μ : List Addr} {τ τ' : St} {js : List Nat} : ∀ {R : CurR} {c : Option (Nat × Nat)}, CurOk G μ τ R c → But js τ τ' → RNot R js → CurOk G μ τ' R c
  | none, none, _, _, _ => trivial
  | some (none, a, cv, d), some (C, e), ⟨h1, h2, h3⟩, _, _ => ⟨h1, h2, fun n z => by cases z⟩
  | some (some i, a, cv, d), some (C, e), ⟨h1, h2, h3⟩, b, n => ⟨h1, h2, fun j z => by
      cases z
      rw [b.2 _ (n _ _ _ _ rfl)]
      exact h3 _ rfl⟩
  | none, some _, h, _, _ => h.elim
  | some _, none, h, _, _ => h.elim
theorem RF.put {G : Stat} {μ : List Addr} {f : Nat} {v v' : V} (hf : f < G.M) (rv : RV μ v v') : ∀ {fs : List (Nat × V)} {gs : List (Str × V)}, RF G μ fs gs → RF G μ (putI f v fs) (putF (G.fld f) v' gs)
  | [], _, .nil => .cons ⟨hf, rfl, rv⟩ .nil
  | (g, u) :: fs, _, @Paired.cons _ _ _ _ (y, u') _ gs h r => by
    obtain ⟨h1, h2, h3⟩ := h
    have h2 : y = G.fld g := h2
    subst h2
    unfold putI putF
    by_cases e : g = f
    · subst e
      rw [if_pos rfl, if_pos rfl]
      exact .cons ⟨h1, rfl, rv⟩ r
    · rw [if_neg e, if_neg (fun z => e (G.fok _ _ h1 hf z))]
      exact .cons ⟨h1, rfl, h3⟩ (RF.put hf rv r)
section
variable {X : Cx} {D : Dat} {N : Nat} {W : WX} {R : CurR} {e a b o tg : Expr} {m ma mb mo me : ME} {mt : MT} {pos p p2 : Pos} {es : List Expr} {ms : MA} {st : Stmt} {sts : List Stmt} {s1 : MS} {b1 b2 : MB} {g : TG} {mi : MI}
theorem sb_nil : PSs X [] (tB D N W R .nil) := pss_nil.imp fun Dn τ H ⟨F, μ, σ, h, c, rs, S, hc, w⟩ => by
  simp only [evB] at w
  exact w μ τ H (List.prefix_refl _) rs S (by cases R <;> cases c <;> exact hc)
theorem CurOk.wf {G : Stat} {F : Hp} {μ : List Addr} {τ : St} {R : CurR} {c : Option (Nat × Nat)} : CurOk (G.wf F) μ τ R c ↔ CurOk G μ τ R c := by
  cases R <;> cases c <;> exact Iff.rfl
theorem sb_cons (h1 : PS X st (tS D N W R s1)) (h2 : PSs X sts (tB D N W R b1)) : PSs X (st :: sts) (tB D N W R (.cons s1 b1)) := (pss_cons h1 h2).imp fun Dn τ H ⟨F, μ, σ, h, c, rs, S, hc, w⟩ => by
  simp only [evB] at w
  refine ⟨F, μ, σ, h, c, rs, S, hc, ?_⟩
  match er : evS D.Γ N c s1 σ h, w with
  | some (.ok (.nx σ') h'), w => exact fun μ' τ' H' q r' S' c' => ⟨F, μ', σ', h', c, r', S', CurOk.wf.mp c', WPS.mono (show WPS (D.G.wf F) W R c Dn μ (evB D.Γ N c b1 σ' h') from w) q⟩
  | some (.ok (.bk σ') h'), w => exact w
  | some (.ok (.ct σ') h'), w => exact w
  | some (.ok (.rt v) h'), w => exact w
  | some (.ex C d σ' h'), w => exact w
  | none, w => exact w.elim
theorem ss_asg (hg : SG X D tg mt g) (he : PS X st (tAsg (tE D W R me) g)) (hR : RNot R (slT mt)) : PS X st (tS D N W R (.asg mt me)) := he.imp fun Dn τ H ⟨F, μ, σ, h, c, rs, S, hc, w⟩ => by
  simp only [evS] at w
  refine ⟨F, μ, σ, h, c, rs, S, hc, WP.imp (WPS.bE (rel := RV) w rs) fun v' H1 ⟨μ1, v, h1, p1, S1, rv, w1⟩ => ?_⟩
  cases ea : asgT mt v σ h1 with
  | none => rw [ea] at w1; exact (show False from w1).elim
  | some σ' =>
    rw [ea] at w1
    exact hg.rd (rs.mono p1) S1 rv ea fun τ' rs' bt => w1 μ1 τ' H1 (List.prefix_refl _) rs' S1 (CurOk.wf.mpr ((hc.mono p1).but bt hR))
theorem ss_ret (he : SE X D W R e me false) : PS X (.Return (some e) pos) (tS D N W R (.ret me)) := (ps_ret he.pe).imp fun Dn τ H ⟨F, μ, σ, h, c, rs, S, hc, w⟩ => by
  simp only [evS] at w
  exact ⟨F, μ, σ, h, c, rs, S, hc, WP.imp (WPS.bE (rel := RV) w rs) fun v' H1 ⟨μ1, v, h1, p1, S1, rv, w1⟩ => w1 μ1 H1 v' (List.prefix_refl _) S1 rv⟩
theorem ss_retN : PS X (.Return none pos) (tS D N W R .retN) := ps_retN.imp fun Dn τ H ⟨F, μ, σ, h, c, rs, S, hc, w⟩ => by
  simp only [evS] at w
  exact w μ H .non (List.prefix_refl _) S rfl
theorem ss_expr (he : SE X D W R e me false) (hs : swapsWith e none pos.line X.env = pure false) : PS X (.Expr e pos) (tS D N W R (.ex me)) := (ps_expr he.pe hs).imp fun Dn τ H ⟨F, μ, σ, h, c, rs, S, hc, w⟩ => by
  simp only [evS] at w
  exact ⟨F, μ, σ, h, c, rs, S, hc, WP.imp (WPS.bE (rel := RV) w rs) fun v' H1 ⟨μ1, v, h1, p1, S1, rv, w1⟩ => w1 μ1 τ H1 (List.prefix_refl _) (rs.mono p1) S1 (CurOk.wf.mpr (hc.mono p1))⟩
theorem ss_pass : PS X (.Pass pos) (tS D N W R .pss) := ps_pass.imp fun Dn τ H ⟨F, μ, σ, h, c, rs, S, hc, w⟩ => by
  simp only [evS] at w
  exact w μ τ H (List.prefix_refl _) rs S (CurOk.wf.mpr hc)
theorem ss_brk : PS X (.Break pos) (tS D N W R .brk) := ps_break.imp fun Dn τ H ⟨F, μ, σ, h, c, rs, S, hc, w⟩ => by
  simp only [evS] at w
  exact w μ τ H (List.prefix_refl _) rs S (CurOk.wf.mpr hc)
theorem ss_cnt : PS X (.Continue pos) (tS D N W R .cnt) := ps_continue.imp fun Dn τ H ⟨F, μ, σ, h, c, rs, S, hc, w⟩ => by
  simp only [evS] at w
  exact w μ τ H (List.prefix_refl _) rs S (CurOk.wf.mpr hc)
theorem ss_if {ca cb : List Stmt} (hc' : SE X D W R e me true) (ha : PSs X ca (tB D N W R b1)) (hb : PSs X cb (tB D N W R b2)) : PS X (.If e ca cb pos) (tS D N W R (.ifS me b1 b2)) := (ps_if (hc'.pt rfl) ha hb).imp fun Dn τ H ⟨F, μ, σ, h, c, rs, S, hc, w⟩ => by
  simp only [evS] at w
  refine ⟨F, μ, σ, h, c, rs, S, hc, WP.imp (WPS.bE (rel := RB) w rs) fun x' H1 ⟨μ1, x, h1, p1, S1, rx, w1⟩ => ?_⟩
  have rx : x = .bl x' := rx
  subst rx
  cases x' with
  | true => rw [if_pos rfl]; exact ⟨F, μ1, σ, h1, c, rs.mono p1, S1, hc.mono p1, w1⟩
  | false => rw [if_neg Bool.false_ne_true]; exact ⟨F, μ1, σ, h1, c, rs.mono p1, S1, hc.mono p1, w1⟩
/-- o.f = e -/
theorem ss_fld {k f : Nat} {x : Str} {p' : Pos} (E : Dyn X.prog X.w X.K X.mg X.base D k) (hf : D.G.fld f = x) (ho : SE X D W R o mo false) (he : SE X D W R e me false) (hs : swapsWith e (some (.Attribute o x p')) pos.line X.env = pure false) : PS X (.Assign [.Attribute o x p'] e pos) (tS D N W R (.asgA mo f me)) := by
  subst hf
  refine (ps_fld ho.pe he.pe hs).imp fun Dn τ H ⟨F, μ, σ, h, c, rs, S, hc, w⟩ => ?_
  simp only [evS] at w
  refine ⟨F, μ, σ, h, c, rs, S, hc, WP.imp (WPS.bE (rel := RV) w rs) fun y' H1 ⟨μ1, y, h1, p1, S1, ry, w1⟩ => ?_⟩
  refine ⟨F, μ1, σ, h1, c, rs.mono p1, S1, hc.mono p1, WP.imp (WPS.bE (rel := RV) w1 (rs.mono p1)) fun x' H2 ⟨μ2, x, h2, p2, S2, rx, w2⟩ => ?_⟩
  unfold setA at w2
  split at w2
  · rename_i q
    obtain ⟨ad, ha, rfl⟩ := rx
    split at w2
    · rename_i C fs hob
      obtain ⟨dx, gs, rf, oa⟩ := S2.obj _ _ _ hob ha
      split at w2
      · rename_i hl
        obtain ⟨hM, cl, na⟩ := E.isF C f hl.2
        refine ⟨ad, D.G.cls C, dx, gs, rfl, oa, cl, na, by rw [← Paired.length rf]; exact hl.1, ?_⟩
        refine w2 μ2 τ _ (List.prefix_refl _) ((rs.mono p1).mono p2) (S2.write hob ha rfl rfl ⟨dx, _, ?_, upd_same⟩) (CurOk.wf.mpr ((hc.mono p1).mono p2))
        exact RF.put hM (ry.mono p2) rf
      · exact w2.elim
    · exact w2.elim
  · exact w2.elim
end
end MP
end
section
set_option Elab.async false
set_option linter.all false
set_option maxHeartbeats 400000
namespace MP
open PySem L2
section
variable {X : Cx} {D : Dat} {N : Nat} {W : WX} {R : CurR} {e a b o tg iter elt : Expr} {m ma mb mo me melt : ME} {mt : MT} {pos p p2 : Pos} {es : List Expr} {ms : MA} {st : Stmt} {sts : List Stmt} {s1 : MS} {b1 b2 : MB} {g : TG} {mi : MI} {mc : MO}
theorem ss_for {body : List Stmt} (hp : PassesOwn (model X.prog X.w) X.A X.env X.xe) (hc : X.calm = true) (hi : PI X tg iter (tI D W R mi)) (hg : SG X D tg mt g) (hb : PSs X body (tB D N W R b1)) (hs : ∀ x, foldedSetIterable iter X.env x = pure x) (hR : RNot R (slT mt)) :
    PS X (.For tg iter body [] pos) (tS D N W R (.forS mt mi b1)) := (ps_for hp hc hi hg.pg hb hs).imp fun Dn τ H ⟨F, μ, σ, h, c, rs, S, hcu, w⟩ => by
  simp only [evS] at w
  refine ⟨F, μ, σ, h, c, rs, S, hcu, WP.imp (WPS.bE (rel := JOk D) w rs) fun J H1 ⟨μ1, is, h1, p1, S1, jok, w1⟩ => ?_⟩
  generalize hn : is.xs.length = n at *
  refine ⟨fun i m τ H => m = n - i ∧ i ≤ n ∧ ∃ μ' σ' h', μ1 <+: μ' ∧ RS μ' σ' τ ∧ Sim (D.G.wf F) μ' h' H ∧ CurOk D.G μ' τ R c ∧ WPS (D.G.wf F) W R c Dn μ' (loopF mt (evB D.Γ N c b1) is.gd (is.xs.drop i) σ' h'), ⟨n, by simp, Nat.zero_le _, μ1, σ, h1, List.prefix_refl _, rs.mono p1, S1, hcu.mono p1, by simpa using w1⟩, ?_⟩
  rintro i m τ1 H2 ⟨rfl, hi', μ', σ', h', p, rs', S', cu', w'⟩
  by_cases hlt : i < n
  · have hix : i < is.xs.length := by rw [hn]; exact hlt
    rw [List.drop_eq_getElem_cons hix] at w'
    unfold loopF at w'
    split at w'
    · rename_i ok
      obtain ⟨_, jgo, jy⟩ := jok F μ' h' H2 p S' ok
      refine .inr ⟨jgo i hix, fun τ H => n - (i + 1) = n - (i + 1) ∧ i + 1 ≤ n ∧ ∃ μ' σ' h', μ1 <+: μ' ∧ RS μ' σ' τ ∧ Sim (D.G.wf F) μ' h' H ∧ CurOk D.G μ' τ R c ∧ WPS (D.G.wf F) W R c Dn μ' (loopF mt (evB D.Γ N c b1) is.gd (is.xs.drop (i + 1)) σ' h'), fun τ' H' z => ⟨n - (i + 1), by omega, z⟩, fun x' H' y => ?_⟩
      obtain ⟨S2, ⟨x, ex, yr⟩, kp⟩ := jy i x' H' hix y
      have ex2 : is.xs[i] = x := by
        rw [List.getElem?_eq_getElem hix] at ex
        exact Option.some.inj ex
      rw [ex2] at w'
      split at w'
      · rename_i σt ea
        refine hg.rx rs' S2 yr ea fun τ' rs2 bt => ⟨F, μ', σt, h', c, rs2, S2, cu'.but bt hR, ?_⟩
        match er : evB D.Γ N c b1 σt h', w' with
        | some (.ok (.nx σ3) h3), w' => exact fun μ3 τ3 H3 q r3 S3 c3 => ⟨rfl, hlt, μ3, σ3, h3, p.trans q, r3, S3, CurOk.wf.mp c3, WPS.mono (show WPS (D.G.wf F) W R c Dn μ' (loopF mt (evB D.Γ N c b1) is.gd (is.xs.drop (i + 1)) σ3 h3) from w') q⟩
        | some (.ok (.ct σ3) h3), w' => exact fun μ3 τ3 H3 q r3 S3 c3 => ⟨rfl, hlt, μ3, σ3, h3, p.trans q, r3, S3, CurOk.wf.mp c3, WPS.mono (show WPS (D.G.wf F) W R c Dn μ' (loopF mt (evB D.Γ N c b1) is.gd (is.xs.drop (i + 1)) σ3 h3) from w') q⟩
        | some (.ok (.bk σ3) h3), w' => exact w'
        | some (.ok (.rt v) h3), w' => exact w'
        | some (.ex C d σ3 h3), w' => exact w'
        | none, w' => exact w'.elim
      · exact w'.elim
    · exact w'.elim
  · have e : i = n := by omega
    subst e
    rw [List.drop_eq_nil_of_le (by omega)] at w'
    unfold loopF at w'
    split at w'
    · rename_i ok
      obtain ⟨jst, _, _⟩ := jok F μ' _ H2 p S' ok
      exact .inl ⟨by rw [← hn]; exact jst, w' μ' τ1 H2 (List.prefix_refl _) rs' S' (CurOk.wf.mpr cu')⟩
    · exact w'.elim
/-- a, b = e1, e2 -/
theorem ss_par {i j : Nat} {x y : Str} {px py pt : Pos} {kt k2 : Nat} {pt2 : Pos} (hc : X.calm = true) (hN : X.N.Nodup) (hi : X.N[i]? = some x) (hj : X.N[j]? = some y) (hij : i ≠ j)
    (hx : X.env.scope.names.lookup x = some .local) (hy : X.env.scope.names.lookup y = some .local) (ha : SA X D W R [a, b] ms)
    (hw : swappedStores [.Tuple [.Name x px, .Name y py] kt pt] (.Tuple [a, b] k2 pt2) X.env = pure (some [x, y]))
    (hs : swapsWithSole [.Tuple [.Name x px, .Name y py] kt pt] (.Tuple [a, b] k2 pt2) pos.line X.env = pure false) (hR : RNot R [i, j]) :
    PS X (.Assign [.Tuple [.Name x px, .Name y py] kt pt] (.Tuple [a, b] k2 pt2) pos) (tS D N W R (.par (.tup (.cons (.nm i) (.cons (.nm j) .nil))) ms)) :=
  (L2.ps_par hc hN hi hj hij hx hy ha.pa hw hs).imp fun Dn τ H ⟨F, μ, σ, h, c, rs, S, hcu, w⟩ => by
  simp only [evS] at w
  refine ⟨F, μ, σ, h, c, rs, S, hcu, WP.imp (WPS.bE (rel := RVs) w rs) fun vs' H1 ⟨μ1, vs, h1, p1, S1, rv, w1⟩ => ?_⟩
  cases rv with
  | nil => simp only [asgTs, nxt] at w1; exact w1.elim
  | @cons v v' vs vs' r1 r2 =>
    cases r2 with
    | nil => simp only [asgTs, asgT, nxt] at w1; exact w1.elim
    | @cons u u' vs vs' r2 r3 =>
      cases r3 with
      | cons _ _ => simp only [asgTs, asgT, nxt] at w1; exact w1.elim
      | nil =>
        simp only [asgTs, asgT, nxt] at w1
        refine ⟨v', u', rfl, w1 μ1 _ H1 (List.prefix_refl _) (((rs.mono p1).set i r1).set j r2) S1 (CurOk.wf.mpr ((hcu.mono p1).but (js := [i] ++ [j]) (But.trans But.set But.set) hR))⟩
/-- x = [..] on one line -/
theorem ss_lc {i : Nat} {y : Str} {py : Pos} {ifs : List Expr} {scope : Scope} {own : List (Str × Nat)} {spos : Pos} {g2 : TG} {ws : List Nat} (hk : EX X D) (hc : X.calm = true) (hN : X.N.Nodup) (hy : X.N[i]? = some y) (hyl : X.env.scope.names.lookup y = some .local)
    (hsw : swapsWith (.ListComp elt [⟨tg, iter, ifs, 0⟩] scope pos) (some (.Name y py)) spos.line X.env = pure true) (hi : PI X tg iter (tI D W R mi)) (ok : BlkOk X.N X.env.scope scope own)
    (hg : ∀ (s : Shared) (H : Hp) (C : Addr) (cl : List (Str × Addr)) (fp : List Addr), SG (X.blk s H scope (compEnvC scope cl C X.env) fp) D tg mt g2)
    (ht : ∀ (s : Shared) (H : Hp) (C : Addr) (cl : List (Str × Addr)) (fp : List Addr), PTs (X.blk s H scope (compEnvC scope cl C X.env) fp) ifs (tCo D mc))
    (he : ∀ (s : Shared) (H : Hp) (C : Addr) (cl : List (Str × Addr)) (fp : List Addr), SE (X.blk s H scope (compEnvC scope cl C X.env) fp) D WF none elt melt false)
    (hs : ∀ x, foldedSetIterable iter X.env x = pure x) (hw : own.map (·.2) = ws) (hws : ∀ j ∈ slT mt, j ∈ ws) (hR : RNot R [i]) : PS X (.Assign [.Name y py] (.ListComp elt [⟨tg, iter, ifs, 0⟩] scope pos) spos) (tS D N W R (.asg (.nm i) (.lc ws melt mt mi mc))) := by
  subst hw
  refine ss_asg (sg_nm (pos := py) hN hy (.inl hyl) (.inr hyl)) ((ps_setLc hc hN hy hyl hsw hi ok (fun s H C cl fp => (hg s H C cl fp).pg) ht (fun s H C cl fp => (he s H C cl fp).pe) hs).imp fun Dn τ H z => ?_) (by simpa only [slT] using hR)
  exact lc_tE (hg ⟨X.base, #[], X.s_0.drawn, 0, X.s_0.os⟩ H 0 [] []) hws z
/-- the exception classes of the text -/
structure XFacts (K : PySem.W.Frag) (D : Dat) : Prop where
  exf : ∀ C f, D.Γ.exf C = some f → f < D.G.M ∧ ExcC K (D.G.cls C) ∧ PySem.W.findIn K (.ref (D.G.cls C)) (D.G.fld f) = some none
theorem ExcC.xf {K : PySem.W.Frag} {C : Addr} (h : ExcC K C) : XfC K C := ⟨h.hg, h.hk, h.hs, h.hd⟩
/-- try: .. except x as n: .. -/
theorem ss_try {x n : Str} {cv : Value} {i Cx : Nat} {body suite : List Stmt} {b₀ : Stmt} {np pos' : Pos} (hs : X.stack = X.env :: X.outer) (hf : X.env.frame = some X.env.locals) (hN : X.N.Nodup) (hi : X.N[i]? = some n) (hln : X.env.kindOf n = some .local) (hc : Names X x cv) (tk : Takes X W)
    (hex : ∀ C f, D.Γ.exf C = some f → PySem.W.exmOne X.K (.ref (D.G.cls C)) cv = some (D.Γ.sub C Cx))
    (hb : ∀ (W' : WX) (pn : List (Addr × Obj)) (xe : Value → Shared → Prop), Takes (X.tr pn xe) W' → PassesOwn (model X.prog X.w) X.A X.env xe → PSs (X.tr pn xe) body (tB D N W' none b1))
    (hsu : ∀ (a : Addr) (oe : Obj) (cls : Value) (d : Option Addr) (pn : List (Addr × Obj)), Zc cls d oe → (∃ vs, oe.data = .fields vs) → PSs (X.suite a ((a, oe) :: pn)) (b₀ :: suite) (tB D N WF (some (some i, a, cls, d)) b2)) :
    PS X (.Try body [.ExceptHandler (some (.Name x np)) (some n) (b₀ :: suite) pos'] [] [] pos) (tS D N W none (.tryS b1 (.cons Cx (some i) b2 .nil))) :=
  (L2.ps_try_as (tb := fun W' => tB D N W' none b1) (ts := fun a cls d => tB D N WF (some (some i, a, cls, d)) b2) hs hf hN hi hln hc tk hb hsu).imp fun Dn τ H ⟨F, μ, σ, h, c, rs, S, hcu, w⟩ => by
  have hc0 : c = none := by
    cases c with
    | none => rfl
    | some z => exact hcu.elim
  subst hc0
  simp only [evS] at w
  refine ⟨F, μ, σ, h, none, rs, S, hcu, ?_⟩
  match er : evB D.Γ N none b1 σ h, w with
  | some (.ok (.nx σ') h'), w => exact w
  | some (.ok (.bk σ') h'), w => exact w
  | some (.ok (.ct σ') h'), w => exact w
  | some (.ok (.rt v) h'), w => exact w
  | none, w => exact w.elim
  | some (.ex C d σ' h'), w =>
    have w : WPS (D.G.wf F) W none none Dn μ (evH D.Γ N C d (.cons Cx (some i) b2 .nil) σ' h') := w
    intro μ' τ' H' d' q rs' S' ed
    simp only [evH] at w
    split at w
    · rename_i hx
      obtain ⟨f, ef⟩ := Option.isSome_iff_exists.mp hx
      refine ⟨D.Γ.sub C Cx, hex C f ef, fun hb a na => ?_, fun hb => ?_⟩
      · rw [if_pos hb] at w
        split at w
        · rename_i hil
          have hlen : i < τ'.length := by rw [← Paired.length rs']; exact hil
          refine ⟨F, μ', σ'.set i none, h', some (C, d), Paired.setP (show RO μ' none (some (.ref a)) from trivial) i rs', S', ⟨rfl, ⟨d', rfl, ed⟩, fun n z => by cases z; rw [List.getElem?_set_self hlen]⟩, ?_⟩
          have un : ∀ {r : ES}, WPS (D.G.wf F) W none none Dn μ (unN i r) → WPS (D.G.wf F) WF (some (some i, a, .ref ((D.G.wf F).cls C), some d')) (some (C, d)) { nx := fun σ' H' => Dn.nx (σ'.set i none) H', rt := Dn.rt, bk := fun σ' H' => Dn.bk (σ'.set i none) H', ct := fun σ' H' => Dn.ct (σ'.set i none) H' } μ' r := by
            intro r w
            match r, w with
            | some (.ok (.nx σ3) h3), w => exact fun m τ3 H3 z r3 S3 _ => w m _ H3 (q.trans z) (Paired.setP (show RO m none none from trivial) i r3) S3 trivial
            | some (.ok (.bk σ3) h3), w => exact fun m τ3 H3 z r3 S3 _ => w m _ H3 (q.trans z) (Paired.setP (show RO m none none from trivial) i r3) S3 trivial
            | some (.ok (.ct σ3) h3), w => exact fun m τ3 H3 z r3 S3 _ => w m _ H3 (q.trans z) (Paired.setP (show RO m none none from trivial) i r3) S3 trivial
            | some (.ok (.rt v) h3), w => exact fun m H3 v' z S3 rv => w m H3 v' (q.trans z) S3 rv
            | some (.ex _ _ _ _), w => exact (show False from w).elim
            | none, w => exact (show False from w).elim
          exact un w
        · exact w.elim
      · rw [if_neg (by rw [hb]; simp)] at w
        exact w μ' τ' H' d' q rs' S' ed
    · exact w.elim
/-- e.f, e the exception that the suite holds -/
theorem se_curF {x nm : Str} {A0 : Addr} {oe : Obj} {cls : Value} {d : Option Addr} {pn : List (Addr × Obj)} {i f : Nat} {t : Bool} (hk : EX X D) (T : XFacts X.K D) (hz : Zc cls d oe) (hf : ∃ vs, oe.data = .fields vs) (hN : X.N[i]? = some x) (hv : Vis X.env.scope x) (ok : okName x = true) (hn : D.G.fld f = nm)
    (hb : attributeBase (.Name x p) nm X.env (eval (.Name x p) X.env) = eval (.Name x p) X.env) : SE (X.suite A0 ((A0, oe) :: pn)) D W (some (some i, A0, cls, d)) (.Attribute (.Name x p) nm pos) (.curF f) t := by
  subst hn
  obtain ⟨o1, o2, _⟩ := okName_ok ok
  refine pt_fin (PE.some fun τ H Q ⟨F, μ, σ, h, c, rs, S, hcu, w⟩ => ?_) hk.K (fun Γ c σ h => ⟨_, fun t => rfl⟩) (fun _ => rfl) (by intros; intro z; cases z) rfl
  simp only [evE, bnd_fin] at w
  match c, hcu with
  | none, hcu => exact hcu.elim
  | some (C, d0), hcu =>
    obtain ⟨rfl, ⟨d', rfl, ed⟩, hsl⟩ := hcu
    unfold curV at w
    simp only at w
    split at w
    · rename_i g v ho
      split at w
      · rename_i hg
        obtain ⟨rfl, he⟩ := hg
        obtain ⟨hM, ec, no⟩ := T.exf C f he
        obtain ⟨_, v', rv, oa⟩ := S.obj _ _ _ ho ed
        refine ⟨_, pe_xf (ExcC.xf ec) no hz hf (pe_var hN hv o1 o2) hb, ?_⟩
        exact ⟨.ref A0, hsl i rfl, rfl, rfl, d', _, v', rfl, oa, (by show List.lookup (D.G.fld f) [(D.G.fld f, v')] = some v'; simp [List.lookup]), w.val S rv⟩
      · exact w.elim
    · exact w.elim
/-- isinstance(e, C) of that exception -/
def rIsX (K : PySem.W.Frag) (C0 a dd : Addr) : List V → Hp → VK → Prop := fun xs H Q => ∃ (c : V) (cv : Value) (k : Bool), xs = [.ref a, c] ∧ (∀ u, RelV c u → u = cv) ∧ PySem.W.kitOne K (.ref C0) cv = some k ∧ (∃ fs, H dd = some (.xd fs)) ∧ Q (.bl k) H
theorem call_isX {X : Cx} {a C0 dd : Addr} {oe : Obj} {pn : List (Addr × Obj)} (C : ExcC X.K C0) (hz : Zc (.ref C0) (some dd) oe) (hf : ∃ vs, oe.data = .fields vs) : CallR (X.suite a ((a, oe) :: pn)) (.builtin "isinstance") (rIsX X.K C0 a dd) := by
  intro pins s σ H xs us Q I r z
  obtain ⟨c, cv, k, rfl, hcv, e, ⟨fs, hd⟩, q⟩ := z
  obtain ⟨u1, u2, rfl, r1, r2⟩ := vals2 r
  cases r1
  have ec := hcv _ r2
  subst ec
  obtain ⟨hget, _⟩ := I.pin (a, oe) (List.mem_append.mpr (.inl List.mem_cons_self))
  obtain ⟨vs, hv⟩ := hf
  obtain ⟨mA, hns, hr⟩ := (show ObjOk X.prog X.w H s.heap dd (.xd fs) from I.hok dd _ hd)
  obtain ⟨od, ho, hl⟩ := lookIn_ns hns
  have J : PySem.W.InstAt s.heap a oe C0 (some od) := ⟨hget, hz.1, by unfold PySem.W.notCls; rw [hv] <;> rfl, by rw [hz.2]; exact ho⟩
  exact PySem.W.kia_one (PySem.W.mp_kit C) I.kIn ⟨od, J⟩ e (fun z => nomatch z) fun tk => ⟨.bl k, H, I.kept (t' := tk) fun _ _ z => z, rfl, q⟩
theorem se_curIs {x y nm : Str} {A0 : Addr} {oe : Obj} {cls : Value} {d : Option Addr} {pn : List (Addr × Obj)} {i : Nat} {cV : V} {cv : Value} {fn : Gam → Nat → Bool} {p3 : Pos} {mm : ME} {t : Bool} (hk : EX X D) (T : XFacts X.K D) (hz : Zc cls d oe) (hf : ∃ vs, oe.data = .fields vs) (hN : X.N[i]? = some x) (hv : Vis X.env.scope x) (ok : okName x = true)
    (hx : nm = "isinstance") (hg : Gl X nm) (hm : X.mg nm = none) (hev : ∀ Γ c t σ h, evE Γ c t mm σ h = curIV Γ c (fn Γ) h) (hcl : PE (X.suite A0 ((A0, oe) :: pn)) (.Name y p2) (tC cV)) (hcv : ∀ u, RelV cV u → u = cv)
    (hkit : ∀ C f, D.Γ.exf C = some f → PySem.W.kitOne X.K (.ref (D.G.cls C)) cv = some (fn D.Γ C)) :
    SE (X.suite A0 ((A0, oe) :: pn)) D W (some (some i, A0, cls, d)) (.Call (.Name nm p) [.Name x p3, .Name y p2] [] pos) mm t := by
  subst hx
  obtain ⟨o1, o2, _⟩ := okName_ok ok
  refine pt_fin (PE.some fun τ H Q ⟨F, μ, σ, h, c, rs, S, hcu, w⟩ => ?_) hk.K (fun Γ c σ h => ⟨curIV Γ c (fn Γ) h, fun t => ?_⟩) (fun _ => rfl) (by intros; intro z; cases z) rfl
  · rw [hev] at w
    match c, hcu with
    | none, hcu => exact hcu.elim
    | some (C, d0), hcu =>
      obtain ⟨rfl, ⟨d', rfl, ed⟩, hsl⟩ := hcu
      unfold curIV at w
      simp only at w
      split at w
      · rename_i g v ho
        split at w
        · rename_i hs
          obtain ⟨f, ef⟩ := Option.isSome_iff_exists.mp hs
          obtain ⟨hM, ec, no⟩ := T.exf C f ef
          obtain ⟨_, v', rv, oa⟩ := S.obj _ _ _ ho ed
          refine ⟨_, pe_callB (call_isX ec hz hf) hg hm (by decide +kernel) (pa_cons (pe_var (X := X.suite A0 ((A0, oe) :: pn)) hN hv o1 o2) (pa_cons hcl pa_nil (star_of rfl)) (star_of rfl)) (by decide) (by decide) (star_of rfl) (by rw [star_of (e := Expr.Name y p2) rfl]; rfl), ?_⟩
          exact ⟨.ref A0, hsl i rfl, cV, cv, _, rfl, hcv, hkit C f ef, ⟨_, oa⟩, w.val S rfl⟩
        · exact w.elim
      · exact w.elim
  · rw [hev]
    cases t with
    | false => rw [bnd_fin]
    | true =>
      unfold curIV
      repeat' split
      all_goals rfl
end
end MP
end
section
set_option Elab.async false
set_option linter.all false
set_option maxRecDepth 100000
set_option maxHeartbeats 2000000
/-! an own exception class is called, by place or by keyword, whatever built-in class it stands on -/
namespace PySem
namespace MPX
open PySem.W PySem.Calls PyProof.Rows PySem.HandSPX Builtin
/-- the built-in class whose __new__ makes it -/
structure XB (B newId : String) (bm : List Value) : Prop where
  F : ∃ initId bmB, ExcBaseFacts B newId initId bmB
  isB : bm.contains (.type B) = true
  noA : bm.contains (.type "AttributeError") = false
  noN : bm.contains (.type "NameError") = false
section
variable {M : Model} {A : Around} {E : Value → Shared → Prop} {h : Heap} {g : Array GenState} {d : Drawn} {t : Nat} {os : OsState}
variable {nm q : Str} {C N : Addr} {bs bm : List Value} {hdct : Bool} {sn : List Str} {sub : List Value} {ab : Bool} {col : Option Bool} {dd : Option Addr} {k0 k1 k2 k3 k5 : Option Value} {B newId : String}
theorem xnew_check (Z : XB B newId bm) {vs : List Value} {kw : List (Str × Value)} {Q : Unit → Shared → Prop} (hC : h.get? C = some (excClassObj nm q C N bs bm hdct sn sub ab col dd k0 k1 k2 k3 k5 newId)) (hq : Q () ⟨h, g, d, t, os⟩) :
    wpAny M A (checkBuiltinCall newId ⟨.ref C :: vs, kw⟩) Q E ⟨h, g, d, t, os⟩ := by
  obtain ⟨initId, bmB, F⟩ := Z.F
  have below : (Value.ref C :: bm).contains (.type B) = true := by rw [List.contains_cons, Z.isB, Bool.or_true]
  have nostar := F.noStar
  simp only [checkBuiltinCall, F.newKind, F.newSplit, F.newRow]
  repeat (first
    | refine wpAny_loadPart_at hC ?_
    | (refine wpAny_isSubtype_exc hC ?_; rw [below])
    | refine wpAny_staticBase_exc hC ?_
    | refine wpAny_madeBy_exc hC ?_
    | simp only [bne_self_eq_false, Bool.false_eq_true, if_false]
    | wp_step)
  exact hq
theorem xtype_check {vs : List Value} {kw : List (Str × Value)} {Q : Unit → Shared → Prop} (hC : h.get? C = some (excClassObj nm q C N bs bm hdct sn sub ab col dd k0 k1 k2 k3 k5 newId)) (hq : Q () ⟨h, g, d, t, os⟩) :
    wpAny M A (checkBuiltinCall "type.__call__" ⟨.ref C :: vs, kw⟩) Q E ⟨h, g, d, t, os⟩ := by
  have st := tc_sub
  have isT : (⟨h, g, d, t, os⟩ : Shared).TypeIs (.ref C) "type" := ⟨_, hC, rfl⟩
  simp only [checkBuiltinCall, tc_kind, tc_split]
  repeat (any_goals (first
    | assumption
    | with_reducible refine wpAny_loadPart_at hC ?_
    | with_reducible refine wpAny_onRaise ?_
    | with_reducible refine wpAny_map ?_
    | wp_step))
end
section
variable {prog : Program} {w : World} {A : Around} {E : Value → Shared → Prop} {R : Result → Shared → Prop} {h : Heap} {g : Array GenState} {d : Drawn} {t : Nat} {os : OsState}
variable {nm q : Str} {C N : Addr} {bs bm : List Value} {hdct : Bool} {sn : List Str} {sub : List Value} {ab : Bool} {col : Option Bool} {dd : Option Addr} {k0 k1 k2 k3 k5 : Option Value} {B newId : String}
theorem xnew_run (Z : XB B newId bm) {vs : List Value} {kw : List (Str × Value)} (hC : h.get? C = some (excClassObj nm q C N bs bm hdct sn sub ab col dd k0 k1 k2 k3 k5 newId))
    (hq : R (.ok (.ret (.ref (h.objs.size + 1)))) ⟨(h.push (kdv_tup vs)).push (excO C h.objs.size), g, d, t, os⟩) (few : vs.length ≤ sizeLine) : codeAny (model prog w) A (.builtin newId ⟨.ref C :: vs, kw⟩) R ⟨h, g, d, t, os⟩ := by
  obtain ⟨initId, bmB, F⟩ := Z.F
  have ends := F.ends
  have b1 : (Value.ref C :: bm).contains (.type B) = true := by rw [List.contains_cons, Z.isB, Bool.or_true]
  have b2 : (Value.ref C :: bm).contains (.type "AttributeError") = false := by rw [List.contains_cons, Z.noA]; rfl
  have b3 : (Value.ref C :: bm).contains (.type "NameError") = false := by rw [List.contains_cons, Z.noN]; rfl
  refine codeAny_builtinAt F.entry ?_
  unfold Builtin.«BaseException.__new__»
  refine wpAt_bind (m := stack) (wpAt_stack fun p under => wpAt_of_wpAny ?_)
  wp_walk
  rw [F.owner]
  repeat (first
    | with_reducible refine wpAny_madeHere_exc F.canon hC ?_
    | with_reducible refine wpAny_loadPart_at hC ?_
    | (with_reducible refine wpAny_isSubtype_exc hC ?_; first | rw [b1] | rw [b2] | rw [b3])
    | wp_step)
  show R _ _
  rw [Heap.size_push]
  exact hq
theorem xtype_run (Z : XB B newId bm) {vs : List Value} {kw : List (Str × Value)} {fI : Addr} {Q : Fin → Shared → Prop} (hC : h.get? C = some (excClassObj nm q C N bs bm hdct sn sub ab col dd k0 k1 k2 k3 k5 newId))
    (hi : W.Looks (model prog w) h (typeLookup (.ref C) "__init__") (some (.ref fI))) (hb : ∀ self, W.Looks (model prog w) h (bindSpecial (.ref fI) self) (.ref fI, [self])) (few : vs.length ≤ sizeLine)
    (hq : codeAny (model prog w) A (.call (.ref fI) ⟨.ref (h.objs.size + 1) :: vs, kw⟩)
      (fun r s' => match r with | .ok (.ret v) => v = .none ∧ Q (.done (.ret (.ref (h.objs.size + 1)))) s' | .ok _ => False | .error e => E e s') ⟨(h.push (kdv_tup vs)).push (excO C h.objs.size), g, d, t, os⟩) :
    wpAny (model prog w) A (Builtin.«type.__call__» ⟨.ref C :: vs, kw⟩) Q E ⟨h, g, d, t, os⟩ := by
  obtain ⟨initId, bmB, F⟩ := Z.F
  repeat (first | with_reducible refine wpAny_loadPart_at hC ?_ | with_reducible refine wpAny_madeBy_exc hC ?_ | wp_step)
  refine codeAny_call_builtin_code (Code.quiet_builtin _ F.quiet) (xnew_check Z hC ?_)
  refine xnew_run Z hC ?_ few
  show wpAny _ _ _ _ _ _
  have old : ∀ b o, h.get? b = some o → ((h.push (kdv_tup vs)).push (excO C h.objs.size)).get? b = some o := fun b o e => Heap.get?_push_of_some _ (Heap.get?_push_of_some _ e)
  have hC2 := old _ _ hC
  have here : ((h.push (kdv_tup vs)).push (excO C h.objs.size)).get? (h.objs.size + 1) = some (excO C h.objs.size) := by heap_get
  have selfIn : (Value.ref C :: bm).contains (.ref C) = true := by simp
  have i2 := hi.keeps old
  have b2 := (hb (.ref (h.objs.size + 1))).keeps old
  unfold isInstance
  repeat (first | with_reducible refine wpAny_loadPart_at here ?_ | (with_reducible refine wpAny_isSubtype_exc hC2 ?_; rw [selfIn]) | wp_step)
  show wpAny _ _ (typeLookup (.ref C) _) _ _ _
  refine i2.at (wpAny_holding (wpAny_bind (b2.at (wpAny_bind (wpAny_call (codeAny_mono hq fun r s' z => ?_))))))
  rcases r with e | (v | _ | _ | _) <;> first | exact z | exact z.elim | skip
  obtain ⟨rfl, z⟩ := z
  first
    | exact wpAny_pure (wpAny_pure z)
    | (wp_walk; exact z)
theorem xcall (Z : XB B newId bm) {vs : List Value} {kw : List (Str × Value)} {fI : Addr} (hC : h.get? C = some (excClassObj nm q C N bs bm hdct sn sub ab col dd k0 k1 k2 k3 k5 newId))
    (hi : W.Looks (model prog w) h (typeLookup (.ref C) "__init__") (some (.ref fI))) (hb : ∀ self, W.Looks (model prog w) h (bindSpecial (.ref fI) self) (.ref fI, [self])) (few : vs.length ≤ sizeLine)
    (hq : codeAny (model prog w) (A.under (.builtin "type.__call__" ⟨.ref C :: vs, kw⟩)) (.call (.ref fI) ⟨.ref (h.objs.size + 1) :: vs, kw⟩) (W.InitBack (h.objs.size + 1) R) ⟨(h.push (kdv_tup vs)).push (excO C h.objs.size), g, d, t, os⟩) :
    codeAny (model prog w) A (.call (.ref C) ⟨vs, kw⟩) R ⟨h, g, d, t, os⟩ := by
  have l1 := tc_lookup
  have l2 := tc_bind (.ref C)
  have isT : (⟨h, g, d, t, os⟩ : Shared).TypeIs (.ref C) "type" := ⟨_, hC, rfl⟩
  refine codeAny_of_tree ?_
  show wpAny _ _ (callAny (.ref C) _) _ _ _
  repeat (any_goals (first | assumption | with_reducible refine wpAny_loadPart_at hC ?_ | wp_step))
  refine ⟨rfl, ?_⟩
  refine codeAny_call_builtin_at (Code.quiet_builtin _ (by decide +kernel)) entry_typeCall (xtype_check hC (xtype_run Z hC hi hb few ?_))
  exact codeAny_mono hq fun r s' z => by rcases r with e | (v | _ | _ | _) <;> exact z
end
end MPX
end PySem
end
section
set_option Elab.async false
set_option linter.all false
set_option maxRecDepth 100000
set_option maxHeartbeats 2000000
/-! own exceptions whose __init__ keeps its one argument in a field of the same name -/
namespace PySem
namespace MPX
open PySem.W PySem.Calls PyProof.Rows PySem.HandSPX Builtin Builtin.ObjectAttr
/-- the fields' names -/
def fNs : List Str := ["value", "place", "limit", "name", "identity", "word"]
def vA (fN : Str) (p1 p2 : Pos) : Arguments := { posonlyargs := [], args := [{ arg := "self", annotation := none, pos := p1 }, { arg := fN, annotation := none, pos := p2 }], vararg := none, kwonlyargs := [], kw_defaults := [], kwarg := none, defaults := [] }
def vB (fN : Str) (q1 q2 q3 q4 : Pos) : List Stmt := [.Assign [.Attribute (.Name "self" q1) fN q2] (.Name fN q3) q4]
def vS (fN : Str) : Scope := { kind := .function, names := [(PySem.Str.ofString "self", .local), (fN, .local)], isGenerator := false, isCoroutine := false, more := [] }
/-- own classes, then a built-in one's mro -/
def refsT (tl : List Value) : List Value → Bool
  | .ref _ :: r => refsT tl r
  | l => l == tl
theorem refsT_pass {tl : List Value} (hp : ∀ self, refuseLoop self "__setattr__" tl = pure ()) (self : Value) : ∀ l : List Value, refsT tl l = true → refuseLoop self "__setattr__" l = pure ()
  | [], e => by rw [show ([] : List Value) = tl from beq_iff_eq.mp e]; exact hp self
  | v :: r, e => by
    cases v with
    | ref c => rw [refuseLoop_ref]; exact refsT_pass hp self r e
    | _ => rw [beq_iff_eq.mp e]; exact hp self
theorem refsT_has {tl : List Value} (T : String) : ∀ l : List Value, refsT tl l = true → l.contains (.type T) = tl.contains (.type T)
  | [], e => by rw [show ([] : List Value) = tl from beq_iff_eq.mp e]
  | v :: r, e => by
    cases v with
    | ref c => rw [List.contains_cons, refsT_has T r e]; rfl
    | _ => rw [beq_iff_eq.mp e]
/-- what the written part says of the class, at C, and of its __init__, at fI -/
structure XT (Kf : Frag) (qual fN : Str) (C fI : Addr) : Prop where
  fOk : fN ∈ fNs
  cls : ∃ B newId nm q N bs bm sn sub ab col dd k0 k1 k2 k3 k5, XB B newId bm ∧ Kf.lookup C = some (excClassObj nm q C N bs bm true sn sub ab col dd k0 k1 k2 k3 k5 newId) ∧
    bm.contains (.type "object") = true ∧ ∀ self, refuseLoop self "__setattr__" bm = pure ()
  sa : findIn Kf (.ref C) "__setattr__" = some (some (.builtin "object.__setattr__"))
  no : findIn Kf (.ref C) fN = some none
  ini : findIn Kf (.ref C) "__init__" = some (some (.ref fI))
  tyI : typeIn Kf (.ref fI) = some (.type "function")
  kp : keepIn Kf (.ref C) = true
  exB : subIn Kf (.ref C) (.type "BaseException") = some true
  tyC : typeIn Kf (.ref C) = some (.type "type")
  fn : ∃ (oc : Value) (od : Option Addr) (doc pm : Value) (an : Option Addr) (cdv ct : Value) (osl : Array (Option Value)) (p1 p2 q1 q2 q3 q4 : Pos),
    Kf.lookup fI = some ⟨oc, od, .func (fnOf "__init__" qual (vA fN p1 p2) (vB fN q1 q2 q3 q4) (vS fN) .none .none doc pm an cdv ct), osl⟩ ∧ codeIn Kf cdv qual = true
section
variable {prog : Program} {w : World} {A : Around} {E : Value → Shared → Prop} {R : Result → Shared → Prop} {hp : Heap} {g : Array GenState} {d : Drawn} {t : Nat} {os : OsState}
/-- the store of the first field -/
theorem xosa {Kf : Frag} {name : Str} {tk : Tok} {v : Value} {x C : Addr} {fv : Array Value} {cd : ClassData}
    (Xi : Kf.In hp) (hx : hp.get? x = some { cls := .ref C, data := .fields fv }) (hcd : W.clsIn Kf C = some cd) (ne : cd.mro.isEmpty = false) (hob : cd.mro.contains (.type "object") = true) (pass : ∀ self, refuseLoop self "__setattr__" cd.mro = pure ()) (hh : cd.hasDict = true) (ha : W.findIn Kf (.ref C) name = some none)
    (hq : ∀ h' tk' dx, (∀ b o, b ≠ x → hp.get? b = some o → h'.get? b = some o) → hp.objs.size ≤ dx → dx ≠ x → h'.get? x = some { cls := .ref C, dict := some dx, data := .fields fv } →
      h'.Ns1 dx (fun y => if y = name then some v else none) → R (.ok (.ret .none)) ⟨h', g, d, tk', os⟩) : codeAny (model prog w) A (.call (.builtin "object.__setattr__") ⟨[.ref x, .str name tk, v], []⟩) R ⟨hp, g, d, t, os⟩ := by
  have J : W.InstAt hp x { cls := .ref C, data := .fields fv } C none := ⟨hx, rfl, rfl, trivial⟩
  have SO := F.store_object
  have apart : x ≠ hp.objs.size := Nat.ne_of_lt (Heap.lt_size hx)
  have isO : W.Looks (model prog w) hp (isInstance (.ref x) (.type "object")) true := J.type.andThen (W.looks_mroIn Xi (by unfold W.mroIn; rw [hcd, Option.bind_some, if_neg (by rw [ne]; decide), hob]))
  refine codeAny_call_builtin SO.slot.plain SO.entry (@W.check_slot (model prog w) _ _ (Shared.mk hp g d t os) "object.__setattr__" "object" "__setattr__" (Value.ref x) [.str name tk, v] [] _ SO.kind SO.split isO (SO.args (Value.ref x) (.str name tk) v) ?_)
  have G1 : W.Looks (model prog w) hp (mroOf (.ref C)) cd.mro := (W.looks_clsIn Xi hcd).andThen .now
  have G2 : W.Looks (model prog w) hp (storeTaker? none) none := .now
  have G3 : W.Looks (model prog w) hp (classData C) cd := W.looks_clsIn Xi hcd
  rw [W.osa_eq, refuse_eq]; refine wpAny_bind (wpAny_bind (J.type.at (wpAny_bind (G1.at ?_))))
  rw [pass]; refine wpAny_pure (wpAny_bind (J.type.at (wpAny_bind ((W.looks_findIn Xi ha).at (wpAny_bind (G2.at ?_))))))
  show wpAny _ _ (storeInOwnDict (Value.ref x) (Value.ref C) (.str name tk) name v false) _ _ _
  obtain ⟨nm, bs, mro, ns, qn, hdc, sn, sb, ab, col, del⟩ := cd
  dsimp only at hh; subst hh
  unfold storeInOwnDict ownDictForStores; repeat (first | with_reducible refine store_in_new ?_ ?_ | with_reducible refine wpAny_loadPart_at hx ?_ | with_reducible refine G3.at ?_ | wp_step)
  · exact ⟨_, #[], _, (Heap.get?_update_ne _ _ _ _ apart.symm).trans (Heap.get?_push_at rfl rfl), rfl, fun e he => absurd he (by simp), fun _ => rfl⟩
  · intro h' tk' hn' hs
    have x1 : (hp.push { cls := .type "dict", data := .dict #[] }).get? x = some { cls := .ref C, data := .fields fv } := Heap.get?_push_of_some _ hx
    refine hq h' tk' hp.objs.size (fun b o hb ho => ?_) (Nat.le_refl _) apart.symm ?_ hn'
    · exact (hs.2 b (Nat.ne_of_lt (Heap.lt_size ho))).trans ((Heap.get?_update_ne _ _ _ _ hb).trans (Heap.get?_push_of_some _ ho))
    · exact (hs.2 x apart).trans (Heap.get?_update_self _ x1 rfl)
end
theorem oneFits (v : Value) : [v].length ≤ sizeLine := by rw [sizeLine_eq]; exact (by decide : 1 ≤ 16777216)
theorem ldL {M : Model} {s : Shared} {name : Str} {scope : Scope} {L a : Addr} {cd : Value} {m : Str → Option Value} {x : Str} {pos : Pos} {v : Value} {Q : Value → Shared → Prop} {A : Around} {E : Value → Shared → Prop} (hn : s.heap.Ns L m) (hv : m x = some v) (h : Q v s)
    (hk : scope.kind = .function := by rfl) (hl : (envOfC name scope L a cd).kindOf x = some .local := by rfl) (hd : (x == ("__debug__" : Str)) = false := by decide) : wpAny M A (eval (.Name x pos) (envOfC name scope L a cd)) Q E s := wpAny_Name (wpAny_loadName_local hk hl hn hv h) hd
/-- what __init__ leaves of a fresh one -/
structure IEnd (fN : Str) (h h' : Heap) (x C dx t1 : Addr) (v : Value) : Prop where
  keep : ∀ b o, b ≠ x → h.get? b = some o → h'.get? b = some o
  obj : h'.get? x = some { cls := .ref C, dict := some dx, data := .fields #[.ref t1, .none, .none, .none, .bool false, .none] }
  big : h.objs.size ≤ dx
  ne : dx ≠ x
  ns : h'.Ns1 dx (fun y => if y = fN then some v else none)
/-- a made one -/
structure Made (fN : Str) (h h' : Heap) (e C d : Addr) (v : Value) : Prop where
  keep : ∀ b o, h.get? b = some o → h'.get? b = some o
  new : h.objs.size ≤ e
  obj : ∃ oe vs, h'.get? e = some oe ∧ oe.cls = .ref C ∧ oe.dict = some d ∧ oe.data = .fields vs ∧ vs[1]? = some .none
  big : h.objs.size ≤ d
  ne : d ≠ e
  ns : h'.Ns1 d (fun y => if y = fN then some v else none)
section
variable {prog : Program} {w : World} {A : Around} {E : Value → Shared → Prop} {R : Result → Shared → Prop} {s : Shared} {Kf : Frag} {qual fN : Str} {C fI : Addr}
theorem x_init (T : XT Kf qual fN C fI) {x t0 : Addr} {v : Value} (Xi : Kf.In s.heap) (lim : s.heap.NoLimit) (hx : s.heap.get? x = some (excO C t0)) (hroom : A.depth < recursionLimit) {as : Args} (has : as = ⟨[.ref x, v], []⟩ ∨ as = ⟨[.ref x], [(fN, v)]⟩)
    (hq : ∀ h' tk dx, IEnd fN s.heap h' x C dx t0 v → R (.ok (.ret .none)) { s with heap := h', toks := tk }) : codeAny (model prog w) A (.call (.ref fI) as) R s := by
  have fk := T.fOk
  simp only [fNs, List.mem_cons, List.not_mem_nil, or_false] at fk
  rcases fk with rfl | rfl | rfl | rfl | rfl | rfl <;> rcases has with rfl | rfl <;> (
    obtain ⟨oc, od, doc, pm, an, cdv, ct, osl, p1, p2, q1, q2, q3, q4, ho, hcd⟩ := T.fn
    obtain ⟨B, newId, nm, q, N, bs, bm, sn, sub, ab, col, dd, k0, k1, k2, k3, k5, Z, hC, hO, pass⟩ := T.cls
    have cl : clsIn Kf C = some { name := nm, bases := bs, mro := .ref C :: bm, ns := N, qualname := q, hasDict := true, slotNames := sn, subclasses := sub, abstract := ab, collection := col, hasDel := false } := by unfold clsIn; rw [hC] <;> rfl
    refine Att.call_fn (binds := [("self", .ref x), (_, v)]) Xi lim ho hcd hroom (BindsTo.of_eq (by first | rfl | with_unfolding_all rfl)) (by first | rfl | decide | with_unfolding_all rfl) (fun s1 IC => ?_) rfl rfl rfl
    obtain ⟨h1, tk1, rfl⟩ := IC.toInCall.same
    have k : ∀ b o, s.heap.get? b = some o → h1.get? b = some o := IC.toInCall.keep
    have hn := IC.toInCall.ns
    have hxL : s.heap.objs.size ≠ x := Nat.ne_of_gt (Heap.lt_size hx)
    have X1 : Kf.In h1 := Xi.keeps k
    have hx1 := k _ _ hx
    show wpAny _ _ (execs _ _) _ _ _; refine wpAny_execs_cons (plainObj_wpAny_Assign_Attribute ?_)
    refine ldL (v := v) hn (by first | rfl | with_unfolding_all rfl | kernel_rfl) (ldL (v := .ref x) hn (by first | rfl | with_unfolding_all rfl | kernel_rfl) ?_)
    refine set_plain X1 (ox := excO C t0) (od := none) ⟨hx1, rfl, rfl, trivial⟩ T.sa ?_
    refine xosa X1 hx1 cl rfl (by show (Value.ref C :: bm).contains _ = true; rw [List.contains_cons, hO, Bool.or_true]) (fun self => by show refuseLoop self _ (Value.ref C :: bm) = _; rw [refuseLoop_ref]; exact pass self) rfl T.no (fun h3 tk3 dx k3 dn dne hx3 hn3 => ?_)
    show wpAny _ _ (execs _ _) _ _ _
    have z : s.heap.objs.size < h1.objs.size := hn.lt
    exact wpAny_execs_nil (hq h3 tk3 dx ⟨fun b o hb e => k3 b o hb (k b o e), hx3, Nat.le_of_lt (Nat.lt_of_lt_of_le z dn), dne, hn3⟩)
  )
theorem x_made (T : XT Kf qual fN C fI) {v : Value} (Xi : Kf.In s.heap) (lim : s.heap.NoLimit) (hroom : A.depth + 1 < recursionLimit) {as : Args} (has : as = ⟨[v], []⟩ ∨ as = ⟨[], [(fN, v)]⟩)
    (hq : ∀ h' tk e d, Made fN s.heap h' e C d v → R (.ok (.ret (.ref e))) { s with heap := h', toks := tk }) : codeAny (model prog w) A (.call (.ref C) as) R s := by
  obtain ⟨B, newId, nm, q, N, bs, bm, sn, sub, ab, col, dd, k0, k1, k2, k3, k5, Z, hC, hO, pass⟩ := T.cls
  obtain ⟨hp, g, dr, tk, os⟩ := s
  rcases has with rfl | rfl
  · have k : ∀ b o, hp.get? b = some o → ((hp.push (kdv_tup [v])).push (excO C hp.objs.size)).get? b = some o := fun b o e => Heap.get?_push_of_some _ (Heap.get?_push_of_some _ e)
    have hget : ((hp.push (kdv_tup [v])).push (excO C hp.objs.size)).get? (hp.objs.size + 1) = some (excO C hp.objs.size) := by heap_get
    refine xcall Z (vs := [v]) (kw := []) (Xi _ _ hC) (looks_findIn Xi T.ini) (fun self => bind_fn Xi self T.tyI) (oneFits v) ?_
    refine x_init (s := ⟨(hp.push (kdv_tup [v])).push (excO C hp.objs.size), g, dr, tk, os⟩) T (Xi.keeps k) (lim.keeps k) hget ?_ (.inl rfl) fun h' tk' dx ⟨k', hx, dn, dne, hns⟩ => ?_
    · show A.depth + 1 < recursionLimit; exact hroom
    · have old : ∀ b o, hp.get? b = some o → h'.get? b = some o := fun b o e => k' b o (Nat.ne_of_lt (Nat.lt_succ_of_lt (Heap.lt_size e))) (k b o e)
      have z : hp.objs.size + 1 + 1 ≤ dx := by
        first
          | (simpa only [Heap.size_push] using dn)
          | exact dn
          | (have q := dn; rw [Heap.size_push, Heap.size_push] at q; exact q)
      exact ⟨rfl, hq h' tk' (hp.objs.size + 1) dx ⟨old, Nat.le_succ _, ⟨_, _, hx, rfl, rfl, rfl, rfl⟩, Nat.le_trans (Nat.le_trans (Nat.le_succ _) (Nat.le_succ _)) z, dne, hns⟩⟩
  · have k : ∀ b o, hp.get? b = some o → ((hp.push (kdv_tup [])).push (excO C hp.objs.size)).get? b = some o := fun b o e => Heap.get?_push_of_some _ (Heap.get?_push_of_some _ e)
    have hget : ((hp.push (kdv_tup [])).push (excO C hp.objs.size)).get? (hp.objs.size + 1) = some (excO C hp.objs.size) := by heap_get
    refine xcall Z (vs := []) (kw := [(fN, v)]) (Xi _ _ hC) (looks_findIn Xi T.ini) (fun self => bind_fn Xi self T.tyI) (Nat.zero_le _) ?_
    refine x_init (s := ⟨(hp.push (kdv_tup [])).push (excO C hp.objs.size), g, dr, tk, os⟩) T (Xi.keeps k) (lim.keeps k) hget ?_ (.inr rfl) fun h' tk' dx ⟨k', hx, dn, dne, hns⟩ => ?_
    · show A.depth + 1 < recursionLimit; exact hroom
    · have old : ∀ b o, hp.get? b = some o → h'.get? b = some o := fun b o e => k' b o (Nat.ne_of_lt (Nat.lt_succ_of_lt (Heap.lt_size e))) (k b o e)
      have z : hp.objs.size + 1 + 1 ≤ dx := by
        first
          | (simpa only [Heap.size_push] using dn)
          | exact dn
          | (have q := dn; rw [Heap.size_push, Heap.size_push] at q; exact q)
      exact ⟨rfl, hq h' tk' (hp.objs.size + 1) dx ⟨old, Nat.le_succ _, ⟨_, _, hx, rfl, rfl, rfl, rfl⟩, Nat.le_trans (Nat.le_trans (Nat.le_succ _) (Nat.le_succ _)) z, dne, hns⟩⟩
end
end MPX
end PySem
namespace MP
open PySem L2 PySem.MPX
theorem relO_v {fN : Str} {v : V} {v' : Value} (r : RelV v v') (f : Str) : RelO (List.lookup f [(fN, v)]) (if f = fN then some v' else none) := by
  by_cases hw : f = fN
  · subst hw
    rw [if_pos rfl, show List.lookup f [(f, v)] = some v from by simp [List.lookup]]
    exact r
  · rw [if_neg hw, show List.lookup f [(fN, v)] = none from by simp [List.lookup, show (f == fN) = false from by simpa using hw]]
    trivial
section
variable {X : Cx} {D : Dat} {N : Nat} {W : WX} {R : CurR} {a : Expr} {ma : ME} {pos p pos2 : Pos}
/-- raise C(e) -/
theorem ss_raise {k C f : Nat} {fI : Addr} {x qual fN : Str} (E : EX X D) (hr : Room (2 * k + 1) X.A) (tk : Takes X W) (hc : X.calm = true) (T : XT X.K qual fN (D.G.cls C) fI) (hM : f < D.G.M) (hf : D.G.fld f = fN) (he : D.Γ.exf C = some f) (hd : (x == ("__debug__" : Str)) = false) (hg : Gl X x) (hm : X.mg x = some (.ref (D.G.cls C))) (ha : SE X D W R a ma false) :
    PS X (.Raise (some (.Call (.Name x p) [a] [] pos)) none pos2) (tS D N W R (.rais C ma)) := by
  have mk : PMk X (.Call (.Name x p) [a] [] pos) (fun τ H Q => tE D W R ma τ H fun v H1 => ∀ d, H1 d = none → Q (.ref (D.G.cls C)) (some d) (upd H1 d (.xd [(fN, v)]))) := by
    intro pins s τ H Q I z
    refine wpAny_Call_Name_kw (ld_glob I hg hm ?_ hd)
    refine PySem.W.callWith_K (h₀ := X.base) I.ok.mod.kin T.kp (PyProof.Rows.args_cons (thn (ha.pe.run pins s τ H _ I z) fun u s1 hh => PyProof.Rows.args_nil ?_) (star_of ha.ns)) (star_of ha.ns) rfl
    obtain ⟨v, H1, I1, rv, q1⟩ := hh
    refine ⟨I1.kIn, ?_⟩
    show wpAny _ _ (call (.ref (D.G.cls C)) [u]) _ _ _
    have lim := I1.nolimit
    obtain ⟨hp, g, dr, t0, os⟩ := s1
    refine wpAny_call (x_made T I1.kIn lim (by have := hr.dp; omega) (.inl rfl) fun h' tk' e d M => ?_)
    show MkP X pins τ Q (.ref e) ⟨h', g, dr, tk', os⟩
    obtain ⟨oe, fv, hoe, hcl, hdi, hdat, hn1⟩ := M.obj
    have hns := M.ns
    obtain ⟨G', g1, g2⟩ := restrict h' fun b => decide (b ≠ e)
    have gk : ∀ b, b ≠ e → G'.get? b = h'.get? b := fun b hb => g1 b (decide_eq_true hb)
    have ge : G'.get? e = none := g2 e (by simp)
    have old : ∀ b o, hp.get? b = some o → G'.get? b = some o := fun b o q => (gk b (Nat.ne_of_lt (Nat.lt_of_lt_of_le (Heap.lt_size q) M.new))).trans (M.keep b o q)
    have ob : ObjOk X.prog X.w (upd H1 d (.xd [(fN, v)])) G' d (.xd [(fN, v)]) := ⟨_, hns.at (fun o q => (gk d M.ne).trans q), fun f => relO_v rv f⟩
    have J : Inv X pins τ (upd H1 d (.xd [(fN, v)])) ⟨G', g, dr, tk', os⟩ := I1.laid (t' := tk') old M.big ob
    refine ⟨e, oe, fv, ⟨G', g, dr, tk', os⟩, _, .ref (D.G.cls C), some d, rfl, J, fun b o q => ?_, ge, hoe, ⟨hcl, hdi⟩, hdat, hn1, ?_, rfl, I1.bare, raises_own T.exB T.tyC, q1 d (I1.hok.fresh M.big)⟩
    · by_cases hb : b = e
      · have q' : G'.get? b = some o := q
        rw [hb, ge] at q'; cases q'
      · exact (gk b hb).symm.trans q
    · rw [upd_ne (Ne.symm M.ne)]
      exact I1.hok.fresh M.new
  refine (ps_raise hc tk mk).imp fun Dn τ H ⟨F, μ, σ, h, c, rs, S, hcu, w⟩ => ?_
  simp only [evS] at w
  refine ⟨F, μ, σ, h, c, rs, S, hcu, WP.imp (WPS.bE (rel := RV) w rs) fun v' H1 ⟨μ1, v, h1, p1, S1, rv, w1⟩ => fun d hd => ?_⟩
  unfold raisV at w1
  rw [he] at w1
  have w1 : WPS (D.G.wf F) W R c Dn μ1 (some (.ex C h1.length σ (h1 ++ [.xd f v]))) := w1
  refine w1 (μ1 ++ [d]) τ _ d len_pre ((rs.mono p1).mono len_pre) (S1.alloc hd ⟨hM, v', rv.mono len_pre, ?_⟩) ?_
  · show upd H1 d (.xd [(fN, v')]) d = some (.xd [(D.G.fld f, v')])
    rw [upd_same, hf]
  · rw [S1.len, List.getElem?_append_right (Nat.le_refl _)]; simp
end
end MP
end
section
set_option Elab.async false
set_option linter.all false
set_option maxHeartbeats 400000
namespace MP
open PySem L2 PySem.Spec
open PyProof.Rows hiding St
/-! ### a def by its body -/
theorem fnG_of {P : Program} {w : World} {Kf : PySem.W.Frag} {mg : Str → Option Value} {base : Heap} {k : Nat} {f : Addr} {x qual : Str} {st : Stmt} {fd : FuncData} {Ns ps : List Str} {sp : Sp} (Fu : Fun Kf x qual st f fd) (Sc : FnScope Ns ps (defScope st)) (len : ∀ vs H Q E, sp vs H Q E → vs.length = ps.length)
    (hbody : ∀ (cdv : Value) (A : Around) (outer : List Env) (s : Shared) (H : Hp) (vs : List V) (Q : VK) (E : XK), A.guards = some [] → Room k (A.deeper (envOfC qual (defScope st) s.heap.objs.size f cdv)) → sp vs H Q E →
      ∃ t, PSs (cxOf (L2.CX P w) P w Kf mg base Ns qual (defScope st) f cdv A outer s H E) (defBody st) t ∧ t { nx := fun _ H' => Q .non H', rt := Q } (start Ns vs) H) : FnG P w Kf mg base (k + 1) f fd ps sp := by
  obtain ⟨oc, od, kV, doc, pm, an, cdv, ct, osl, rfl, lk, hcd⟩ := Fu.ex
  refine ⟨len, fun A outer s H args us vs Q E hg hr e0 hb r y => ?_⟩
  have hl := len _ _ _ _ y
  have KX : Kf.In s.heap := e0.mod.kin.keeps fun b o e => (e0.bs b o e).1
  have lim : s.heap.NoLimit := e0.mod.nolimit.keeps fun b o e => (e0.bs b o e).1
  have kinds : ∀ z ∈ ps.zip us, (defScope st).names.lookup z.1 = some .local ∨ ((defScope st).names.lookup z.1 = some .cell ∧ ((cellsFrom (s.heap.objs.size + 1) (defScope st).names []).lookup z.1).isSome = true) := fun ⟨n, v⟩ hz => by
    rcases Sc.par n (List.of_mem_zip hz).1 with q | q
    · exact .inl q
    · exact .inr ⟨q, PySem.W.cellsFrom_some _ _ _ (.inl q)⟩
  refine codeAny_call_function hr.depth (KX _ _ lk) rfl Sc.co Sc.gen rfl (PySem.W.codeRec_of KX hcd) (hb _ _ _ _ ?_)
  refine wpAny_newFunctionEnv_cells Sc.kind kinds fun env he s1 xx => ?_
  subst he
  refine ⟨lim.keeps xx.toInCall.keep, codeAny_func ?_⟩
  obtain ⟨t, ht, hq⟩ := hbody cdv A outer s H vs Q E hg (hr.deeper _) y
  have I := inv_start (CX := L2.CX P w) (P := P) (w := w) (K := Kf) (mg := mg) (base := base) (E := E) Sc hr.hd e0 hl r xx
  refine wpAny_mono (ht.run [] s1 (start Ns vs) H _ I hq) (fun fl s' hs => ?_) fun e s' hs => hs
  have fin : ∀ {σ' : St} {H' : Hp} {v : V} {u : Value}, Inv (cxOf (L2.CX P w) P w Kf mg base Ns qual (defScope st) f cdv A outer s H E) [] σ' H' s' → RelV v u → Q v H' → CE outer P w H s Q u s' :=
    fun {σ' H' v u} J rv q => ⟨v, H', J.os, J.bare, J.base, J.hok, rv, q⟩
  match fl, hs with
  | .ret u, ⟨v, σ', H', J, rv, q⟩ => exact fin J rv q
  | .next, ⟨σ', H', J, q⟩ => exact fin (v := V.non) (u := Value.none) J rfl q
  | .brk, ⟨_, _, _, q⟩ => exact False.elim q
  | .cont, ⟨_, _, _, q⟩ => exact False.elim q
/-! ### the table -/
abbrev gof (Γ0 : Gam) : (Nat → List V → IH → EV V) → Gam := fun c => { Γ0 with call := c }
abbrev dk (G : Stat) (Γ0 : Gam) (nm : Nms) (T : Nat → Option FD) (fu k : Nat) : Dat := ⟨G, gof Γ0 (callN (gof Γ0) T fu k), nm, fun _ => none, fun _ => none⟩
structure DynS (P : Program) (w : World) (mg : Str → Option Value) (base : Heap) (Kf : PySem.W.Frag) (G : Stat) (Γ0 : Gam) (n : Nat → Bool) (adr : Nat → Addr) : Prop where
  init : ∀ C f, Γ0.init C = some f → n f = true ∧ Mk Kf (G.cls C) (adr f)
  callm : ∀ C f, Γ0.callm C = some f → n f = true ∧ Cls Kf (G.cls C) ∧ StX.CallO Kf (G.cls C) (adr f)
  prop : ∀ C x f, Γ0.prop C x = some f → n f = true ∧ ∃ p, Cls Kf (G.cls C) ∧ PropOf Kf (G.cls C) (G.fld x) p (adr f)
  meth : ∀ C x f, Γ0.meth C x = some f → n f = true ∧ x < G.M ∧ Cls Kf (G.cls C) ∧ Meth Kf (G.cls C) (G.fld x) (adr f)
  isF : ∀ C x, Γ0.isF C x = true → x < G.M ∧ Cls Kf (G.cls C) ∧ NoAttr Kf (G.cls C) (G.fld x)
  con : ∀ C x v, Γ0.con C x = some v → ∃ mc v' u, ClX.CRead Kf (G.cls C) mc ∧ ClX.CVal Kf (G.cls C) mc (G.fld x) v' u ∧ RV G.pre v v'
  cmeth : ∀ C x f c, Γ0.cmeth C x = some (f, true) → Γ0.clsAt C = some c → n f = true ∧ G.pre[c]? = some (G.cls C) ∧ ∃ mc p, ClX.CRead Kf (G.cls C) mc ∧ ClX.CMet Kf (G.cls C) mc (G.fld x) p (adr f)
  smeth : ∀ C x f, Γ0.cmeth C x = some (f, false) → n f = true ∧ ∃ mc p rest, ClX.CRead Kf (G.cls C) mc ∧ PySem.W.findCls Kf (.ref (G.cls C)) mc (G.fld x) = some (.get (.builtin "staticmethod.__get__") (.ref p) .none (.ref (G.cls C))) ∧
    PySem.W.recIn Kf p "staticmethod" = some (.ref (adr f) :: rest) ∧ PySem.W.keepIn Kf (.ref (adr f)) = true
  dun : ∀ C d f, Γ0.dun C d = some f → n f = true ∧ Cls Kf (G.cls C) ∧ DunF Kf (G.cls C) d (adr f)
  xo : ∀ C f, Γ0.exf C = some f → f < G.M ∧ ExcC Kf (G.cls C) ∧ PySem.W.findIn Kf (.ref (G.cls C)) (G.fld f) = some none
  eqg : ∀ C, Γ0.eqg C = true → ∀ k, NotImp P w Kf mg base k (G.cls C)
  isK : ∀ C, Γ0.isK C = true → IsF Kf (G.cls C) ∧ ∀ E, Γ0.isK E = true → PySem.W.kitOne Kf (.ref (G.cls E)) (.ref (G.cls C)) = some (Γ0.sub E C)
section
variable {P : Program} {w : World} {Kf : PySem.W.Frag} {mg : Str → Option Value} {base : Heap} {G : Stat} {Γ0 : Gam} {nm : Nms} {T : Nat → Option FD} {n : Nat → Bool} {adr : Nat → Addr} {fu : Nat}
theorem DynS.dyn (h : DynS P w mg base Kf G Γ0 n adr) {k : Nat} (tb : ∀ f, n f = true → FK P w Kf mg base (dk G Γ0 nm T fu k) k f (adr f)) : Dyn P w Kf mg base (dk G Γ0 nm T fu k) k where
  init := fun C f e => let ⟨a, b⟩ := h.init C f e; ⟨_, b, tb f a⟩
  callm := fun C f e => let ⟨a, b, c⟩ := h.callm C f e; ⟨_, b, c, tb f a⟩
  prop := fun C x f e => let ⟨a, p, b, c⟩ := h.prop C x f e; ⟨p, _, b, c, tb f a⟩
  meth := fun C x f e => let ⟨a, b, c, d⟩ := h.meth C x f e; ⟨b, _, c, d, tb f a⟩
  isF := h.isF
  con := h.con
  cmeth := fun C x f c e1 e2 => let ⟨a, b, mc, p, c, d⟩ := h.cmeth C x f c e1 e2; ⟨b, mc, p, _, c, d, tb f a⟩
  smeth := fun C x f e => let ⟨a, mc, p, r, b, c, d, e⟩ := h.smeth C x f e; ⟨mc, p, _, r, b, c, d, e, tb f a⟩
  dun := fun C d f e => let ⟨a, b, c⟩ := h.dun C d f e; ⟨_, b, c, tb f a⟩
  xo := h.xo
  eqg := fun C e => h.eqg C e k
  isK := h.isK
/-- a def of the table, as it stands -/
structure DefT (P : Program) (w : World) (Kf : PySem.W.Frag) (mg : Str → Option Value) (base : Heap) (G : Stat) (Γ0 : Gam) (nm : Nms) (T : Nat → Option FD) (n : Nat → Bool) (adr : Nat → Addr) (fu f : Nat) : Prop where
  ex : ∃ (d : FD) (Ns ps : List Str) (qual x : Str) (st : Stmt) (fd : FuncData), T f = some d ∧ Fun Kf x qual st (adr f) fd ∧ FnScope Ns ps (defScope st) ∧ Binds Kf fd ps [] ∧ d.np = ps.length ∧ d.ns = Ns.length ∧
    ∀ (k : Nat) (cdv : Value) (A : Around) (outer : List Env) (s : Shared) (H : Hp) (E : XK), (∀ g, n g = true → FK P w Kf mg base (dk G Γ0 nm T fu k) k g (adr g)) → Dyn P w Kf mg base (dk G Γ0 nm T fu k) k → A.guards = some [] → Room (2 * k + 1) (A.deeper (envOfC qual (defScope st) s.heap.objs.size (adr f) cdv)) →
      PSs (cxOf (L2.CX P w) P w Kf mg base Ns qual (defScope st) (adr f) cdv A outer s H E) (defBody st) (tB (dk G Γ0 nm T fu k) fu (fun c d _ H' => E c d H') none d.body)
theorem retOf_ok {G : Stat} {E : XK} {μ : List Addr} {r : ES} {Q : VK} (w : WP G (fun c d _ H' => E c d H') [] RV μ (retOf r) Q) : WPS G (fun c d _ H' => E c d H') none none { nx := fun _ H' => Q .non H', rt := Q } μ r := by
  match r, w with
  | some (.ok (.nx σ) h), w => exact fun μ' τ H p rs S _ => w μ' H .non p S rfl
  | some (.ok (.rt v) h), w => exact w
  | some (.ok (.bk σ) h), w => exact w.elim
  | some (.ok (.ct σ) h), w => exact w.elim
  | some (.ex C d σ h), w => exact fun μ' τ H d' p rs S e => w μ' H d' p S e
  | none, w => exact w.elim
theorem start_rs {μ : List Addr} {vs vs' : List V} {m : Nat} (r : RVs μ vs vs') : RS μ (vs.map some ++ List.replicate m none) (vs'.map some ++ List.replicate m none) := by
  refine Paired.app ?_ ?_
  · induction r with
    | nil => exact .nil
    | cons h t ih => exact .cons h ih
  · induction m with
    | zero => exact .nil
    | succ m ih => rw [List.replicate_succ]; exact .cons trivial ih
theorem step_FK (hd : DynS P w mg base Kf G Γ0 n adr) {k f : Nat} (tb : ∀ g, n g = true → FK P w Kf mg base (dk G Γ0 nm T fu k) k g (adr g)) {d : FD} {Ns ps : List Str} {qual x : Str} {st : Stmt} {fd : FuncData} (e : T f = some d) (Fu : Fun Kf x qual st (adr f) fd) (Sc : FnScope Ns ps (defScope st)) (h1 : d.np = ps.length) (h2 : d.ns = Ns.length)
    (body : ∀ (k : Nat) (cdv : Value) (A : Around) (outer : List Env) (s : Shared) (H : Hp) (E : XK), (∀ g, n g = true → FK P w Kf mg base (dk G Γ0 nm T fu k) k g (adr g)) → Dyn P w Kf mg base (dk G Γ0 nm T fu k) k → A.guards = some [] → Room (2 * k + 1) (A.deeper (envOfC qual (defScope st) s.heap.objs.size (adr f) cdv)) →
      PSs (cxOf (L2.CX P w) P w Kf mg base Ns qual (defScope st) (adr f) cdv A outer s H E) (defBody st) (tB (dk G Γ0 nm T fu k) fu (fun c d _ H' => E c d H') none d.body)) : FnG P w Kf mg base (2 * (k + 1)) (adr f) fd ps (spI (dk G Γ0 nm T fu (k + 1)) f) := by
  have dy := hd.dyn (P := P) (w := w) (mg := mg) (base := base) (nm := nm) (T := T) (fu := fu) tb
  have rd : ∀ vs' H Q E, spI (dk G Γ0 nm T fu (k + 1)) f vs' H Q E → vs'.length = ps.length ∧ ∃ F μ h vs, Sim (G.wf F) μ h H ∧ RVs μ vs vs' ∧ WP (G.wf F) (fun c d _ H' => E c d H') [] RV μ (retOf (evB (gof Γ0 (callN (gof Γ0) T fu k)) fu none d.body (vs.map some ++ List.replicate (d.ns - d.np) none) h)) Q := by
    intro vs' H Q E ⟨F, μ, h, vs, S, rv, w⟩
    have w : WP (G.wf F) (fun c d _ H' => E c d H') [] RV μ (callN (gof Γ0) T fu (k + 1) f vs h) Q := w
    unfold callN at w
    rw [e] at w
    simp only at w
    split at w
    · rename_i hl
      exact ⟨by rw [← rv.length, hl, h1], F, μ, h, vs, S, rv, w⟩
    · exact w.elim
  refine fnG_of (k := 2 * k + 1) Fu Sc (fun vs H Q E z => (rd vs H Q E z).1) fun cdv A outer s H vs' Q E hg hr z => ?_
  obtain ⟨hl, F, μ, h, vs, S, rv, w⟩ := rd vs' H Q E z
  refine ⟨_, body k cdv A outer s H E tb dy hg hr, F, μ, _, h, none, ?_, S, trivial, retOf_ok w⟩
  unfold L2.start
  rw [hl, ← h1, ← h2]
  exact start_rs rv
theorem all_FK (hd : DynS P w mg base Kf G Γ0 n adr) (ht : ∀ f, n f = true → DefT P w Kf mg base G Γ0 nm T n adr fu f) : ∀ k f, n f = true → FK P w Kf mg base (dk G Γ0 nm T fu k) k f (adr f)
  | 0, f, hf => by
    obtain ⟨d, Ns, ps, qual, x, st, fd, e, Fu, Sc, hb, h1, h2, body⟩ := (ht f hf).ex
    have no : ∀ vs H Q E, ¬ spI (dk G Γ0 nm T fu 0) f vs H Q E := fun vs H Q E ⟨_, _, _, _, _, _, w⟩ => w
    exact ⟨⟨fd, ps, ⟨fun vs H Q E z => (no _ _ _ _ z).elim, fun A outer s H args us vs Q E _ _ _ _ _ z => (no _ _ _ _ z).elim⟩, hb⟩⟩
  | k + 1, f, hf => by
    obtain ⟨d, Ns, ps, qual, x, st, fd, e, Fu, Sc, hb, h1, h2, body⟩ := (ht f hf).ex
    exact ⟨⟨fd, ps, step_FK hd (all_FK hd ht k) e Fu Sc h1 h2 body, hb⟩⟩
end
end MP
end
section
set_option Elab.async false
set_option linter.all false
set_option maxHeartbeats 400000
namespace MP
open PySem L2 PySem.Spec
open PyProof.Rows hiding St
/-- the law's call, from its def's promise where no guard runs -/
theorem lawG {P : Program} {w : World} {Kf : PySem.W.Frag} {mg mb : Str → Option Value} {k : Nat} {fa a : Addr} {fd : FuncData} {x : Str} {sp : Sp} {sh : Shared} {its : List Value} {ns : List Int}
    (KX : Kf.In sh.heap) (hns : sh.heap.Ns mainGlobals mg) (hb : sh.heap.Ns builtinsNs mb) (hbb : ∀ y : Str, y ≠ "__name__" → mb y = bootBuiltins y) (hlim : sh.heap.NoLimit) (hg : sh.gens = #[])
    (ha : sh.heap.get? a = some { cls := .type "list", data := .seq its.toArray }) (hi : IntsAre its ns) (hl : ns.length ≤ sizeLine) (hr : Room k callerA)
    (F : ∀ base : Heap, Kf.In base → base.Ns mainGlobals mg → FnG P w Kf mg base k fa fd [x] sp) (hbind : ∀ (s : Shared) (u : Value), BindsTo s fd ⟨[u], []⟩ [(x, u)])
    (hsp : ∀ H : Hp, Only H → SqL Kf H a (ns.map V.int) → sp [.ref a] H (fun v _ => v = .bl true) fun _ _ _ => False) :
    codeAny (model P w) callerA (.call (.ref fa) ⟨[.ref a], []⟩) (fun r s' => r = .ok (.ret (.bool true)) ∧ OldK sh.heap s'.heap ∧ s'.os = sh.os ∧ AllBare s'.gens) sh := by
  have rv := vals_ints hi
  have many := hi.length
  have core : ∀ H : Hp, Only H → SqL Kf H a (ns.map V.int) → HOk P w H sh.heap → (∀ b, H b ≠ none → b = a) → (H a ≠ none → Kf.lookup a = none) →
      codeAny (model P w) callerA (.call (.ref fa) ⟨[.ref a], []⟩) (fun r s' => r = .ok (.ret (.bool true)) ∧ OldK sh.heap s'.heap ∧ s'.os = sh.os ∧ AllBare s'.gens) sh := by
    intro H hO hS hok one away
    have low : ∀ {b : Addr} {o : Obj}, sh.heap.get? b = some o → H b = none → (hidT sh.heap H).get? b = some o := fun e n => hidT_get e n
    have other : ∀ {b : Addr}, b ≠ a → H b = none := fun {b} nb => by
      cases q : H b with
      | none => rfl
      | some u => exact absurd (one b (by rw [q]; simp)) nb
    have nsK : ∀ {b : Addr} {m : Str → Option Value}, sh.heap.Ns b m → (hidT sh.heap H).Ns b m := fun {b m} ⟨o, es, ep, e, d, r⟩ => ⟨o, es, ep, low e (other fun z => by
      rw [z, ha] at e
      cases e
      have d' : Data.seq its.toArray _ = Data.dict es ep := d
      cases d'), d, r⟩
    have hKb : Kf.In (hidT sh.heap H) := fun b o e => low (KX b o e) (by
      by_cases z : b = a
      · cases q : H b with
        | none => rfl
        | some u =>
          rw [z] at e q
          rw [away (by rw [q]; simp)] at e; cases e
      · exact other z)
    have hM : Mod Kf mg (hidT sh.heap H) := ⟨hKb, nsK hns, ⟨mb, nsK hb, hbb⟩, let ⟨mc, h1, h2⟩ := hlim; ⟨mc, nsK h1, h2⟩⟩
    have e0 : Env0 P w Kf mg (hidT sh.heap H) callerA [] sh H := ⟨rfl, hM, fun b o e => of_hidT e, Nat.le_of_eq (hidT_size _ _), trivial, fun b z => absurd (show b ∈ ([] : List Addr) from z) (by simp), hok, .of_eq hg⟩
    refine codeAny_mono ((F _ hKb (nsK hns)).run callerA [] sh H ⟨[.ref a], []⟩ [.ref a] [.ref a] _ _ rfl hr e0 (hbind sh (.ref a)) (.cons rfl .nil) (hsp H hO hS)) fun r s' y => ?_
    match r, y with
    | .error e, y =>
      obtain ⟨_, _, _, _, _, _, _, _, _, _, _, _, z⟩ := y
      exact z.elim
    | .ok .next, y => exact False.elim y
    | .ok .brk, y => exact False.elim y
    | .ok .cont, y => exact False.elim y
    | .ok (.ret u), y =>
      obtain ⟨v, H', os, bare, un, hok', r', q⟩ := y
      have q' : v = .bl true := q
      subst q'
      obtain rfl : u = Value.bool true := r'
      refine ⟨rfl, OldK.of_keep fun b o e => ?_, os, bare⟩
      cases q : H b with
      | none => exact un.keep b o e q (by intro z; exact absurd (show b ∈ ([] : List Addr) from z) (by simp)) (by simp)
      | some u =>
        rcases hO b with z | ⟨ob, xs, z⟩
        · rw [q] at z; cases z
        · have z2 := un.frzs b ob _ z
          obtain ⟨e1, _⟩ := hok b _ z
          obtain ⟨e2, _⟩ := hok' b _ z2
          rw [e] at e1; cases e1
          exact e2
  cases hk : Kf.lookup a with
  | some o =>
    have e := KX a o hk
    rw [ha] at e
    cases e
    exact core (fun _ => none) (fun _ => .inl rfl) (.inr ⟨_, its.toArray, _, hk, rfl, rfl, rfl, by rw [List.size_toArray, many]; exact hl, by simpa using rv⟩) (fun b u z => by have z' : (none : Option HO) = some u := z; cases z') (fun b z => absurd rfl z) fun z => absurd rfl z
  | none =>
    have at_ : ∀ b, (fun b => if b = a then some (HO.frz { cls := .type "list", data := .seq its.toArray } (.lst (ns.map V.int))) else none) b = if b = a then some (HO.frz { cls := .type "list", data := .seq its.toArray } (.lst (ns.map V.int))) else none := fun _ => rfl
    refine core (fun b => if b = a then some (.frz { cls := .type "list", data := .seq its.toArray } (.lst (ns.map V.int))) else none) (fun b => ?_) (.inl (.inr ⟨{ cls := .type "list", data := .seq its.toArray }, if_pos rfl⟩)) (fun b u z => ?_) (fun b z => ?_) fun _ => hk
    · by_cases hb : b = a
      · exact .inr ⟨_, _, if_pos hb⟩
      · exact .inl (if_neg hb)
    · by_cases hb : b = a
      · have z' := (if_pos hb).symm.trans z
        cases z'
        subst hb
        exact ⟨ha, by rw [List.length_map]; exact hl, its, _, rv, ha⟩
      · have z' := (if_neg hb).symm.trans z
        cases z'
    · by_cases hb : b = a
      · exact hb
      · exact absurd (if_neg hb) z
theorem rvs_ints {μ : List Addr} : ∀ ns : List Int, RVs μ (ns.map V.int) (ns.map V.int)
  | [] => .nil
  | _ :: ns => .cons rfl (rvs_ints ns)
/-- what stands ahead of the script in the interpreter's heap -/
structure PreOk (G : Stat) (h0 : IH) : Prop where
  len : h0.length = G.pre.length
  fr : G.fr = fun _ => none
  obj : ∀ (a : Nat) (o : IO) (b : Addr), h0[a]? = some o → G.pre[a]? = some b → mutb o = false ∧ ∀ (μ : List Addr) (H : Hp), G.pre <+: μ → ObjS G μ H b o
/-- the goal that the head leaves, from the interpreter's run -/
theorem walkG {l : PySem.W.OpenLaw} {q : Program} {loose : List Str} {XP : (Str → Option Value) → Heap → Prop} {YP : World → Heap → Prop} {d : DefRec} {K : Params → PySem.W.Frag} {Γ0 : Gam} {nm : Nms} {T : Nat → Option FD} {k fl fu : Nat} {x : Str} {h0 : IH}
    (hn : l.most = some 63) (hdf : d.params.defaults = []) (hr : Room (2 * k) callerA) (hY : ∀ (w : World) (h : Heap), YP w h → (K w.params).In h)
    (F : ∀ (w : World) (mg : Str → Option Value) (fa : Addr) (h : Heap), (K w.params).In h → h.Ns mainGlobals mg → mg d.name = some (.ref fa) →
      ∃ (fd : FuncData) (G : Stat), G.K = K w.params ∧ PreOk G h0 ∧ (∀ (s : Shared) (u : Value), BindsTo s fd ⟨[u], []⟩ [(x, u)]) ∧ ∀ base : Heap, (K w.params).In base → base.Ns mainGlobals mg → FnG l.prog w (K w.params) mg base (2 * k) fa fd [x] (spI (dk G Γ0 nm T fu k) fl))
    (run : ∀ ns : List Int, ns.length ≤ 63 → ∃ hE, callN (gof Γ0) T fu k fl [.ref h0.length] (h0 ++ [.flst (ns.map V.int)]) = some (.val (.bl true) hE)) :
    PySem.W.WalkO q loose XP YP l.row.toRowW d [] (fun f vs => PySem.call f vs) := by
  refine Att.attach_call hn hdf fun w s0 s1 mg mb fa o pm cd doc a vs ns Gr Y ho hd hcd hmg hobj hints hlen hg => ?_
  have KX := hY w _ Y
  obtain ⟨fd, G, eK, pre, hb, hF⟩ := F w mg fa _ KX Gr.T.g hmg
  refine lawG KX Gr.T.g Gr.T.b Gr.T.builtins Gr.T.nolimit hg hobj hints (Nat.le_trans hlen (by decide)) hr hF hb fun H hO hS => ?_
  obtain ⟨hE, e⟩ := run ns hlen
  have hl : (G.pre ++ [a])[h0.length]? = some a := by rw [pre.len, List.getElem?_append_right (Nat.le_refl _)]; simp
  have imm : ∀ (c : Nat) (o : IO) (b : Addr), (h0 ++ [IO.flst (ns.map V.int)])[c]? = some o → (G.pre ++ [a])[c]? = some b → mutb o = false ∧ ObjS G (G.pre ++ [a]) H b o := fun c o b e1 e2 => by
    by_cases hc : c < h0.length
    · rw [List.getElem?_append_left hc] at e1
      rw [List.getElem?_append_left (by rw [← pre.len]; exact hc)] at e2
      obtain ⟨h1, h2⟩ := pre.obj c o b e1 e2
      exact ⟨h1, h2 _ H (List.prefix_append _ _)⟩
    · rw [List.getElem?_append_right (by omega)] at e1
      have hz : c - h0.length = 0 := by
        obtain ⟨h1, _⟩ := List.getElem?_eq_some_iff.mp e1
        simpa using h1
      rw [hz] at e1
      simp at e1
      subst e1
      have hc2 : c = h0.length := by omega
      subst hc2
      rw [hl] at e2
      cases e2
      refine ⟨rfl, ns.map V.int, rvs_ints ns, ?_⟩
      · rcases hS with (z | z) | z
        · rcases hO a with y | ⟨_, _, y⟩ <;> (rw [z] at y; cases y)
        · exact .inl z
        · exact .inr fun _ => .inr (by rw [eK]; exact z)
  refine ⟨fun _ => none, G.pre ++ [a], h0 ++ [.flst (ns.map V.int)], [.ref h0.length], ⟨by simp [pre.len], fun c o b e1 e2 => ?_, fun c c' b o o' e1 e2 e3 e4 m1 _ => ?_, List.prefix_append _ _, fun b o z => (by cases z), fun _ _ _ _ _ _ => rfl⟩, .cons ⟨a, hl, rfl⟩ .nil, ?_⟩
  · have z := (imm c o b e1 e2).2
    cases o <;> exact z
  · rw [(imm c o b e1 e3).1] at m1; cases m1
  · show WP _ _ _ _ _ (callN (gof Γ0) T fu k fl [.ref h0.length] (h0 ++ [.flst (ns.map V.int)])) _
    rw [e]
    intro μ' H' v' _ _ r
    exact r
end MP
end
section
set_option Elab.async false
set_option linter.all false
set_option maxHeartbeats 1000000
/-! the interpreter's equations, one a constructor -/
namespace MP
open PySem
open L2 (V St Hp)
section
variable {α β : Type} {a : α} {h : IH} {C d : Nat} {k : α → IH → EV β} {k2 : α → IH → ES} {k3 : St → IH → ES} {σ : St} {v : V} {k4 : Nat → Nat → St → IH → ES} {i : Nat} {o : IO}
theorem v1 : bnd (some (.val a h)) k = k a h := rfl
theorem v2 : bnd (some (.exn C d h) : EV α) k = some (.exn C d h) := rfl
theorem v3 : bndN (some (.val a h)) k = k a h := rfl
theorem v4 : bE σ (some (.val a h)) k2 = k2 a h := rfl
theorem v5 : bE σ (some (.exn C d h) : EV α) k2 = some (.ex C d σ h) := rfl
theorem v6 : bS (some (.ok (.nx σ) h)) k3 = k3 σ h := rfl
theorem v7 : bS (some (.ok (.rt v) h)) k3 = some (.ok (.rt v) h) := rfl
theorem v8 : bS (some (.ex C d σ h)) k3 = some (.ex C d σ h) := rfl
theorem v9 : retOf (some (.ok (.rt v) h)) = some (.val v h) := rfl
theorem v10 : retOf (some (.ok (.nx σ) h)) = some (.val .non h) := rfl
theorem v11 : retOf (some (.ex C d σ h)) = some (.exn C d h) := rfl
theorem v12 : orX (some (.ex C d σ h)) k4 = k4 C d σ h := rfl
theorem v13 : orX (some (.ok (.rt v) h)) k4 = some (.ok (.rt v) h) := rfl
theorem v14 : unN i (some (.ok (.rt v) h)) = some (.ok (.rt v) h) := rfl
theorem v15 : nxt (some σ) h = some (.ok (.nx σ) h) := rfl
theorem v16 : fin false v h = some (.val v h) := rfl
theorem v18 {b : Bool} : fin true (.bl b) h = some (.val (.bl b) h) := rfl
theorem v17 : MP.new o h = some (.val (.ref h.length) (h ++ [o])) := rfl
theorem g1 : (h ++ [o])[h.length]? = some o := by simp
end
theorem e_var {Γ : Gam} {cur : Option (Nat × Nat)} {t : Bool} {σ : St} {h : IH} {i : Nat} : evE Γ cur t (.var i) σ h = (bnd (slotV σ i h) (fin t)) := by first | (simp only [evE]; done) | (simp only [evE]; rfl)
theorem e_glb {Γ : Gam} {cur : Option (Nat × Nat)} {t : Bool} {σ : St} {h : IH} {g : Nat} : evE Γ cur t (.glb g) σ h = (bnd (optV (Γ.glob g) h) (fin t)) := by first | (simp only [evE]; done) | (simp only [evE]; rfl)
theorem e_cst {Γ : Gam} {cur : Option (Nat × Nat)} {t : Bool} {σ : St} {h : IH} {v : V} : evE Γ cur t (.cst v) σ h = (fin t v h) := by first | (simp only [evE]; done) | (simp only [evE]; rfl)
theorem e_lst {Γ : Gam} {cur : Option (Nat × Nat)} {t : Bool} {σ : St} {h : IH} {es : MA} : evE Γ cur t (.lst es) σ h = (bnd (bnd (evA Γ cur es σ h) listV) (fin t)) := by first | (simp only [evE]; done) | (simp only [evE]; rfl)
theorem e_tup {Γ : Gam} {cur : Option (Nat × Nat)} {t : Bool} {σ : St} {h : IH} {es : MA} : evE Γ cur t (.tup es) σ h = (bnd (bnd (evA Γ cur es σ h) tupV) (fin t)) := by first | (simp only [evE]; done) | (simp only [evE]; rfl)
theorem e_bin {Γ : Gam} {cur : Option (Nat × Nat)} {t : Bool} {σ : St} {h : IH} {op : Operator} {a b : ME} : evE Γ cur t (.bin op a b) σ h = (bnd (bnd (evE Γ cur false a σ h) fun x h1 => bnd (evE Γ cur false b σ h1) fun y h2 => binop op x y h2) (fin t)) := by first | (simp only [evE]; done) | (simp only [evE]; rfl)
theorem e_neg {Γ : Gam} {cur : Option (Nat × Nat)} {t : Bool} {σ : St} {h : IH} {a : ME} : evE Γ cur t (.neg a) σ h = (bnd (bnd (evE Γ cur false a σ h) negV) (fin t)) := by first | (simp only [evE]; done) | (simp only [evE]; rfl)
theorem e_cmp {Γ : Gam} {cur : Option (Nat × Nat)} {t : Bool} {σ : St} {h : IH} {op : CmpOp} {a b : ME} : evE Γ cur t (.cmp op a b) σ h = (bnd (bnd (evE Γ cur false a σ h) fun x h1 => bnd (evE Γ cur false b σ h1) fun y h2 => cmpop op x y h2) (fin t)) := by first | (simp only [evE]; done) | (simp only [evE]; rfl)
theorem e_cmp2 {Γ : Gam} {cur : Option (Nat × Nat)} {t : Bool} {σ : St} {h : IH} {op op' : CmpOp} {a b c : ME} : evE Γ cur t (.cmp2 op op' a b c) σ h = (bnd (evE Γ cur false a σ h) fun x h1 => bnd (evE Γ cur false b σ h1) fun y h2 => bnd (cmpop op x y h2) fun z h3 => match z with
    | .bl true => bnd (evE Γ cur false c σ h3) fun w h4 => bnd (cmpop op' y w h4) (fin t)
    | .bl false => ret (.bl false) h3
    | _ => none) := by first | (simp only [evE]; done) | (simp only [evE]; rfl)
theorem e_andE {Γ : Gam} {cur : Option (Nat × Nat)} {t : Bool} {σ : St} {h : IH} {a b : ME} : evE Γ cur t (.andE a b) σ h = (bnd (evE Γ cur t a σ h) fun x h1 => match x with
    | .bl true => evE Γ cur t b σ h1
    | .bl false => ret (.bl false) h1
    | _ => none) := by first | (simp only [evE]; done) | (simp only [evE]; rfl)
theorem e_orE {Γ : Gam} {cur : Option (Nat × Nat)} {t : Bool} {σ : St} {h : IH} {a b : ME} : evE Γ cur t (.orE a b) σ h = (bnd (evE Γ cur t a σ h) fun x h1 => match x with
    | .bl false => evE Γ cur t b σ h1
    | .bl true => ret (.bl true) h1
    | _ => none) := by first | (simp only [evE]; done) | (simp only [evE]; rfl)
theorem e_notE {Γ : Gam} {cur : Option (Nat × Nat)} {t : Bool} {σ : St} {h : IH} {a : ME} : evE Γ cur t (.notE a) σ h = (bnd (evE Γ cur t a σ h) notV) := by first | (simp only [evE]; done) | (simp only [evE]; rfl)
theorem e_ife {Γ : Gam} {cur : Option (Nat × Nat)} {t : Bool} {σ : St} {h : IH} {c a b : ME} : evE Γ cur t (.ife c a b) σ h = (bnd (evE Γ cur true c σ h) fun k h1 => match k with
    | .bl true => bnd (evE Γ cur false a σ h1) (fin t)
    | .bl false => bnd (evE Γ cur false b σ h1) (fin t)
    | _ => none) := by first | (simp only [evE]; done) | (simp only [evE]; rfl)
theorem e_ix {Γ : Gam} {cur : Option (Nat × Nat)} {t : Bool} {σ : St} {h : IH} {a b : ME} : evE Γ cur t (.ix a b) σ h = (bnd (bnd (evE Γ cur false a σ h) fun x h1 => bnd (evE Γ cur false b σ h1) fun y h2 => getix x y h2) (fin t)) := by first | (simp only [evE]; done) | (simp only [evE]; rfl)
theorem e_sl {Γ : Gam} {cur : Option (Nat × Nat)} {t : Bool} {σ : St} {h : IH} {a : ME} {lo hi : MO} : evE Γ cur t (.sl a lo hi) σ h = (bnd (bnd (evE Γ cur false a σ h) fun x h1 => bnd (evO Γ cur lo σ h1) fun l h2 => bnd (evO Γ cur hi σ h2) fun r h3 => getsl x l r h3) (fin t)) := by first | (simp only [evE]; done) | (simp only [evE]; rfl)
theorem e_att {Γ : Gam} {cur : Option (Nat × Nat)} {t : Bool} {σ : St} {h : IH} {a : ME} {f : Nat} : evE Γ cur t (.att a f) σ h = (bnd (bnd (evE Γ cur false a σ h) (attV Γ f)) (fin t)) := by first | (simp only [evE]; done) | (simp only [evE]; rfl)
theorem e_call {Γ : Gam} {cur : Option (Nat × Nat)} {t : Bool} {σ : St} {h : IH} {f : Nat} {es : MA} : evE Γ cur t (.call f es) σ h = (bnd (bnd (evA Γ cur es σ h) fun vs h1 => Γ.call f vs h1) (fin t)) := by first | (simp only [evE]; done) | (simp only [evE]; rfl)
theorem e_make {Γ : Gam} {cur : Option (Nat × Nat)} {t : Bool} {σ : St} {h : IH} {C : Nat} {es : MA} : evE Γ cur t (.make C es) σ h = (bnd (bnd (evA Γ cur es σ h) (makeV Γ C)) (fin t)) := by first | (simp only [evE]; done) | (simp only [evE]; rfl)
theorem e_met {Γ : Gam} {cur : Option (Nat × Nat)} {t : Bool} {σ : St} {h : IH} {o : ME} {m : Nat} {es : MA} : evE Γ cur t (.met o m es) σ h = (bnd (bnd (evE Γ cur false o σ h) fun x h1 => match methF Γ m x h1 with
    | some f => bnd (evA Γ cur es σ h1) fun vs h2 => Γ.call f (x :: vs) h2
    | none => none) (fin t)) := by first | (simp only [evE]; done) | (simp only [evE]; rfl)
theorem e_clm {Γ : Gam} {cur : Option (Nat × Nat)} {t : Bool} {σ : St} {h : IH} {C m : Nat} {es : MA} : evE Γ cur t (.clm C m es) σ h = (bnd (match Γ.cmeth C m, Γ.clsAt C with
    | some (f, true), some c => bnd (evA Γ cur es σ h) fun vs h1 => Γ.call f (.ref c :: vs) h1
    | some (f, false), _ => bnd (evA Γ cur es σ h) fun vs h1 => Γ.call f vs h1
    | _, _ => none) (fin t)) := by first | (simp only [evE]; done) | (simp only [evE]; rfl)
theorem e_callv {Γ : Gam} {cur : Option (Nat × Nat)} {t : Bool} {σ : St} {h : IH} {i : Nat} {es : MA} : evE Γ cur t (.callv i es) σ h = (bnd (bnd (slotV σ i h) fun x h0 => match calV Γ x h0 with
    | some c => bnd (evA Γ cur es σ h0) (runCal Γ c)
    | none => none) (fin t)) := by first | (simp only [evE]; done) | (simp only [evE]; rfl)
theorem e_bi {Γ : Gam} {cur : Option (Nat × Nat)} {t : Bool} {σ : St} {h : IH} {b : Bif} {es : MA} : evE Γ cur t (.bi b es) σ h = (bnd (bnd (evA Γ cur es σ h) (bifn b)) (fin t)) := by first | (simp only [evE]; done) | (simp only [evE]; rfl)
theorem e_bm {Γ : Gam} {cur : Option (Nat × Nat)} {t : Bool} {σ : St} {h : IH} {m : Bm} {o : ME} {es : MA} : evE Γ cur t (.bm m o es) σ h = (bnd (bnd (evE Γ cur false o σ h) fun x h1 => if bmTy m x h1 = true then bnd (evA Γ cur es σ h1) fun vs h2 => bmeth m x vs h2 else none) (fin t)) := by first | (simp only [evE]; done) | (simp only [evE]; rfl)
theorem e_isI {Γ : Gam} {cur : Option (Nat × Nat)} {t : Bool} {σ : St} {h : IH} {a : ME} {ty : Ty} : evE Γ cur t (.isI a ty) σ h = (bnd (evE Γ cur false a σ h) (tyV Γ [ty])) := by first | (simp only [evE]; done) | (simp only [evE]; rfl)
theorem e_isIs {Γ : Gam} {cur : Option (Nat × Nat)} {t : Bool} {σ : St} {h : IH} {a : ME} {ts : List Ty} : evE Γ cur t (.isIs a ts) σ h = (bnd (evE Γ cur false a σ h) (tyV Γ ts)) := by first | (simp only [evE]; done) | (simp only [evE]; rfl)
theorem e_curF {Γ : Gam} {cur : Option (Nat × Nat)} {t : Bool} {σ : St} {h : IH} {f : Nat} : evE Γ cur t (.curF f) σ h = (bnd (curV Γ cur f h) (fin t)) := by first | (simp only [evE]; done) | (simp only [evE]; rfl)
theorem e_curI {Γ : Gam} {cur : Option (Nat × Nat)} {t : Bool} {σ : St} {h : IH} {D : Nat} : evE Γ cur t (.curI D) σ h = (curIV Γ cur (fun C => Γ.sub C D) h) := by first | (simp only [evE]; done) | (simp only [evE]; rfl)
theorem e_curB {Γ : Gam} {cur : Option (Nat × Nat)} {t : Bool} {σ : St} {h : IH} {D : Nat} : evE Γ cur t (.curB D) σ h = (curIV Γ cur (fun C => Γ.subB C D) h) := by first | (simp only [evE]; done) | (simp only [evE]; rfl)
theorem e_dct {Γ : Gam} {cur : Option (Nat × Nat)} {t : Bool} {σ : St} {h : IH} {kvs : List (L2.Key × V)} : evE Γ cur t (.dct kvs) σ h = (bnd (new (.dic (L2.mergeK [] kvs)) h) (fin t)) := by first | (simp only [evE]; done) | (simp only [evE]; rfl)
def lcRun (Γ : Gam) (ws : List Nat) (elt : ME) (tg : MT) (c : MO) (σ : St) (is : Its) (h : IH) : EV V := bndN (loopC (turnC tg ws σ (evC Γ c) (evE Γ none false elt)) is.gd is.xs h) listV
theorem e_lc {Γ : Gam} {cur : Option (Nat × Nat)} {t : Bool} {σ : St} {h : IH} {ws : List Nat} {elt : ME} {tg : MT} {it : MI} {c : MO} : evE Γ cur t (.lc ws elt tg it c) σ h = bnd (bnd (evI Γ cur it σ h) (lcRun Γ ws elt tg c σ)) (fin t) := by first | (simp only [evE]; done) | (simp only [evE]; rfl)
theorem z4 : (4 : Nat) ≤ sizeLine := by rw [sizeLine_eq]; decide
theorem loopC_map {γ : Type} {l : List γ} {F : γ → V × Option V} {h : IH} {gd : List (Nat × MP.IO)} {f : V × Option V → IH → EV (Option V)} {g : γ → V} (hg : okG h gd = true) (hf : ∀ x ∈ l, f (F x) h = some (.val (some (g x)) h)) : loopC f gd (l.map F) h = some (.val (l.map g) h) := by
  induction l with
  | nil => simp [loopC, hg]
  | cons x xs ih =>
    have e1 := hf x List.mem_cons_self
    have e2 := ih fun y hy => hf y (List.mem_cons_of_mem _ hy)
    simp only [List.map_cons]
    unfold loopC
    simp only [hg, if_true, e1, v3, e2]
    rfl
theorem eq_int {a b : Int} {h : IH} : eqOp (.int a) (.int b) h = some (decide (a = b)) := by
  have s1 : ∀ a : Int, SeqAt.shaped (.int a) = true := fun a => by
    unfold SeqAt.shaped
    first | rfl | simp [PyData.canLay0, PyData.depth]
  have s2 : PyData.eqv (.int a) (.int b) = decide (a = b) := by
    first | rfl | (simp [PyData.eqv]; rfl)
  simp [eqOp, toD, s1, s2]
theorem loopC_filter {γ : Type} {l : List γ} {F : γ → V × Option V} {h : IH} {gd : List (Nat × IO)} {f : V × Option V → IH → EV (Option V)} {p : γ → Bool} {g : γ → V} (hg : okG h gd = true) (hf : ∀ x ∈ l, f (F x) h = some (.val (if p x = true then some (g x) else none) h)) : loopC f gd (l.map F) h = some (.val ((l.filter p).map g) h) := by
  induction l with
  | nil => simp [loopC, hg]
  | cons x xs ih =>
    have e1 := hf x List.mem_cons_self
    have e2 := ih fun y hy => hf y (List.mem_cons_of_mem _ hy)
    simp only [List.map_cons]
    unfold loopC
    simp only [hg, if_true, e1, v3, e2]
    cases hp : p x with
    | true => simp [hp, List.filter_cons]
    | false => simp [hp, List.filter_cons]
theorem toD_lst {h : IH} {n a : Nat} {xs : List V} (e : h[a]? = some (.lst xs)) : toD h (n + 1) (.ref a) = (dataL (toD h n) xs).map .list := by
  unfold toD
  simp only [e]
theorem toD_lstS {h : IH} {n a : Nat} {cs : List Str} (e : h[a]? = some (.lst (cs.map V.str))) (dd : ∀ n, dataL (toD h (n + 1)) (cs.map V.str) = some (cs.map PyData.str)) : toD h (n + 2) (.ref a) = some (.list (cs.map PyData.str)) := by
  rw [toD_lst e, dd]
  rfl
theorem dataL_strs {h : IH} {n : Nat} : ∀ cs : List Str, dataL (toD h (n + 1)) (cs.map V.str) = some (cs.map PyData.str)
  | [] => rfl
  | c :: r => by
    have e1 : toD h (n + 1) (.str c) = some (.str c) := by simp [toD]
    have e2 := dataL_strs (h := h) (n := n) r
    simp only [List.map_cons, dataL, e1, e2]
theorem shaped_strs {cs : List Str} (hc : ∀ c ∈ cs, PyData.canLay0 (.str c) = true) : SeqAt.shaped (.list (cs.map PyData.str)) = true := by
  have h1 : ∀ cs : List Str, (∀ c ∈ cs, PyData.canLay0 (.str c) = true) → PyData.canLayAll0 (cs.map PyData.str) = true := by
    intro cs
    induction cs with
    | nil => intro _; rfl
    | cons c r ih =>
      intro hc
      rw [List.map_cons]
      unfold PyData.canLayAll0
      rw [hc c List.mem_cons_self, ih fun d hd => hc d (List.mem_cons_of_mem _ hd)]
      rfl
  have h2 : ∀ cs : List Str, PyData.depthAll (cs.map PyData.str) = 0 := by
    intro cs
    induction cs with
    | nil => rfl
    | cons c r ih =>
      rw [List.map_cons]
      unfold PyData.depthAll
      rw [ih]
      rfl
  unfold SeqAt.shaped
  rw [show PyData.canLay0 (.list (cs.map PyData.str)) = PyData.canLayAll0 (cs.map PyData.str) from by simp [PyData.canLay0], h1 cs hc, show PyData.depth (.list (cs.map PyData.str)) = PyData.depthAll (cs.map PyData.str) + 1 from by simp [PyData.depth], h2]
  rfl
theorem eqvAll_refl_strs : ∀ cs : List Str, PyData.eqvAll (cs.map PyData.str) (cs.map PyData.str) = true
  | [] => by simp [PyData.eqvAll]
  | c :: r => by simp [PyData.eqvAll, PyData.eqv, eqvAll_refl_strs r]
end MP
end
section
set_option Elab.async false
set_option linter.all false
set_option maxHeartbeats 1000000
/-! a pure interpreter: values are trees, no heap -/
namespace MQ
open PySem MP
open L2 (V St Hp Key)

inductive D where
  | non | bl (b : Bool) | int (i : Int) | str (s : Str)
  | lst (xs : List D) | flst (xs : List D) | tup (xs : List D) (k : Bool) | dic (kvs : List (Key × D)) | ins (C : Nat) (fs : List (Nat × D)) | cls (C : Nat) | exo (C f : Nat) (v : D)
/-- shared, owned here, lent by the caller -/
inductive Md | sh | ow | io
  deriving DecidableEq
abbrev PS := List (Option (Md × D))
inductive PO (α : Type) where
  | val (a : α) (ρ : PS)
  | exn (C f : Nat) (v : D) (ρ : PS)
abbrev PV (α : Type) := Option (PO α)
def pb {α β : Type} : PV α → (α → PS → PV β) → PV β
  | some (.val a ρ), k => k a ρ
  | some (.exn C f v ρ), _ => some (.exn C f v ρ)
  | none, _ => none
def pbN {α β : Type} : PV α → (α → PS → PV β) → PV β
  | some (.val a ρ), k => k a ρ
  | some (.exn _ _ _ _), _ => none
  | none, _ => none
abbrev pret {α : Type} (a : α) (ρ : PS) : PV α := some (.val a ρ)
/-- a call's end; the lent argument -/
inductive PC where
  | val (d : D) (x : Option D)
  | exn (C f : Nat) (v : D) (x : Option D)
structure PG where
  call : Nat → List D → Option PC
  io : Nat → Bool
  glob : Nat → Option D
  G : Gam

/-! ### values -/
def dOf : V → Option D
  | .non => some .non
  | .bl b => some (.bl b)
  | .int i => some (.int i)
  | .str s => some (.str s)
  | _ => none
def vOf : D → Option V
  | .non => some .non
  | .bl b => some (.bl b)
  | .int i => some (.int i)
  | .str s => some (.str s)
  | _ => none
def vsOf : List D → Option (List V)
  | [] => some []
  | d :: r => match vOf d, vsOf r with
    | some v, some vs => some (v :: vs)
    | _, _ => none
def mutD : D → Bool
  | .lst _ => true
  | .dic _ => true
  | .ins _ _ => true
  | _ => false
def ptruth : D → Option Bool
  | .non => some false
  | .bl b => some b
  | .int i => some (i != 0)
  | .str s => if s.length ≤ sizeLine then some ((s.length : Int) != 0) else none
  | .lst xs => some (!xs.isEmpty)
  | .flst xs => some (!xs.isEmpty)
  | .tup xs _ => some (!xs.isEmpty)
  | .dic kvs => some (!kvs.isEmpty)
  | _ => none
mutual
def toP : Nat → D → Option PyData
  | 0, _ => none
  | n + 1, d => match d with
    | .non => some .none
    | .bl b => some (.bool b)
    | .int i => some (.int i)
    | .str s => some (.str s)
    | .lst xs => (toPs n xs).map .list
    | .flst xs => (toPs n xs).map .list
    | .tup xs _ => (toPs n xs).map .tuple
    | _ => none
def toPs : Nat → List D → Option (List PyData)
  | _, [] => some []
  | n, d :: r => match toP n d, toPs n r with
    | some d, some ds => some (d :: ds)
    | _, _ => none
end
def pseq : D → Option (List D)
  | .lst xs => some xs
  | .flst xs => some xs
  | .tup xs _ => some xs
  | _ => none
def plst : D → Option (List D)
  | .lst xs => some xs
  | .flst xs => some xs
  | _ => none
def pty : D → Option Ty
  | .non => some (.b .non)
  | .bl _ => some (.b .bool)
  | .int _ => some (.b .int)
  | .str _ => some (.b .str)
  | .lst _ => some (.b .list)
  | .flst _ => some (.b .list)
  | .tup _ _ => some (.b .tup)
  | .dic _ => some (.b .dict)
  | .ins C _ => some (.c C)
  | _ => none
def pints : List D → Option (List Int)
  | [] => some []
  | .int i :: r => (pints r).map (i :: ·)
  | _ :: _ => none
def pbools : List D → Option (List Bool)
  | [] => some []
  | .bl i :: r => (pbools r).map (i :: ·)
  | _ :: _ => none
def pstrs : List D → Option (List Str)
  | [] => some []
  | .str i :: r => (pstrs r).map (i :: ·)
  | _ :: _ => none
def plook (f : Nat) : List (Nat × D) → Option D
  | [] => none
  | (g, v) :: r => if f = g then some v else plook f r
def pput (f : Nat) (v : D) : List (Nat × D) → List (Nat × D)
  | [] => [(f, v)]
  | (g, u) :: r => if g = f then (g, v) :: r else (g, u) :: pput f v r
def pbin (op : Operator) (x y : D) : Option D := match op, x, y with
  | .Add, .int i, .int j => some (.int (i + j))
  | .Sub, .int i, .int j => some (.int (i - j))
  | .Mult, .int i, .int j => if mulOk i j then some (.int (i * j)) else none
  | .FloorDiv, .int i, .int j => if divOk j then some (.int (i / j)) else none
  | .Mod, .int i, .int j => if 0 < j then some (.int (i % j)) else none
  | .Pow, .int i, .int j => if 0 ≤ j ∧ j ≤ 1000000 ∧ i.natAbs < 2 ^ 64 then some (.int (i ^ j.toNat)) else none
  | .Add, .str s, .str t => if s.length + t.length ≤ sizeLine then some (.str (s ++ t)) else none
  | .Add, .lst xs, .lst ys => if xs.length + ys.length ≤ sizeLine then some (.lst (xs ++ ys)) else none
  | .Add, .tup xs k, .tup ys l => if xs.length + ys.length ≤ sizeLine then (if xs.isEmpty then some (.tup ys l) else if ys.isEmpty then some (.tup xs k) else some (.tup (xs ++ ys) false)) else none
  | .Mult, .lst xs, .int k => if -(2 ^ 63) ≤ k ∧ k < 2 ^ 63 ∧ xs.length * k.toNat ≤ sizeLine then some (.lst (List.replicate k.toNat xs).flatten) else none
  | _, _, _ => none
def peq (x y : D) : Option Bool := match toP 40 x, toP 40 y with
  | some d, some e => if SeqAt.shaped d && SeqAt.shaped e then some (PyData.eqv d e) else none
  | _, _ => none
def pin (x y : D) : Option Bool := match x, y with
  | .str i, .str j => some (!(Builtin.Str.occurrences j i 0 j.length 1).isEmpty)
  | x, y => match vOf x, (pseq y).bind vsOf with
    | some v, some vs => some (L2.inV v vs)
    | _, _ => none
def pcmp (op : CmpOp) (x y : D) : Option Bool := match op with
  | .Eq => peq x y
  | .NotEq => (peq x y).map (!·)
  | .Lt => match x, y with
    | .int i, .int j => some (decide (i < j))
    | .str i, .str j => some (decide (i.cps.toList < j.cps.toList))
    | _, _ => none
  | .LtE => match x, y with
    | .int i, .int j => some (decide (i ≤ j))
    | _, _ => none
  | .Gt => match x, y with
    | .int i, .int j => some (decide (j < i))
    | _, _ => none
  | .GtE => match x, y with
    | .int i, .int j => some (decide (j ≤ i))
    | _, _ => none
  | .Is => match x, y with
    | .non, .non => some true
    | _, .non => some false
    | .bl a, .bl b => some (decide (a = b))
    | _, _ => none
  | .IsNot => match x, y with
    | .non, .non => some false
    | _, .non => some true
    | .bl a, .bl b => some (!decide (a = b))
    | _, _ => none
  | .In => pin x y
  | .NotIn => (pin x y).map (!·)
def pix (x y : D) : Option D := match x, y with
  | .str z, .int i => if z.length ≤ sizeLine then (L2.atI z.cps.toList i).map fun c => .str ⟨#[c]⟩ else none
  | x, .int i => (pseq x).bind fun xs => L2.atI xs i
  | _, _ => none
def pcut (xs : List D) (lo hi : Option Int) : List D := (xs.drop (HT.sIx xs.length 0 lo)).take (HT.sIx xs.length xs.length hi - HT.sIx xs.length 0 lo)
def psl (x : D) (lo hi : Option Int) : Option D := match x with
  | .str z => if z.length ≤ sizeLine then some (.str (L2.cutS z lo hi)) else none
  | .lst xs => some (.lst (pcut xs lo hi))
  | .flst xs => some (.lst (pcut xs lo hi))
  | .tup xs k => if HT.sIx xs.length 0 lo = 0 ∧ HT.sIx xs.length xs.length hi = xs.length then some (.tup xs k) else some (.tup (pcut xs lo hi) false)
  | _ => none
def plen (x : D) : Option Nat := match x with
  | .str z => if z.length ≤ sizeLine then some z.length else none
  | .lst xs => some xs.length
  | .flst xs => some xs.length
  | .tup xs _ => some xs.length
  | .dic kvs => some kvs.length
  | _ => none
def pflat : D → Option PyData
  | .non => some .none
  | .bl b => some (.bool b)
  | .int i => some (.int i)
  | .str s => some (.str s)
  | _ => none
def ppairs : List (Key × D) → Option (List (PyData × PyData))
  | [] => some []
  | (.inl i, v) :: r => match pflat v, ppairs r with
    | some d, some ds => some ((.int i, d) :: ds)
    | _, _ => none
  | _ => none
def pdic (x : D) : Option PyData := match x with
  | .dic kvs => (ppairs kvs).map .dict
  | _ => none
def prepr (x : D) : Option D := match toP 40 x with
  | some d => if PyData.showable d && !PyData.hasDict d && decide (d.shown.length + 64 ≤ sizeLine) && decide (d.depth ≤ 60) then some (.str d.shown) else none
  | none => match pdic x with
    | some d => if PyData.showable d && decide (d.shown.length + 64 ≤ sizeLine) && decide (d.depth ≤ 60) then some (.str d.shown) else none
    | none => none
def pbif (b : Bif) (vs : List D) : Option D := match b, vs with
  | .len, [x] => (plen x).map fun (n : Nat) => D.int (n : Int)
  | .all, [x] => ((plst x).bind pbools).map fun bs => .bl (bs.all id)
  | .any, [x] => ((plst x).bind pbools).map fun bs => .bl (bs.any id)
  | .sum, [x] => ((plst x).bind pints).map fun is => .int is.sum
  | .max1, [x] => (((plst x).bind pints).bind maxI).map .int
  | .min1, [x] => (((plst x).bind pints).bind minI).map .int
  | .max2, [.int i, .int j] => some (.int (if j > i then j else i))
  | .min2, [.int i, .int j] => some (.int (if j < i then j else i))
  | .int, [.int i] => some (.int i)
  | .int, [.bl k] => some (.int (if k then 1 else 0))
  | .int, [.str s] => match PySem.intText? s with
    | some n => if s.length ≤ 640 then some (.int n) else none
    | none => none
  | .str, [.int i] => if i.natAbs.log2 < 1920 then some (.str (toString i)) else none
  | .str, [.str s] => some (.str s)
  | .repr, [x] => prepr x
  | .list, [x] => (pseq x).map .lst
  | .tuple, [.lst xs] => some (.tup xs false)
  | .tuple, [.flst xs] => some (.tup xs false)
  | .tuple, [.tup xs k] => some (.tup xs k)
  | .lenSet, [x] => match (pseq x).bind pints with
    | some is => if is.length < 64 then some (.int (distinct is)) else none
    | none => none
  | .ord, [.str s] => if s.length = 1 then some (.int (s.cps.getD 0 0 : Nat)) else none
  | _, _ => none
def isMutM : Bm → Bool
  | .append | .extend | .pop | .clear => true
  | _ => false
def pmut (m : Bm) (xs : List D) (vs : List D) : Option (D × List D) := match m, vs with
  | .append, [y] => if xs.length < sizeLine then some (.non, xs ++ [y]) else none
  | .extend, [.lst ys] => if xs.length + ys.length ≤ sizeLine then some (.non, xs ++ ys) else none
  | .pop, [] => (xs[xs.length - 1]?).map fun y => (y, xs.dropLast)
  | .clear, [] => some (.non, [])
  | _, _ => none
def pbm (m : Bm) (x : D) (vs : List D) : Option D := match m, x, vs with
  | .join, .str s, [y] => match (pseq y).bind pstrs with
    | some ys => if (ys.map (·.length)).sum + ys.length * s.length ≤ 16777216 then some (.str (Txt.join s ys)) else none
    | none => none
  | .count, .str s, [.str t] => some (.int (Txt.count s t))
  | .index, .tup xs true, [.str z] => match pstrs xs with
    | some ys => if z ∈ ys then some (.int (ys.idxOf z : Nat)) else none
    | none => none
  | .lstrip, .str s, [.str t] => if s.length ≤ sizeLine then some (.str (Txt.lstripChars s t)) else none
  | .split, .str s, [.str t] => if t.length ≠ 0 ∧ s.length + 2 ≤ sizeLine then some (.lst ((Txt.split s t).map D.str)) else none
  | .partition, .str s, [.str t] => if t.length ≠ 0 ∧ s.length ≤ sizeLine then some (.tup [.str (Txt.partition s t).1, .str (Txt.partition s t).2.1, .str (Txt.partition s t).2.2] false) else none
  | _, _, _ => none
def pbmTy (m : Bm) (x : D) : Bool := match m, x with
  | .index, .tup _ true => true
  | .join, .str _ => true
  | .count, .str _ => true
  | .lstrip, .str _ => true
  | .split, .str _ => true
  | .partition, .str _ => true
  | _, _ => false
def pinpl (op : Operator) (x y : D) : Option D := match op, x, y with
  | .Add, .int i, .int j => some (.int (i + j))
  | .Sub, .int i, .int j => some (.int (i - j))
  | .Mult, .int i, .int j => if mulOk i j then some (.int (i * j)) else none
  | .FloorDiv, .int i, .int j => if divOk j then some (.int (i / j)) else none
  | .Add, .str s, .str t => if s.length + t.length ≤ sizeLine then some (.str (s ++ t)) else none
  | _, _, _ => none
def pdct : List (Key × V) → Option (List (Key × D))
  | [] => some []
  | (k, v) :: r => match dOf v, pdct r with
    | some d, some ds => some ((k, d) :: ds)
    | _, _ => none
def pinsOf : D → Option Nat
  | .ins C _ => some C
  | _ => none
def pisC (Γ : Gam) (C : Nat) (x : D) : Option Bool := if Γ.isK C then (match pty x with
  | some (.b _) => some false
  | some (.c E) => if Γ.isK E then some (Γ.sub E C) else none
  | none => none) else none
def pzip : D → D → Option (List (D × D))
  | .str s, .str t => some ((s.cps.toList.map fun c => D.str ⟨#[c]⟩).zip (t.cps.toList.map fun c => D.str ⟨#[c]⟩))
  | x, y => match plst x, plst y with
    | some xs, some ys => some (xs.zip ys)
    | _, _ => none
def plzip (x y : D) : Option D := match pzip x y with
  | some ps => if ps.length ≤ sizeLine then some (.lst (ps.map fun p => .tup [p.1, p.2] false)) else none
  | none => none
def pfsT : List D → Option (List Str)
  | [] => some []
  | .str s :: r => if s.length ≤ sizeLine then (pfsT r).map (s :: ·) else none
  | .int i :: r => if i.natAbs.log2 < 1920 then (pfsT r).map (toString i :: ·) else none
  | _ :: _ => none
def pfs (vs : List D) : Option D := match pfsT vs with
  | some ts => if (ts.map (·.length)).sum ≤ sizeLine then some (.str (ts.foldl (· ++ ·) Str.empty)) else none
  | none => none
def pkey : D → Option Key
  | .int i => some (.inl i)
  | .str s => some (.inr s)
  | _ => none
def keyD : Key → D
  | .inl i => .int i
  | .inr s => .str s
def pdix (x y : D) : Option D := match x, pkey y with
  | .dic kvs, some k => (kvs.find? fun p => decide (p.1 = k)).map (·.2)
  | _, _ => none
def pinK (x y : D) : Option Bool := match y, pkey x with
  | .dic kvs, some k => some (kvs.any fun p => decide (p.1 = k))
  | _, _ => none

/-! ### slots -/
def pvar (i : Nat) (ρ : PS) : PV D := match ρ[i]? with
  | some (some (.sh, d)) => pret d ρ
  | some (some (.ow, d)) => pret d (ρ.set i (some (.sh, d)))
  | _ => none
def pslot (i : Nat) (ρ : PS) : Option D := match ρ[i]? with
  | some (some (_, d)) => some d
  | _ => none
def pfin (t : Bool) (d : D) (ρ : PS) : PV D := if t then (match ptruth d with
  | some k => pret (.bl k) ρ
  | none => none) else pret d ρ
def po (t : Bool) (o : Option D) (ρ : PS) : PV D := match o with
  | some d => pfin t d ρ
  | none => none
/-- the last operand: an owned one is not given away by being read -/
def pk (b : ME) (ρ : PS) (r : PV D) : PV D := match b with
  | .var i => (match pslot i ρ with
    | some d => pret d ρ
    | none => none)
  | _ => r
/-- an operand ahead of others: a name is read behind them -/
def pfst {β : Type} (a : ME) (ρ : PS) (ra : PV D) (rb : PS → PV β) : PV (D × β) := match a with
  | .var i => (match pslot i ρ with
    | some _ => pb (rb ρ) fun y ρ2 => (match pslot i ρ2 with
      | some x => pret (x, y) ρ2
      | none => none)
    | none => none)
  | _ => pb ra fun x ρ1 => pb (rb ρ1) fun y ρ2 => pret (x, y) ρ2
/-- what was read by pk is given away all the same -/
def pshr (a : ME) (ρ : PS) : Option PS := match a with
  | .var i => (match ρ[i]? with
    | some (some (.sh, _)) => some ρ
    | some (some (.ow, d)) => some (ρ.set i (some (.sh, d)))
    | _ => none)
  | _ => some ρ
def notIo (ρ : PS) (i : Nat) : Bool := match ρ[i]? with
  | some (some (.io, _)) => false
  | _ => true
mutual
def pasg : MT → Md → D → PS → Option PS
  | .nm i, m, d, ρ => if notIo ρ i then some (ρ.set i (some (m, d))) else none
  | .tup ts, _, d, ρ => match d with
    | .tup xs _ => pasgs ts xs ρ
    | _ => none
def pasgs : MTs → List D → PS → Option PS
  | .nil, [], ρ => some ρ
  | .cons t r, d :: ds, ρ => match pasg t .sh d ρ with
    | some ρ' => pasgs r ds ρ'
    | none => none
  | _, _, _ => none
end
def pasgX : MT → D × Option D → PS → Option PS
  | t, (d, none), ρ => pasg t .sh d ρ
  | .tup (.cons t (.cons u .nil)), (d, some e), ρ => match pasg t .sh d ρ with
    | some ρ' => pasg u .sh e ρ'
    | none => none
  | _, _, _ => none
mutual
def tgIn (ws : List Nat) : MT → Bool
  | .nm i => ws.contains i
  | .tup ts => tgsIn ws ts
def tgsIn (ws : List Nat) : MTs → Bool
  | .nil => true
  | .cons t r => tgIn ws t && tgsIn ws r
end
def pwipe (ρ : PS) : List Nat → PS
  | [] => ρ
  | v :: vs => (pwipe ρ vs).set v none
def notOwn (ρ : PS) (i : Nat) : Bool := match ρ[i]? with
  | some (some (.sh, _)) => true
  | some none => true
  | none => true
  | _ => false
def pfree (ws : List Nat) (ρ : PS) : Bool := ws.all (notOwn ρ)
/-- behind a comprehension's turn its own names are as they were -/
def prest (ρ τ : PS) : List Nat → PS
  | [] => τ
  | v :: vs => (prest ρ τ vs).set v ((ρ[v]?).getD none)
def pcall (Γ : PG) (f : Nat) (ds : List D) (ρ : PS) : PV D := if Γ.io f then none else match Γ.call f ds with
  | some (.val d none) => pret d ρ
  | some (.exn C f v none) => some (.exn C f v ρ)
  | _ => none
def pioc (Γ : PG) (f j : Nat) (ds : List D) (ρ : PS) : PV D := if Γ.io f then (match ρ[j]? with
  | some (some (.sh, _)) => none
  | some (some (m, x)) => (match Γ.call f (x :: ds) with
    | some (.val d (some y)) => pret d (ρ.set j (some (m, y)))
    | some (.exn C f v (some y)) => some (.exn C f v (ρ.set j (some (m, y))))
    | _ => none)
  | _ => none) else none
def pmake (Γ : PG) (C : Nat) (ds : List D) (ρ : PS) : PV D := match Γ.G.init C with
  | some f => if Γ.io f then (match Γ.call f (.ins C [] :: ds) with
    | some (.val .non (some d)) => pret d ρ
    | some (.exn C f v (some _)) => some (.exn C f v ρ)
    | _ => none) else none
  | none => none
def pboolV (neg : Bool) : D → PS → PV D
  | .bl b, ρ => pret (.bl (neg != b)) ρ
  | _, _ => none
def pdnR (d : Dn) (C : Nat) (y : D) : Bool := match d with
  | .mul => (match y with | .int _ => true | _ => false)
  | .get => true
  | _ => pinsOf y == some C
def pisBT (y : D) : Bool := match pty y with
  | some (.b _) => true
  | _ => false
def pdn (Γ : PG) (d : Dn) (x y : D) (ρ : PS) : PV D := match d with
  | .inn | .nin => match (pinsOf y).bind fun C => Γ.G.dun C .inn with
    | some f => pb (pcall Γ f [y, x] ρ) (pboolV (d == .nin))
    | none => none
  | .eq | .ne => match pinsOf x with
    | some C => if Γ.G.isK C then (if pinsOf y == some C then (match Γ.G.dun C .eq with
        | some f => pb (pcall Γ f [x, y] ρ) (pboolV (d == .ne))
        | none => none)
      else if pisBT y && Γ.G.eqg C then pret (.bl (d == .ne)) ρ else none) else none
    | none => none
  | d => match pinsOf x with
    | some C => if pdnR d C y then (match Γ.G.dun C d with
      | some f => pcall Γ f [x, y] ρ
      | none => none) else none
    | none => none
def plenR : D → PS → PV D
  | .int i, ρ => if 0 ≤ i ∧ i < 2 ^ 62 then pret (.int i) ρ else none
  | _, _ => none
def pdn1 (Γ : PG) (d : Dn) (x : D) (ρ : PS) : PV D := match (pinsOf x).bind fun C => Γ.G.dun C d with
  | some f => pb (pcall Γ f [x] ρ) fun r ρ2 => if d = .len then plenR r ρ2 else pret r ρ2
  | none => none
def pits : D → Option (List (D × Option D))
  | .str s => some (s.cps.toList.map fun c => (D.str ⟨#[c]⟩, none))
  | .lst xs => some (xs.map (·, none))
  | .flst xs => some (xs.map (·, none))
  | .tup xs _ => some (xs.map (·, none))
  | _ => none
def penum : Nat → List D → List (D × Option D)
  | _, [] => []
  | n, d :: r => (.int n, some d) :: penum (n + 1) r
def prng (lo : Int) (n : Nat) : List (D × Option D) := (List.range n).map fun (i : Nat) => (.int (lo + (i : Int)), none)
def pzipI (x y : D) : Option (List (D × Option D)) := match x, y with
  | .str s, .str t => if s.length = t.length then some (((s.cps.toList.map fun c => D.str ⟨#[c]⟩).zip (t.cps.toList.map fun c => D.str ⟨#[c]⟩)).map fun z => (z.1, some z.2)) else none
  | .lst xs, .lst ys => if xs.length = ys.length then some ((xs.zip ys).map fun z => (z.1, some z.2)) else none
  | _, _ => none
def ploopC (f : D × Option D → PS → PV (Option D)) : List (D × Option D) → PS → PV (List D)
  | [], ρ => pret [] ρ
  | x :: r, ρ => pbN (f x ρ) fun o ρ1 => pbN (ploopC f r ρ1) fun ds ρ2 => pret (o.toList ++ ds) ρ2
def pturn (tg : MT) (ws : List Nat) (c : PS → PV D) (e : PS → PV D) (x : D × Option D) (ρ : PS) : PV (Option D) :=
  if tgIn ws tg && pfree ws ρ then (match pasgX tg x (pwipe ρ ws) with
    | some τ => pbN (c τ) fun k τ3 => (match k with
      | .bl true => pbN (e τ3) fun v τ4 => pret (some v) (prest ρ τ4 ws)
      | .bl false => pret none (prest ρ τ3 ws)
      | _ => none)
    | none => none) else none
def hdV : MA → Option Nat
  | .cons (.var j) _ => some j
  | _ => none
mutual
def pE (Γ : PG) (cur : Option (Nat × Nat × D)) (t : Bool) : ME → PS → PV D
  | .var i, ρ => if t then po true (pslot i ρ) ρ else pvar i ρ
  | .glb g, ρ => po t (Γ.glob g) ρ
  | .cst v, ρ => po t (dOf v) ρ
  | .lst es, ρ => pb (pA Γ cur es ρ) fun ds ρ1 => if ds.length ≤ sizeLine then pfin t (.lst ds) ρ1 else none
  | .tup es, ρ => pb (pA Γ cur es ρ) fun ds ρ1 => if ds.length ≤ sizeLine then pfin t (.tup ds false) ρ1 else none
  | .bin op a b, ρ => pb (pfst a ρ (pE Γ cur false a ρ) fun ρ1 => pk b ρ1 (pE Γ cur false b ρ1)) fun z ρ2 => po t (pbin op z.1 z.2) ρ2
  | .neg a, ρ => pb (pE Γ cur false a ρ) fun x ρ1 => match x with
    | .int i => pfin t (.int (-i)) ρ1
    | _ => none
  | .cmp op a b, ρ => pb (pfst a ρ (pE Γ cur false a ρ) fun ρ1 => pk b ρ1 (pE Γ cur false b ρ1)) fun z ρ2 => po t ((pcmp op z.1 z.2).map .bl) ρ2
  | .cmp2 op op' a b c, ρ => pb (pE Γ cur false a ρ) fun x ρ1 => pb (pE Γ cur false b ρ1) fun y ρ2 => match pcmp op x y with
    | some true => pb (pE Γ cur false c ρ2) fun w ρ3 => po t ((pcmp op' y w).map .bl) ρ3
    | some false => pret (.bl false) ρ2
    | none => none
  | .andE a b, ρ => pb (pE Γ cur t a ρ) fun x ρ1 => match x with
    | .bl true => pE Γ cur t b ρ1
    | .bl false => pret (.bl false) ρ1
    | _ => none
  | .orE a b, ρ => pb (pE Γ cur t a ρ) fun x ρ1 => match x with
    | .bl false => pE Γ cur t b ρ1
    | .bl true => pret (.bl true) ρ1
    | _ => none
  | .notE a, ρ => pb (pE Γ cur t a ρ) fun x ρ1 => match x with
    | .bl b => pret (.bl (!b)) ρ1
    | _ => none
  | .ife c a b, ρ => pb (pE Γ cur true c ρ) fun k ρ1 => match k with
    | .bl true => pb (pE Γ cur false a ρ1) (pfin t)
    | .bl false => pb (pE Γ cur false b ρ1) (pfin t)
    | _ => none
  | .ix a b, ρ => pb (pfst a ρ (pE Γ cur false a ρ) fun ρ1 => pk b ρ1 (pE Γ cur false b ρ1)) fun z ρ2 => po t (pix z.1 z.2) ρ2
  | .sl a lo hi, ρ => pb (pfst a ρ (pE Γ cur false a ρ) fun ρ1 => pb (pO Γ cur lo ρ1) fun l ρ2 => pb (pO Γ cur hi ρ2) fun r ρ3 => pret (l, r) ρ3) fun z ρ2 => po t (psl z.1 z.2.1 z.2.2) ρ2
  | .att a f, ρ => pb (pk a ρ (pE Γ cur false a ρ)) fun x ρ1 => match x with
    | .ins C fs => (match plook f fs with
      | some d => if Γ.G.isF C f then pfin t d ρ1 else none
      | none => (match Γ.G.prop C f, pshr a ρ1 with
        | some g, some ρ2 => pbN (pcall Γ g [x] ρ2) (pfin t)
        | _, _ => none))
    | .cls C => po t ((Γ.G.con C f).bind dOf) ρ1
    | .exo C g v => if f = g ∧ Γ.G.exf C = some f then pfin t v ρ1 else none
    | _ => none
  | .call f es, ρ => if Γ.io f then (match hdV es with
      | some j => (match pslot j ρ with
        | some _ => pb (pAt Γ cur es ρ) fun ds ρ1 => pb (pioc Γ f j ds ρ1) (pfin t)
        | none => none)
      | none => none)
    else pb (pA Γ cur es ρ) fun ds ρ1 => pb (pcall Γ f ds ρ1) (pfin t)
  | .make C es, ρ => pb (pA Γ cur es ρ) fun ds ρ1 => pb (pmake Γ C ds ρ1) (pfin t)
  | .met o m es, ρ => pb (pk o ρ (pE Γ cur false o ρ)) fun x ρ1 => match x with
    | .ins C fs => (match plook m fs, Γ.G.meth C m with
      | none, some f => if Γ.io f then (match o with
          | .var j => pb (pA Γ cur es ρ1) fun ds ρ2 => pb (pioc Γ f j ds ρ2) (pfin t)
          | _ => none)
        else (match pshr o ρ1 with
          | some ρ2 => pb (pA Γ cur es ρ2) fun ds ρ3 => pb (pcall Γ f (x :: ds) ρ3) (pfin t)
          | none => none)
      | _, _ => none)
    | _ => none
  | .clm C m es, ρ => match Γ.G.cmeth C m, Γ.G.clsAt C with
    | some (f, true), some _ => pb (pA Γ cur es ρ) fun ds ρ1 => pb (pcall Γ f (.cls C :: ds) ρ1) (pfin t)
    | some (f, false), _ => pb (pA Γ cur es ρ) fun ds ρ1 => pb (pcall Γ f ds ρ1) (pfin t)
    | _, _ => none
  | .callv i es, ρ => pb (pvar i ρ) fun x ρ1 => match x with
    | .cls C => if (Γ.G.init C).isSome then pb (pA Γ cur es ρ1) fun ds ρ2 => pb (pmake Γ C ds ρ2) (pfin t) else none
    | .ins C _ => (match Γ.G.callm C with
      | some f => pb (pA Γ cur es ρ1) fun ds ρ2 => pb (pcall Γ f (x :: ds) ρ2) (pfin t)
      | none => none)
    | _ => none
  | .bi b es, ρ => pb (pAk Γ cur es ρ) fun ds ρ1 => po t (pbif b ds) ρ1
  | .bm m o es, ρ => if isMutM m then (match o with
      | .var j => (match pslot j ρ with
        | some (.lst _) => pb (pA Γ cur es ρ) fun ds ρ1 => (match ρ1[j]? with
          | some (some (.sh, _)) => none
          | some (some (md, .lst xs)) => (match pmut m xs ds with
            | some (d, ys) => pfin t d (ρ1.set j (some (md, .lst ys)))
            | none => none)
          | _ => none)
        | _ => none)
      | _ => none)
    else pb (pE Γ cur false o ρ) fun x ρ1 => if pbmTy m x then pb (pAk Γ cur es ρ1) fun ds ρ2 => po t (pbm m x ds) ρ2 else none
  | .isI a ty, ρ => pb (pk a ρ (pE Γ cur false a ρ)) fun x ρ1 => match pty x with
    | some (.b u) => pret (.bl ([ty].any (isTy Γ.G (.b u)))) ρ1
    | _ => none
  | .isIs a ts, ρ => pb (pk a ρ (pE Γ cur false a ρ)) fun x ρ1 => match pty x with
    | some (.b u) => pret (.bl (ts.any (isTy Γ.G (.b u)))) ρ1
    | _ => none
  | .lc ws elt tg it c, ρ => pb (pI Γ cur it ρ) fun is ρ1 => pbN (ploopC (pturn tg ws (pCn Γ c) (pE Γ none false elt)) is ρ1) fun ds ρ2 => if ds.length ≤ sizeLine then pfin t (.lst ds) ρ2 else none
  | .curF f, ρ => match cur with
    | some (C, g, v) => if f = g ∧ Γ.G.exf C = some f then pfin t v ρ else none
    | none => none
  | .curI E, ρ => match cur with
    | some (C, _, _) => if (Γ.G.exf C).isSome then pret (.bl (Γ.G.sub C E)) ρ else none
    | none => none
  | .curB E, ρ => match cur with
    | some (C, _, _) => if (Γ.G.exf C).isSome then pret (.bl (Γ.G.subB C E)) ρ else none
    | none => none
  | .dct kvs, ρ => po t ((pdct (L2.mergeK [] kvs)).map .dic) ρ
  | .dn d a b, ρ => pb (pE Γ cur false a ρ) fun x ρ1 => pb (pE Γ cur false b ρ1) fun y ρ2 => pb (pdn Γ d x y ρ2) (pfin t)
  | .dn1 d a, ρ => pb (pE Γ cur false a ρ) fun x ρ1 => pb (pdn1 Γ d x ρ1) (pfin t)
  | .con C f, ρ => po t ((Γ.G.con C f).bind dOf) ρ
  | .lzip a b, ρ => pb (pE Γ cur false a ρ) fun x ρ1 => pb (pE Γ cur false b ρ1) fun y ρ2 => po t (plzip x y) ρ2
  | .slr a, ρ => pb (pk a ρ (pE Γ cur false a ρ)) fun x ρ1 => po t ((plst x).map fun xs => .lst xs.reverse) ρ1
  | .fs es, ρ => pb (pA Γ cur es ρ) fun ds ρ1 => po t (pfs ds) ρ1
  | .isC a C, ρ => pb (pk a ρ (pE Γ cur false a ρ)) fun x ρ1 => match pisC Γ.G C x with
    | some b => pret (.bl b) ρ1
    | none => none
  | .dix a b, ρ => pb (pfst a ρ (pE Γ cur false a ρ) fun ρ1 => pk b ρ1 (pE Γ cur false b ρ1)) fun z ρ2 => po t (pdix z.1 z.2) ρ2
  | .mkx C e, ρ => pb (pE Γ cur false e ρ) fun x ρ1 => match Γ.G.exf C with
    | some f => pfin t (.exo C f x) ρ1
    | none => none
  | .isE a E, ρ => pb (pk a ρ (pE Γ cur false a ρ)) fun x ρ1 => match x with
    | .exo C _ _ => if (Γ.G.exf C).isSome then pret (.bl (Γ.G.sub C E)) ρ1 else none
    | _ => none
  | .isX a b, ρ => pb (pk a ρ (pE Γ cur false a ρ)) fun x ρ1 => match x with
    | .exo C _ _ => if (Γ.G.exf C).isSome then pret (.bl (Γ.G.subB C b)) ρ1 else none
    | _ => none
  | .inK a b, ρ => pb (pE Γ cur false a ρ) fun x ρ1 => pb (pk b ρ1 (pE Γ cur false b ρ1)) fun y ρ2 => match pinK x y with
    | some k => pret (.bl k) ρ2
    | none => none
def pA (Γ : PG) (cur : Option (Nat × Nat × D)) : MA → PS → PV (List D)
  | .nil, ρ => pret [] ρ
  | .cons e r, ρ => pb (pE Γ cur false e ρ) fun d ρ1 => pb (pA Γ cur r ρ1) fun ds ρ2 => pret (d :: ds) ρ2
/-- the arguments behind the first -/
def pAt (Γ : PG) (cur : Option (Nat × Nat × D)) : MA → PS → PV (List D)
  | .nil, ρ => none
  | .cons e r, ρ => pA Γ cur r ρ
/-- the last argument is only read -/
def pAk (Γ : PG) (cur : Option (Nat × Nat × D)) : MA → PS → PV (List D)
  | .nil, ρ => pret [] ρ
  | .cons e .nil, ρ => pb (pk e ρ (pE Γ cur false e ρ)) fun d ρ1 => pret [d] ρ1
  | .cons e r, ρ => pb (pE Γ cur false e ρ) fun d ρ1 => pb (pAk Γ cur r ρ1) fun ds ρ2 => pret (d :: ds) ρ2
def pO (Γ : PG) (cur : Option (Nat × Nat × D)) : MO → PS → PV (Option Int)
  | .none, ρ => pret none ρ
  | .some e, ρ => pb (pE Γ cur false e ρ) fun x ρ1 => match x with
    | .int i => pret (some i) ρ1
    | _ => none
def pCn (Γ : PG) : MO → PS → PV D
  | .none, ρ => pret (.bl true) ρ
  | .some e, ρ => pE Γ none true e ρ
def pI (Γ : PG) (cur : Option (Nat × Nat × D)) : MI → PS → PV (List (D × Option D))
  | .ev e, ρ => pb (pE Γ cur false e ρ) fun x ρ1 => match pits x with
    | some is => pret is ρ1
    | none => none
  | .rng1 a, ρ => pb (pE Γ cur false a ρ) fun x ρ1 => match x with
    | .int j => if -(2 ^ 62) ≤ j ∧ j < 2 ^ 62 then pret (prng 0 j.toNat) ρ1 else none
    | _ => none
  | .rng2 a b, ρ => pb (pE Γ cur false a ρ) fun x ρ1 => pb (pE Γ cur false b ρ1) fun y ρ2 => match x, y with
    | .int i, .int j => if (-(2 ^ 62) ≤ i ∧ i < 2 ^ 62) ∧ (-(2 ^ 62) ≤ j ∧ j < 2 ^ 62) then pret (prng i (j - i).toNat) ρ2 else none
    | _, _ => none
  | .enum e, ρ => pb (pE Γ cur false e ρ) fun x ρ1 => match plst x with
    | some xs => pret (penum 0 xs) ρ1
    | none => none
  | .zip a b, ρ => pb (pE Γ cur false a ρ) fun x ρ1 => pb (pE Γ cur false b ρ1) fun y ρ2 => match pzipI x y with
    | some is => pret is ρ2
    | none => none
  | .keys e, ρ => pb (pE Γ cur false e ρ) fun x ρ1 => match x with
    | .dic kvs => pret (kvs.map fun p => (keyD p.1, none)) ρ1
    | _ => none
  | .items _, _ => none
  | .vals _, _ => none
end
/-- what is made anew by the expression itself -/
def frE : ME → Bool
  | .lst _ | .bin _ _ _ | .sl _ _ _ | .make _ _ | .bi _ _ | .lc _ _ _ _ _ | .dct _ | .lzip _ _ | .slr _ => true
  | _ => false

/-! ### statements -/
inductive PF | nx (ρ : PS) | rt (d : D) (ρ : PS) | bk (ρ : PS) | ct (ρ : PS) | ex (C f : Nat) (v : D) (ρ : PS)
abbrev PR := Option PF
def pbE {α : Type} : PV α → (α → PS → PR) → PR
  | some (.val a ρ), k => k a ρ
  | some (.exn C f v ρ), _ => some (.ex C f v ρ)
  | none, _ => none
def pbS : PR → (PS → PR) → PR
  | some (.nx ρ), k => k ρ
  | r, _ => r
def pnx (o : Option PS) : PR := o.map .nx
def ploopW (c : PS → PV D) (b : PS → PR) : Nat → PS → PR
  | 0, _ => none
  | n + 1, ρ => pbE (c ρ) fun k ρ1 => match k with
    | .bl true => (match b ρ1 with
      | some (.nx ρ2) => ploopW c b n ρ2
      | some (.ct ρ2) => ploopW c b n ρ2
      | some (.bk ρ2) => some (.nx ρ2)
      | r => r)
    | .bl false => some (.nx ρ1)
    | _ => none
def ploopF (tg : MT) (b : PS → PR) : List (D × Option D) → PS → PR
  | [], ρ => some (.nx ρ)
  | x :: r, ρ => match pasgX tg x ρ with
    | some ρ1 => (match b ρ1 with
      | some (.nx ρ2) => ploopF tg b r ρ2
      | some (.ct ρ2) => ploopF tg b r ρ2
      | some (.bk ρ2) => some (.nx ρ2)
      | r => r)
    | none => none
def porX : PR → (Nat → Nat → D → PS → PR) → PR
  | some (.ex C f v ρ), k => k C f v ρ
  | r, _ => r
def punN (i : Nat) : PR → PR
  | some (.nx ρ) => if notIo ρ i then some (.nx (ρ.set i none)) else none
  | some (.bk ρ) => if notIo ρ i then some (.bk (ρ.set i none)) else none
  | some (.ct ρ) => if notIo ρ i then some (.ct (ρ.set i none)) else none
  | some (.rt d ρ) => some (.rt d ρ)
  | _ => none
def psetA (Γ : PG) (i f : Nat) (v : D) (ρ : PS) : PR := match ρ[i]? with
  | some (some (.sh, _)) => none
  | some (some (m, .ins C fs)) => if fs.length < 1000 ∧ Γ.G.isF C f = true then some (.nx (ρ.set i (some (m, .ins C (pput f v fs))))) else none
  | _ => none
def psetS (i : Nat) (k v : D) (ρ : PS) : PR := match k, ρ[i]? with
  | _, some (some (.sh, _)) => none
  | .int j, some (some (m, .lst xs)) => (match L2.ixN xs.length j with
    | some j => some (.nx (ρ.set i (some (m, .lst (xs.set j v)))))
    | none => none)
  | _, _ => none
def psetAll : List Nat → List D → PS → Option PS
  | [], [], ρ => some ρ
  | w :: ws, d :: ds, ρ => if notIo ρ w then psetAll ws ds (ρ.set w (some (.sh, d))) else none
  | _, _, _ => none
def punp (ws : List Nat) (d : D) (ρ : PS) : PR := match d with
  | .str s => if s.length ≤ sizeLine then pnx (psetAll ws (s.cps.toList.map fun c => D.str ⟨#[c]⟩) ρ) else none
  | _ => none
mutual
def pS (Γ : PG) (N : Nat) (cur : Option (Nat × Nat × D)) : MS → PS → PR
  | .asg tg e, ρ => pbE (pE Γ cur false e ρ) fun d ρ1 => pnx (pasg tg (if frE e && mutD d then .ow else .sh) d ρ1)
  | .par tg es, ρ => pbE (pA Γ cur es ρ) fun ds ρ1 => match tg with
    | .tup ts => pnx (pasgs ts ds ρ1)
    | _ => none
  | .asgA o f e, ρ => match o with
    | .var i => pbE (pE Γ cur false e ρ) fun d ρ1 => psetA Γ i f d ρ1
    | _ => none
  | .asgS o k e, ρ => match o with
    | .var i => pbE (pE Γ cur false e ρ) fun d ρ1 => (match pslot i ρ1 with
      | some _ => pbE (pE Γ cur false k ρ1) fun j ρ2 => psetS i j d ρ2
      | none => none)
    | _ => none
  | .aug op i e, ρ => match ρ[i]? with
    | some (some (.sh, x)) => pbE (pE Γ cur false e ρ) fun d ρ1 => (match pinpl op x d with
      | some z => if notIo ρ1 i then some (.nx (ρ1.set i (some (.sh, z)))) else none
      | none => none)
    | _ => none
  | .augA _ _ _ _, _ => none
  | .ex e, ρ => pbE (pE Γ cur false e ρ) fun _ ρ1 => some (.nx ρ1)
  | .ret e, ρ => pbE (pE Γ cur false e ρ) fun d ρ1 => some (.rt d ρ1)
  | .retN, ρ => some (.rt .non ρ)
  | .ifS c a b, ρ => pbE (pE Γ cur true c ρ) fun k ρ1 => match k with
    | .bl true => pB Γ N cur a ρ1
    | .bl false => pB Γ N cur b ρ1
    | _ => none
  | .whl c b, ρ => ploopW (pE Γ cur true c) (pB Γ N cur b) N ρ
  | .forS tg it b, ρ => pbE (pI Γ cur it ρ) fun is ρ1 => ploopF tg (pB Γ N cur b) is ρ1
  | .rais C e, ρ => pbE (pE Γ cur false e ρ) fun d ρ1 => match Γ.G.exf C with
    | some f => some (.ex C f d ρ1)
    | none => none
  | .tryS b hs, ρ => porX (pB Γ N cur b ρ) fun C f v ρ1 => pH Γ N C f v hs ρ1
  | .pss, ρ => some (.nx ρ)
  | .brk, ρ => some (.bk ρ)
  | .cnt, ρ => some (.ct ρ)
  | .fail, _ => none
  | .unpS ws e, ρ => pbE (pE Γ cur false e ρ) fun d ρ1 => punp ws d ρ1
def pB (Γ : PG) (N : Nat) (cur : Option (Nat × Nat × D)) : MB → PS → PR
  | .nil, ρ => some (.nx ρ)
  | .cons s r, ρ => pbS (pS Γ N cur s ρ) fun ρ1 => pB Γ N cur r ρ1
def pH (Γ : PG) (N : Nat) (C f : Nat) (v : D) : MH → PS → PR
  | .nil, ρ => some (.ex C f v ρ)
  | .cons E nm b r, ρ => if (Γ.G.exf C).isSome then (if Γ.G.sub C E then (match nm with
      | none => pB Γ N (some (C, f, v)) b ρ
      | some i => if i < ρ.length ∧ notIo ρ i = true then punN i (pB Γ N (some (C, f, v)) b (ρ.set i none)) else none) else pH Γ N C f v r ρ) else none
end
/-- a call's end; io: the first argument was lent -/
def pio (io : Bool) (ρ : PS) : Option (Option D) := if io then (match ρ[0]? with
  | some (some (Md.io, d)) => some (some d)
  | _ => none) else some none
def pretOf (io : Bool) : PR → Option PC
  | some (.rt d ρ) => (pio io ρ).map (.val d)
  | some (.nx ρ) => (pio io ρ).map (.val .non)
  | some (.ex C f v ρ) => (pio io ρ).map (.exn C f v)
  | _ => none
def pargs (io : Bool) : List D → List (Option (Md × D))
  | [] => []
  | d :: r => some ((if io then Md.io else Md.sh), d) :: r.map fun d => some (Md.sh, d)
def callP (G : (Nat → List D → Option PC) → PG) (io : Nat → Bool) (T : Nat → Option FD) (N : Nat) : Nat → Nat → List D → Option PC
  | 0, _, _ => none
  | k + 1, f, ds => match T f with
    | some d => if ds.length = d.np then pretOf (io f) (pB (G (callP G io T N k)) N none d.body (pargs (io f) ds ++ List.replicate (d.ns - d.np) none)) else none
    | none => none
end MQ
end
section
set_option Elab.async false
set_option linter.all false
set_option maxHeartbeats 1000000
/-! trees and the heap -/
namespace MQ
open PySem MP
open L2 (V St Hp Key)
mutual
inductive Rep (h : IH) (S : Nat → Prop) : D → V → Prop
  | non : Rep h S .non .non
  | bl {b : Bool} : Rep h S (.bl b) (.bl b)
  | int {i : Int} : Rep h S (.int i) (.int i)
  | str {s : Str} : Rep h S (.str s) (.str s)
  | ref {a : Nat} {o : MP.IO} {d : D} : h[a]? = some o → ¬ S a → ObjR h S o d → Rep h S d (.ref a)
inductive ObjR (h : IH) (S : Nat → Prop) : MP.IO → D → Prop
  | lst {xs : List D} {ys : List V} : Reps h S xs ys → ObjR h S (.lst ys) (.lst xs)
  | flst {xs : List D} {ys : List V} : Reps h S xs ys → ObjR h S (.flst ys) (.flst xs)
  | tup {xs : List D} {ys : List V} {k : Bool} : Reps h S xs ys → ObjR h S (.tup ys k) (.tup xs k)
  | dic {xs : List (Key × D)} {ys : List (Key × V)} : RepK h S xs ys → ObjR h S (.dic ys) (.dic xs)
  | ins {C : Nat} {xs : List (Nat × D)} {ys : List (Nat × V)} : RepF h S xs ys → ObjR h S (.ins C ys) (.ins C xs)
  | cls {C : Nat} : ObjR h S (.cls C) (.cls C)
  | exo {C d f : Nat} {w : D} {v : V} : h[d]? = some (.xd f v) → ¬ S d → Rep h S w v → ObjR h S (.exo C d) (.exo C f w)
inductive Reps (h : IH) (S : Nat → Prop) : List D → List V → Prop
  | nil : Reps h S [] []
  | cons {d : D} {v : V} {ds : List D} {vs : List V} : Rep h S d v → Reps h S ds vs → Reps h S (d :: ds) (v :: vs)
inductive RepF (h : IH) (S : Nat → Prop) : List (Nat × D) → List (Nat × V) → Prop
  | nil : RepF h S [] []
  | cons {g : Nat} {d : D} {v : V} {ds : List (Nat × D)} {vs : List (Nat × V)} : Rep h S d v → RepF h S ds vs → RepF h S ((g, d) :: ds) ((g, v) :: vs)
inductive RepK (h : IH) (S : Nat → Prop) : List (Key × D) → List (Key × V) → Prop
  | nil : RepK h S [] []
  | cons {g : Key} {d : D} {v : V} {ds : List (Key × D)} {vs : List (Key × V)} : Rep h S d v → RepK h S ds vs → RepK h S ((g, d) :: ds) ((g, v) :: vs)
end
section
variable {h h' : IH} {S S' : Nat → Prop}
mutual
theorem Rep.mono (k : ∀ a o, h[a]? = some o → ¬ S a → h'[a]? = some o ∧ ¬ S' a) : ∀ {d : D} {v : V}, Rep h S d v → Rep h' S' d v
  | _, _, .non => .non
  | _, _, .bl => .bl
  | _, _, .int => .int
  | _, _, .str => .str
  | _, _, .ref e n o => .ref (k _ _ e n).1 (k _ _ e n).2 (ObjR.mono k o)
theorem ObjR.mono (k : ∀ a o, h[a]? = some o → ¬ S a → h'[a]? = some o ∧ ¬ S' a) : ∀ {o : MP.IO} {d : D}, ObjR h S o d → ObjR h' S' o d
  | _, _, .lst r => .lst (Reps.mono k r)
  | _, _, .flst r => .flst (Reps.mono k r)
  | _, _, .tup r => .tup (Reps.mono k r)
  | _, _, .dic r => .dic (RepK.mono k r)
  | _, _, .ins r => .ins (RepF.mono k r)
  | _, _, .cls => .cls
  | _, _, .exo e n r => .exo (k _ _ e n).1 (k _ _ e n).2 (Rep.mono k r)
theorem Reps.mono (k : ∀ a o, h[a]? = some o → ¬ S a → h'[a]? = some o ∧ ¬ S' a) : ∀ {d : List D} {v : List V}, Reps h S d v → Reps h' S' d v
  | _, _, .nil => .nil
  | _, _, .cons a b => .cons (Rep.mono k a) (Reps.mono k b)
theorem RepF.mono (k : ∀ a o, h[a]? = some o → ¬ S a → h'[a]? = some o ∧ ¬ S' a) : ∀ {d : List (Nat × D)} {v : List (Nat × V)}, RepF h S d v → RepF h' S' d v
  | _, _, .nil => .nil
  | _, _, .cons a b => .cons (Rep.mono k a) (RepF.mono k b)
theorem RepK.mono (k : ∀ a o, h[a]? = some o → ¬ S a → h'[a]? = some o ∧ ¬ S' a) : ∀ {d : List (Key × D)} {v : List (Key × V)}, RepK h S d v → RepK h' S' d v
  | _, _, .nil => .nil
  | _, _, .cons a b => .cons (Rep.mono k a) (RepK.mono k b)
end
theorem Reps.length : ∀ {d : List D} {v : List V}, Reps h S d v → v.length = d.length
  | _, _, .nil => rfl
  | _, _, .cons _ b => by simp [Reps.length b]
theorem Reps.app : ∀ {d e : List D} {v w : List V}, Reps h S d v → Reps h S e w → Reps h S (d ++ e) (v ++ w)
  | _, _, _, _, .nil, q => q
  | _, _, _, _, .cons a b, q => .cons a (Reps.app b q)
theorem Reps.get : ∀ {d : List D} {v : List V} {i : Nat} {x : D}, Reps h S d v → d[i]? = some x → ∃ y, v[i]? = some y ∧ Rep h S x y
  | _, _, _, _, .nil, e => by simp at e
  | _, _, 0, _, .cons a b, e => by simp at e; subst e; exact ⟨_, rfl, a⟩
  | _, _, i + 1, _, .cons a b, e => by
    simp at e
    obtain ⟨y, e1, e2⟩ := Reps.get b e
    exact ⟨y, by simpa using e1, e2⟩
theorem Reps.drop : ∀ {d : List D} {v : List V} (n : Nat), Reps h S d v → Reps h S (d.drop n) (v.drop n)
  | _, _, 0, q => q
  | _, _, n + 1, .nil => .nil
  | _, _, n + 1, .cons a b => Reps.drop n b
theorem Reps.take : ∀ {d : List D} {v : List V} (n : Nat), Reps h S d v → Reps h S (d.take n) (v.take n)
  | _, _, 0, q => by simp; exact .nil
  | _, _, n + 1, .nil => .nil
  | _, _, n + 1, .cons a b => .cons a (Reps.take n b)
theorem Reps.set : ∀ {d : List D} {v : List V} {x : D} {y : V} (n : Nat), Reps h S d v → Rep h S x y → Reps h S (d.set n x) (v.set n y)
  | _, _, _, _, _, .nil, _ => .nil
  | _, _, _, _, 0, .cons a b, q => .cons q b
  | _, _, _, _, n + 1, .cons a b, q => .cons a (Reps.set n b q)
theorem Reps.rev : ∀ {d : List D} {v : List V}, Reps h S d v → Reps h S d.reverse v.reverse
  | _, _, .nil => .nil
  | _, _, .cons a b => by
    rw [List.reverse_cons, List.reverse_cons]
    exact Reps.app (Reps.rev b) (.cons a .nil)
theorem Reps.dropLast {d : List D} {v : List V} (q : Reps h S d v) : Reps h S d.dropLast v.dropLast := by
  rw [List.dropLast_eq_take, List.dropLast_eq_take, q.length]
  exact q.take _
theorem Reps.rep {d : List D} {v : List V} (q : Reps h S d v) : ∀ n : Nat, Reps h S (List.replicate n d).flatten (List.replicate n v).flatten
  | 0 => .nil
  | n + 1 => by
    rw [List.replicate_succ, List.replicate_succ, List.flatten_cons, List.flatten_cons]
    exact q.app (Reps.rep q n)
theorem Reps.map {α : Type} {f : α → D} {g : α → V} : ∀ {l : List α}, (∀ x ∈ l, Rep h S (f x) (g x)) → Reps h S (l.map f) (l.map g)
  | [], _ => .nil
  | x :: r, q => .cons (q x List.mem_cons_self) (Reps.map fun y hy => q y (List.mem_cons_of_mem _ hy))
theorem RepF.length : ∀ {d : List (Nat × D)} {v : List (Nat × V)}, RepF h S d v → v.length = d.length
  | _, _, .nil => rfl
  | _, _, .cons _ b => by simp [RepF.length b]
theorem RepF.look {f : Nat} : ∀ {d : List (Nat × D)} {v : List (Nat × V)}, RepF h S d v → (plook f d = none → lookF f v = none) ∧ (∀ x, plook f d = some x → ∃ y, lookF f v = some y ∧ Rep h S x y)
  | _, _, .nil => by simp [plook, lookF]
  | _, _, .cons (g := g) a b => by
    unfold plook lookF
    by_cases e : f = g
    · rw [if_pos e, if_pos e]
      exact ⟨fun z => (nomatch z), fun x z => ⟨_, rfl, (Option.some.inj z) ▸ a⟩⟩
    · rw [if_neg e, if_neg e]
      exact RepF.look b
theorem RepF.put {f : Nat} {x : D} {y : V} (q : Rep h S x y) : ∀ {d : List (Nat × D)} {v : List (Nat × V)}, RepF h S d v → RepF h S (pput f x d) (putI f y v)
  | _, _, .nil => .cons q .nil
  | _, _, .cons (g := g) a b => by
    unfold pput putI
    by_cases e : g = f
    · rw [if_pos e, if_pos e]; exact .cons q b
    · rw [if_neg e, if_neg e]; exact .cons a (RepF.put q b)
theorem RepK.length : ∀ {d : List (Key × D)} {v : List (Key × V)}, RepK h S d v → v.length = d.length
  | _, _, .nil => rfl
  | _, _, .cons _ b => by simp [RepK.length b]
theorem RepK.find {k : Key} : ∀ {d : List (Key × D)} {v : List (Key × V)} {p : Key × D}, RepK h S d v → d.find? (fun p => decide (p.1 = k)) = some p → ∃ q, v.find? (fun p => decide (p.1 = k)) = some q ∧ Rep h S p.2 q.2
  | _, _, _, .nil, e => by cases e
  | _, _, p, .cons (g := g) (d := d) (v := v) a b, e => by
    rw [List.find?_cons] at e ⊢
    by_cases hg : g = k
    · simp only [hg, decide_true] at e ⊢
      cases e
      exact ⟨_, rfl, a⟩
    · simp only [hg, decide_false] at e ⊢
      exact RepK.find b e
theorem RepK.any {k : Key} : ∀ {d : List (Key × D)} {v : List (Key × V)}, RepK h S d v → v.any (fun p => decide (p.1 = k)) = d.any (fun p => decide (p.1 = k))
  | _, _, .nil => rfl
  | _, _, .cons a b => by simp only [List.any_cons, RepK.any b]
theorem RepK.keys : ∀ {d : List (Key × D)} {v : List (Key × V)}, RepK h S d v → v.map (·.1) = d.map (·.1)
  | _, _, .nil => rfl
  | _, _, .cons a b => by simp only [List.map_cons, RepK.keys b]
/-- read, owned or not -/
inductive Pk (h : IH) (S : Nat → Prop) : D → V → Prop
  | non : Pk h S .non .non
  | bl {b : Bool} : Pk h S (.bl b) (.bl b)
  | int {i : Int} : Pk h S (.int i) (.int i)
  | str {s : Str} : Pk h S (.str s) (.str s)
  | ref {a : Nat} {o : MP.IO} {d : D} : h[a]? = some o → (mutb o = false → ¬ S a) → ObjR h S o d → Pk h S d (.ref a)
theorem Rep.pk {d : D} {v : V} (r : Rep h S d v) : Pk h S d v := by
  cases r with
  | non => exact .non
  | bl => exact .bl
  | int => exact .int
  | str => exact .str
  | ref e n o => exact .ref e (fun _ => n) o
def OwnO (h : IH) (S : Nat → Prop) (a : Nat) (d : D) : Prop := ∃ o, h[a]? = some o ∧ mutb o = true ∧ ObjR h S o d
theorem OwnO.pk {a : Nat} {d : D} (q : OwnO h S a d) : Pk h S d (.ref a) := by
  obtain ⟨o, e, m, r⟩ := q
  exact .ref e (fun z => by rw [m] at z; cases z) r
theorem ObjR.mut {o : MP.IO} {d : D} (r : ObjR h S o d) : mutb o = mutD d := by cases r <;> rfl
/-! ### what is read alike -/
theorem Pk.truth {d : D} {v : V} (r : Pk h S d v) : truth h v = ptruth d := by
  cases r with
  | non => rfl
  | bl => rfl
  | int => rfl
  | str => rfl
  | ref e _ o =>
    unfold MP.truth
    simp only [e]
    cases o with
    | lst q => cases q <;> rfl
    | flst q => cases q <;> rfl
    | tup q => cases q <;> rfl
    | dic q => cases q <;> rfl
    | ins q => rfl
    | cls => rfl
    | exo _ _ _ => rfl
mutual
theorem Rep.toD (n : Nat) : ∀ {d : D} {v : V}, Rep h S d v → toD h n v = toP n d
  | _, _, .non => by cases n <;> simp [MP.toD, toP]
  | _, _, .bl => by cases n <;> simp [MP.toD, toP]
  | _, _, .int => by cases n <;> simp [MP.toD, toP]
  | _, _, .str => by cases n <;> simp [MP.toD, toP]
  | _, _, .ref e _ o => ObjR.toD n o e
theorem ObjR.toD (n : Nat) : ∀ {o : MP.IO} {d : D} {a : Nat}, ObjR h S o d → h[a]? = some o → toD h n (.ref a) = toP n d
  | _, _, _, .lst q, e => by
    cases n with
    | zero => simp [MP.toD, toP]
    | succ n => simp [MP.toD, toP, e, Reps.toD n q]
  | _, _, _, .flst q, e => by
    cases n with
    | zero => simp [MP.toD, toP]
    | succ n => simp [MP.toD, toP, e, Reps.toD n q]
  | _, _, _, .tup q, e => by
    cases n with
    | zero => simp [MP.toD, toP]
    | succ n => simp [MP.toD, toP, e, Reps.toD n q]
  | _, _, _, .dic q, e => by cases n <;> simp [MP.toD, toP, e]
  | _, _, _, .ins q, e => by cases n <;> simp [MP.toD, toP, e]
  | _, _, _, .cls, e => by cases n <;> simp [MP.toD, toP, e]
  | _, _, _, .exo _ _ _, e => by cases n <;> simp [MP.toD, toP, e]
theorem Reps.toD (n : Nat) : ∀ {d : List D} {v : List V}, Reps h S d v → dataL (toD h n) v = toPs n d
  | _, _, .nil => by simp [dataL, toPs]
  | _, _, .cons (d := d) (ds := ds) a b => by
    simp only [dataL, toPs, Rep.toD n a, Reps.toD n b] <;> cases toP n d <;> cases toPs n ds <;> rfl
end
theorem Pk.toD (n : Nat) {d : D} {v : V} (r : Pk h S d v) : toD h n v = toP n d := by
  cases r with
  | non => exact Rep.toD (S := S) n .non
  | bl => exact Rep.toD (S := S) n .bl
  | int => exact Rep.toD (S := S) n .int
  | str => exact Rep.toD (S := S) n .str
  | ref e _ o => exact ObjR.toD n o e
theorem Pk.ty {d : D} {v : V} (r : Pk h S d v) : tyOf h v = pty d := by
  cases r with
  | non => rfl
  | bl => rfl
  | int => rfl
  | str => rfl
  | ref e _ o =>
    unfold tyOf
    simp only [e]
    cases o <;> rfl
theorem Pk.len {d : D} {v : V} (r : Pk h S d v) : lenOf v h = plen d := by
  cases r with
  | non => rfl
  | bl => rfl
  | int => rfl
  | str => rfl
  | ref e _ o =>
    unfold lenOf
    simp only [e]
    cases o with
    | lst q => simp [plen, q.length]
    | flst q => simp [plen, q.length]
    | tup q => simp [plen, q.length]
    | dic q => simp [plen, q.length]
    | ins q => rfl
    | cls => rfl
    | exo _ _ _ => rfl
theorem Pk.seq {d : D} {v : V} {xs : List D} (r : Pk h S d v) (e : pseq d = some xs) : ∃ ys, seqOf h v = some ys ∧ Reps h S xs ys := by
  cases r with
  | non => cases e
  | bl => cases e
  | int => cases e
  | str => cases e
  | ref e1 _ o =>
    unfold seqOf
    simp only [e1]
    cases o with
    | lst q => cases e; exact ⟨_, rfl, q⟩
    | flst q => cases e; exact ⟨_, rfl, q⟩
    | tup q => cases e; exact ⟨_, rfl, q⟩
    | dic q => cases e
    | ins q => cases e
    | cls => cases e
    | exo _ _ _ => cases e
theorem Pk.lst {d : D} {v : V} {xs : List D} (r : Pk h S d v) (e : plst d = some xs) : ∃ ys, lstOf h v = some ys ∧ Reps h S xs ys := by
  cases r with
  | non => cases e
  | bl => cases e
  | int => cases e
  | str => cases e
  | ref e1 _ o =>
    unfold lstOf
    simp only [e1]
    cases o with
    | lst q => cases e; exact ⟨_, rfl, q⟩
    | flst q => cases e; exact ⟨_, rfl, q⟩
    | tup q => cases e
    | dic q => cases e
    | ins q => cases e
    | cls => cases e
    | exo _ _ _ => cases e
theorem Reps.ints : ∀ {d : List D} {v : List V} {is : List Int}, Reps h S d v → pints d = some is → intsOf v = some is
  | _, _, _, .nil, e => e
  | _, _, is, .cons (ds := ds) a b, e => by
    cases a with
    | int =>
      unfold pints at e
      cases hd : pints ds with
      | none => rw [hd] at e; cases e
      | some js => rw [hd] at e; cases e; simp [intsOf, Reps.ints b hd]
    | ref _ _ o => cases o <;> simp [pints] at e
    | _ => simp [pints] at e
theorem Reps.bools : ∀ {d : List D} {v : List V} {is : List Bool}, Reps h S d v → pbools d = some is → boolsOf v = some is
  | _, _, _, .nil, e => e
  | _, _, is, .cons (ds := ds) a b, e => by
    cases a with
    | bl =>
      unfold pbools at e
      cases hd : pbools ds with
      | none => rw [hd] at e; cases e
      | some js => rw [hd] at e; cases e; simp [boolsOf, Reps.bools b hd]
    | ref _ _ o => cases o <;> simp [pbools] at e
    | _ => simp [pbools] at e
theorem Reps.strs : ∀ {d : List D} {v : List V} {is : List Str}, Reps h S d v → pstrs d = some is → strsOf v = some is
  | _, _, _, .nil, e => e
  | _, _, is, .cons (ds := ds) a b, e => by
    cases a with
    | str =>
      unfold pstrs at e
      cases hd : pstrs ds with
      | none => rw [hd] at e; cases e
      | some js => rw [hd] at e; cases e; simp [strsOf, Reps.strs b hd]
    | ref _ _ o => cases o <;> simp [pstrs] at e
    | _ => simp [pstrs] at e
theorem Pk.flat {d : D} {v w : V} (r : Pk h S d v) (e : vOf d = some w) : v = w ∧ L2.flatV w = true := by
  cases r with
  | non => cases e; exact ⟨rfl, rfl⟩
  | bl => cases e; exact ⟨rfl, rfl⟩
  | int => cases e; exact ⟨rfl, rfl⟩
  | str => cases e; exact ⟨rfl, rfl⟩
  | ref e1 _ o => cases o <;> cases e
theorem Reps.flat : ∀ {d : List D} {v w : List V}, Reps h S d v → vsOf d = some w → v = w ∧ w.all L2.flatV = true
  | _, _, _, .nil, e => by cases e; exact ⟨rfl, rfl⟩
  | _, _, w, .cons (d := d) (ds := ds) a b, e => by
    unfold vsOf at e
    split at e
    · rename_i v' vs' e1 e2
      cases e
      obtain ⟨rfl, f1⟩ := a.pk.flat e1
      obtain ⟨rfl, f2⟩ := Reps.flat b e2
      exact ⟨rfl, by simp [f1, f2]⟩
    · cases e
theorem dOf_rep {v : V} {d : D} (e : dOf v = some d) : Rep h S d v := by
  cases v with
  | non => cases e; exact .non
  | bl b => cases e; exact .bl
  | int i => cases e; exact .int
  | str s => cases e; exact .str
  | _ => cases e
end
end MQ
end
section
set_option Elab.async false
set_option linter.all false
set_option maxHeartbeats 2000000
/-! the operations on trees and those on the heap -/
namespace MQ
open PySem MP
open L2 (V St Hp Key)
section
variable {h : IH} {S : Nat → Prop}
/-- a value that stood there, or one thing laid behind what stands (and what it holds) -/
def Res (h : IH) (S : Nat → Prop) (fr : Bool) (r : EV V) (d : D) : Prop :=
  (∃ v, r = some (.val v h) ∧ Rep h S d v ∧ (fr = true → mutD d = false)) ∨ (∃ g o, r = some (.val (.ref (h ++ g).length) (h ++ g ++ [o])) ∧ ObjR (h ++ g) S o d)
theorem Res.val {fr : Bool} {r : EV V} {d : D} {v : V} (e : r = some (.val v h)) (q : Rep h S d v) (m : fr = true → mutD d = false) : Res h S fr r d := .inl ⟨v, e, q, m⟩
theorem Res.new {fr : Bool} {r : EV V} {d : D} {o : MP.IO} (e : r = some (.val (.ref h.length) (h ++ [o]))) (q : ObjR h S o d) : Res h S fr r d := .inr ⟨[], o, by simpa using e, by simpa using q⟩
theorem Pk.rep_im {d : D} {v : V} (r : Pk h S d v) (m : mutD d = false) : Rep h S d v := by
  cases r with
  | non => exact .non
  | bl => exact .bl
  | int => exact .int
  | str => exact .str
  | ref e n o => exact .ref e (n (by rw [o.mut, m])) o
theorem Pk.enon {v : V} (r : Pk h S .non v) : v = .non := by
  cases r with
  | ref e n o => cases o
  | non => rfl
theorem Pk.ebl {b : Bool} {v : V} (r : Pk h S (.bl b) v) : v = .bl b := by
  cases r with
  | ref e n o => cases o
  | bl => rfl
theorem Pk.eint {i : Int} {v : V} (r : Pk h S (.int i) v) : v = .int i := by
  cases r with
  | ref e n o => cases o
  | int => rfl
theorem Pk.estr {s : Str} {v : V} (r : Pk h S (.str s) v) : v = .str s := by
  cases r with
  | ref e n o => cases o
  | str => rfl
theorem Pk.elst {xs : List D} {v : V} (r : Pk h S (.lst xs) v) : ∃ a ys, v = .ref a ∧ h[a]? = some (.lst ys) ∧ Reps h S xs ys := by
  cases r with
  | ref e n o => cases o with
    | lst q => exact ⟨_, _, rfl, e, q⟩
theorem Pk.eflst {xs : List D} {v : V} (r : Pk h S (.flst xs) v) : ∃ a ys, v = .ref a ∧ h[a]? = some (.flst ys) ∧ Reps h S xs ys := by
  cases r with
  | ref e n o => cases o with
    | flst q => exact ⟨_, _, rfl, e, q⟩
theorem Pk.etup {xs : List D} {k : Bool} {v : V} (r : Pk h S (.tup xs k) v) : ∃ a ys, v = .ref a ∧ h[a]? = some (.tup ys k) ∧ Reps h S xs ys := by
  cases r with
  | ref e n o => cases o with
    | tup q => exact ⟨_, _, rfl, e, q⟩
theorem Pk.edic {xs : List (Key × D)} {v : V} (r : Pk h S (.dic xs) v) : ∃ a ys, v = .ref a ∧ h[a]? = some (.dic ys) ∧ RepK h S xs ys := by
  cases r with
  | ref e n o => cases o with
    | dic q => exact ⟨_, _, rfl, e, q⟩
theorem Pk.eins {C : Nat} {xs : List (Nat × D)} {v : V} (r : Pk h S (.ins C xs) v) : ∃ a ys, v = .ref a ∧ h[a]? = some (.ins C ys) ∧ RepF h S xs ys := by
  cases r with
  | ref e n o => cases o with
    | ins q => exact ⟨_, _, rfl, e, q⟩
theorem Pk.ecls {C : Nat} {v : V} (r : Pk h S (.cls C) v) : ∃ a, v = .ref a ∧ h[a]? = some (.cls C) := by
  cases r with
  | ref e n o => cases o with
    | cls => exact ⟨_, rfl, e⟩
theorem Pk.eexo {C f : Nat} {w : D} {v : V} (r : Pk h S (.exo C f w) v) : ∃ a d u, v = .ref a ∧ h[a]? = some (.exo C d) ∧ h[d]? = some (.xd f u) ∧ Rep h S w u := by
  cases r with
  | ref e n o => cases o with
    | exo e1 n1 r1 => exact ⟨_, _, _, rfl, e, e1, r1⟩
theorem isE {α β : Type} {xs : List α} {ys : List β} (e : ys.length = xs.length) : ys.isEmpty = xs.isEmpty := by
  cases xs <;> cases ys <;> simp_all
theorem binop_res {op : Operator} {x y d : D} {v w : V} (rx : Pk h S x v) (ry : Pk h S y w) (e : pbin op x y = some d) : Res h S true (binop op v w h) d := by
  unfold pbin at e
  split at e
  case h_1 => obtain rfl := rx.eint; obtain rfl := ry.eint; cases e; exact .val rfl .int fun _ => rfl
  case h_2 => obtain rfl := rx.eint; obtain rfl := ry.eint; cases e; exact .val rfl .int fun _ => rfl
  case h_3 => obtain rfl := rx.eint; obtain rfl := ry.eint; split at e <;> cases e; rename_i c; exact .val (by unfold binop; simp only [c, if_true]) .int fun _ => rfl
  case h_4 => obtain rfl := rx.eint; obtain rfl := ry.eint; split at e <;> cases e; rename_i c; exact .val (by unfold binop; simp only [c, if_true]) .int fun _ => rfl
  case h_5 => obtain rfl := rx.eint; obtain rfl := ry.eint; split at e <;> cases e; rename_i c; exact .val (by unfold binop; simp only [c, if_true]) .int fun _ => rfl
  case h_6 => obtain rfl := rx.eint; obtain rfl := ry.eint; split at e <;> cases e; rename_i c; exact .val (by unfold binop; simp only [c, and_self, if_true]) .int fun _ => rfl
  case h_7 => obtain rfl := rx.estr; obtain rfl := ry.estr; split at e <;> cases e; rename_i c; exact .val (by unfold binop; simp only [c, if_true]) .str fun _ => rfl
  case h_8 =>
    obtain ⟨a, xs, rfl, e1, q1⟩ := rx.elst
    obtain ⟨b, ys, rfl, e2, q2⟩ := ry.elst
    split at e <;> cases e
    rename_i c
    exact .new (by unfold binop; simp only [e1, e2, q1.length, q2.length, c, if_true]; rfl) (.lst (q1.app q2))
  case h_9 =>
    obtain ⟨a, xs, rfl, e1, q1⟩ := rx.etup
    obtain ⟨b, ys, rfl, e2, q2⟩ := ry.etup
    split at e
    · rename_i c
      split at e
      · rename_i c1
        cases e
        exact .val (v := .ref b) (by unfold binop; simp only [e1, e2, q1.length, q2.length, c, isE q1.length, c1, if_true]) (ry.rep_im rfl) fun _ => rfl
      · rename_i c1
        split at e
        · rename_i c2
          cases e
          exact .val (v := .ref a) (by unfold binop; simp only [e1, e2, q1.length, q2.length, c, isE q1.length, isE q2.length, c1, c2, if_true]; rfl) (rx.rep_im rfl) fun _ => rfl
        · rename_i c2
          cases e
          exact .new (by unfold binop; simp only [e1, e2, q1.length, q2.length, c, isE q1.length, isE q2.length, c1, c2, if_true]; rfl) (.tup (q1.app q2))
    · cases e
  case h_10 =>
    obtain ⟨a, xs, rfl, e1, q1⟩ := rx.elst
    obtain rfl := ry.eint
    split at e <;> cases e
    rename_i c
    exact .new (by unfold binop; simp only [e1, q1.length]; rw [if_pos c]; rfl) (.lst (q1.rep _))
  case h_11 => cases e
theorem eq_res {x y : D} {v w : V} (rx : Pk h S x v) (ry : Pk h S y w) : eqOp v w h = peq x y := by
  unfold eqOp peq
  rw [rx.toD, ry.toD] <;> cases toP 40 x <;> cases toP 40 y <;> rfl
theorem in_res {x y : D} {v w : V} {b : Bool} (rx : Pk h S x v) (ry : Pk h S y w) (e : pin x y = some b) : cmpop .In v w h = some (.val (.bl b) h) ∧ cmpop .NotIn v w h = some (.val (.bl (!b)) h) := by
  unfold pin at e
  split at e
  · obtain rfl := rx.estr; obtain rfl := ry.estr; cases e; exact ⟨rfl, rfl⟩
  · rename_i no
    split at e
    · rename_i v' vs' e1 e2
      cases e
      obtain ⟨rfl, f1⟩ := rx.flat e1
      cases hs : pseq y with
      | none => rw [hs] at e2; cases e2
      | some ds =>
        rw [hs] at e2
        obtain ⟨ys, g1, g2⟩ := ry.seq hs
        obtain ⟨rfl, f2⟩ := g2.flat e2
        have nw : ∀ j, w ≠ .str j := fun j z => by subst z; cases g1
        constructor
        · unfold cmpop
          simp only
          split
          · exact absurd rfl (nw _)
          · simp only [g1, f1, f2, Bool.and_self, if_true]
        · unfold cmpop
          simp only
          split
          · exact absurd rfl (nw _)
          · simp only [g1, f1, f2, Bool.and_self, if_true]
    · cases e
theorem cmp_res {op : CmpOp} {x y : D} {v w : V} {b : Bool} (rx : Pk h S x v) (ry : Pk h S y w) (e : pcmp op x y = some b) : cmpop op v w h = some (.val (.bl b) h) := by
  cases op with
  | Eq =>
    have e : peq x y = some b := e
    unfold cmpop
    simp only [eq_res rx ry, e]
  | NotEq =>
    have e : (peq x y).map (!·) = some b := e
    cases z : peq x y with
    | none => rw [z] at e; cases e
    | some c => rw [z] at e; cases e; unfold cmpop; simp only [eq_res rx ry, z]
  | Lt =>
    unfold pcmp at e
    simp only at e
    split at e
    · obtain rfl := rx.eint; obtain rfl := ry.eint; cases e; rfl
    · obtain rfl := rx.estr; obtain rfl := ry.estr; cases e; rfl
    · cases e
  | LtE =>
    unfold pcmp at e
    simp only at e
    split at e
    · obtain rfl := rx.eint; obtain rfl := ry.eint; cases e; rfl
    · cases e
  | Gt =>
    unfold pcmp at e
    simp only at e
    split at e
    · obtain rfl := rx.eint; obtain rfl := ry.eint; cases e; rfl
    · cases e
  | GtE =>
    unfold pcmp at e
    simp only at e
    split at e
    · obtain rfl := rx.eint; obtain rfl := ry.eint; cases e; rfl
    · cases e
  | Is =>
    unfold pcmp at e
    simp only at e
    split at e
    · obtain rfl := rx.enon; obtain rfl := ry.enon; cases e; rfl
    · rename_i no
      obtain rfl := ry.enon
      cases e
      have nv : ¬ v = .non := fun z => by subst z; cases rx; exact no rfl
      unfold cmpop
      simp only [nv, decide_false]
    · obtain rfl := rx.ebl; obtain rfl := ry.ebl; cases e; rfl
    · cases e
  | IsNot =>
    unfold pcmp at e
    simp only at e
    split at e
    · obtain rfl := rx.enon; obtain rfl := ry.enon; cases e; rfl
    · rename_i no
      obtain rfl := ry.enon
      cases e
      have nv : ¬ v = .non := fun z => by subst z; cases rx; exact no rfl
      unfold cmpop
      simp only [nv, decide_false, Bool.not_false]
    · obtain rfl := rx.ebl; obtain rfl := ry.ebl; cases e; rfl
    · cases e
  | In => exact (in_res rx ry e).1
  | NotIn =>
    have e : (pin x y).map (!·) = some b := e
    cases z : pin x y with
    | none => rw [z] at e; cases e
    | some c => rw [z] at e; cases e; exact (in_res rx ry z).2
theorem atI_rep {xs : List D} {ys : List V} {i : Int} {d : D} (q : Reps h S xs ys) (e : L2.atI xs i = some d) : ∃ v, L2.atI ys i = some v ∧ Rep h S d v := by
  unfold L2.atI at e ⊢
  rw [q.length]
  cases hj : L2.ixN xs.length i with
  | none => rw [hj] at e; cases e
  | some j =>
    rw [hj] at e
    exact q.get e
theorem pix_res {x y d : D} {v w : V} (rx : Pk h S x v) (ry : Pk h S y w) (e : pix x y = some d) : Res h S false (getix v w h) d := by
  unfold pix at e
  split at e
  · obtain rfl := rx.estr; obtain rfl := ry.eint
    split at e
    · rename_i c
      cases z : L2.atI _ _ with
      | none => rw [z] at e; cases e
      | some u => rw [z] at e; cases e; exact .val (by unfold getix; simp only [c, if_true, z]) .str (fun z => nomatch z)
    · cases e
  · rename_i no
    obtain rfl := ry.eint
    cases hs : pseq x with
    | none => rw [hs] at e; cases e
    | some xs =>
      rw [hs] at e
      obtain ⟨ys, g1, g2⟩ := rx.seq hs
      obtain ⟨u, a1, a2⟩ := atI_rep g2 e
      have nw : ∀ j, v ≠ .str j := fun j z => by subst z; cases g1
      refine .val (v := u) ?_ a2 (fun z => nomatch z)
      cases v with
      | ref a => unfold getix; simp only [g1, a1]
      | _ => cases g1
  · cases e
theorem pcut_rep {xs : List D} {ys : List V} {lo hi : Option Int} (q : Reps h S xs ys) : Reps h S (pcut xs lo hi) (L2.cutV ys lo hi) := by
  unfold pcut L2.cutV
  rw [q.length]
  exact (q.drop _).take _
theorem psl_res {x d : D} {v : V} {lo hi : Option Int} (rx : Pk h S x v) (e : psl x lo hi = some d) : Res h S true (getsl v lo hi h) d := by
  unfold psl at e
  split at e
  · obtain rfl := rx.estr
    split at e <;> cases e
    rename_i c
    exact .val (by unfold getsl; simp only [c, if_true]) .str fun _ => rfl
  · obtain ⟨a, ys, rfl, e1, q⟩ := rx.elst
    cases e
    exact .new (by unfold getsl; simp only [e1]; rfl) (.lst (pcut_rep q))
  · obtain ⟨a, ys, rfl, e1, q⟩ := rx.eflst
    cases e
    exact .new (by unfold getsl; simp only [e1]; rfl) (.lst (pcut_rep q))
  · obtain ⟨a, ys, rfl, e1, q⟩ := rx.etup
    split at e
    · rename_i c
      cases e
      exact .val (v := .ref a) (by unfold getsl; simp only [e1, q.length]; rw [if_pos c]) (rx.rep_im rfl) fun _ => rfl
    · rename_i c
      cases e
      exact .new (by unfold getsl; simp only [e1, q.length]; rw [if_neg c]; rfl) (.tup (pcut_rep q))
  · cases e
theorem flat_res {d : D} {v : V} (r : Rep h S d v) : flatD v = pflat d := by
  cases r with
  | ref e n o => cases o <;> rfl
  | _ => rfl
theorem RepK.pairs : ∀ {d : List (Key × D)} {v : List (Key × V)}, RepK h S d v → pairsD v = ppairs d
  | _, _, .nil => by simp [pairsD, ppairs]
  | _, _, .cons (g := g) (d := d) (ds := ds) a b => by
    cases g with
    | inl i =>
      unfold pairsD ppairs
      simp only [flat_res a, RepK.pairs b] <;> cases pflat d <;> cases ppairs ds <;> rfl
    | inr s => unfold pairsD ppairs; rfl
theorem dic_res {d : D} {v : V} (r : Pk h S d v) : dicD v h = pdic d := by
  cases r with
  | ref e n o =>
    unfold dicD
    simp only [e]
    cases o with
    | dic q => simp only [q.pairs]; rfl
    | _ => rfl
  | _ => rfl
theorem repr_res {x d : D} {v : V} (rx : Pk h S x v) (e : prepr x = some d) : Res h S true (bifn .repr [v] h) d := by
  unfold prepr at e
  unfold bifn
  simp only [rx.toD, dic_res rx]
  split at e
  · rename_i z
    split at e
    · rename_i c; cases e; exact .val (by simp only [z, c, if_true]) .str fun _ => rfl
    · cases e
  · rename_i z
    split at e
    · rename_i z2
      split at e
      · rename_i c; cases e; exact .val (by simp only [z, z2, c, if_true]) .str fun _ => rfl
      · cases e
    · cases e
theorem bind_some {α β : Type} {o : Option α} {f : α → Option β} {b : β} (e : o.bind f = some b) : ∃ a, o = some a ∧ f a = some b := by
  cases o with
  | none => cases e
  | some a => exact ⟨a, rfl, e⟩
theorem map_some {α β : Type} {o : Option α} {f : α → β} {b : β} (e : o.map f = some b) : ∃ a, o = some a ∧ f a = b := by
  cases o with
  | none => cases e
  | some a => exact ⟨a, rfl, Option.some.inj e⟩
inductive Pks (h : IH) (S : Nat → Prop) : List D → List V → Prop
  | nil : Pks h S [] []
  | cons {d : D} {v : V} {ds : List D} {vs : List V} : Pk h S d v → Pks h S ds vs → Pks h S (d :: ds) (v :: vs)
theorem Pks.one {x : D} {vs : List V} (r : Pks h S [x] vs) : ∃ v, vs = [v] ∧ Pk h S x v := by
  cases r with
  | cons a b => cases b; exact ⟨_, rfl, a⟩
theorem Pks.two {x y : D} {vs : List V} (r : Pks h S [x, y] vs) : ∃ v w, vs = [v, w] ∧ Pk h S x v ∧ Pk h S y w := by
  cases r with
  | cons a b => cases b with
    | cons c d => cases d; exact ⟨_, _, rfl, a, c⟩
theorem bif_res {b : Bif} {ds : List D} {vs : List V} {d : D} (r : Pks h S ds vs) (e : pbif b ds = some d) : Res h S true (bifn b vs h) d := by
  unfold pbif at e
  split at e
  case h_1 =>
    obtain ⟨v, rfl, rx⟩ := r.one
    obtain ⟨n, e1, rfl⟩ := map_some e
    exact .val (by unfold bifn; simp only [rx.len, e1]) .int fun _ => rfl
  case h_2 =>
    obtain ⟨v, rfl, rx⟩ := r.one
    obtain ⟨bs, e1, rfl⟩ := map_some e
    obtain ⟨xs, e2, e3⟩ := bind_some e1
    obtain ⟨ys, g1, g2⟩ := rx.lst e2
    exact .val (by unfold bifn; simp only [g1, g2.bools e3]) .bl fun _ => rfl
  case h_3 =>
    obtain ⟨v, rfl, rx⟩ := r.one
    obtain ⟨bs, e1, rfl⟩ := map_some e
    obtain ⟨xs, e2, e3⟩ := bind_some e1
    obtain ⟨ys, g1, g2⟩ := rx.lst e2
    exact .val (by unfold bifn; simp only [g1, g2.bools e3]) .bl fun _ => rfl
  case h_4 =>
    obtain ⟨v, rfl, rx⟩ := r.one
    obtain ⟨bs, e1, rfl⟩ := map_some e
    obtain ⟨xs, e2, e3⟩ := bind_some e1
    obtain ⟨ys, g1, g2⟩ := rx.lst e2
    exact .val (by unfold bifn; simp only [g1, g2.ints e3]) .int fun _ => rfl
  case h_5 =>
    obtain ⟨v, rfl, rx⟩ := r.one
    obtain ⟨bs, e1, rfl⟩ := map_some e
    obtain ⟨is, e2, e3⟩ := bind_some e1
    obtain ⟨xs, e4, e5⟩ := bind_some e2
    obtain ⟨ys, g1, g2⟩ := rx.lst e4
    exact .val (by unfold bifn; simp only [g1, g2.ints e5, Option.bind_some, e3]) .int fun _ => rfl
  case h_6 =>
    obtain ⟨v, rfl, rx⟩ := r.one
    obtain ⟨bs, e1, rfl⟩ := map_some e
    obtain ⟨is, e2, e3⟩ := bind_some e1
    obtain ⟨xs, e4, e5⟩ := bind_some e2
    obtain ⟨ys, g1, g2⟩ := rx.lst e4
    exact .val (by unfold bifn; simp only [g1, g2.ints e5, Option.bind_some, e3]) .int fun _ => rfl
  case h_7 =>
    obtain ⟨v, w, rfl, rx, ry⟩ := r.two; obtain rfl := rx.eint; obtain rfl := ry.eint; cases e; exact .val rfl .int fun _ => rfl
  case h_8 =>
    obtain ⟨v, w, rfl, rx, ry⟩ := r.two; obtain rfl := rx.eint; obtain rfl := ry.eint; cases e; exact .val rfl .int fun _ => rfl
  case h_9 => obtain ⟨v, rfl, rx⟩ := r.one; obtain rfl := rx.eint; cases e; exact .val rfl .int fun _ => rfl
  case h_10 => obtain ⟨v, rfl, rx⟩ := r.one; obtain rfl := rx.ebl; cases e; exact .val rfl .int fun _ => rfl
  case h_11 =>
    obtain ⟨v, rfl, rx⟩ := r.one; obtain rfl := rx.estr
    split at e
    · rename_i z
      split at e <;> cases e
      rename_i c
      exact .val (by unfold bifn; simp only [z, c, if_true]) .int fun _ => rfl
    · cases e
  case h_12 =>
    obtain ⟨v, rfl, rx⟩ := r.one; obtain rfl := rx.eint
    split at e <;> cases e
    rename_i c
    exact .val (by unfold bifn; simp only [c, if_true]) .str fun _ => rfl
  case h_13 => obtain ⟨v, rfl, rx⟩ := r.one; obtain rfl := rx.estr; cases e; exact .val rfl .str fun _ => rfl
  case h_14 => obtain ⟨v, rfl, rx⟩ := r.one; exact repr_res rx e
  case h_15 =>
    obtain ⟨v, rfl, rx⟩ := r.one
    obtain ⟨xs, e1, rfl⟩ := map_some e
    obtain ⟨ys, g1, g2⟩ := rx.seq e1
    exact .new (by unfold bifn; simp only [g1]; rfl) (.lst g2)
  case h_16 =>
    obtain ⟨v, rfl, rx⟩ := r.one
    obtain ⟨a, ys, rfl, e1, q⟩ := rx.elst
    cases e
    exact .new (by unfold bifn; simp only [e1]; rfl) (.tup q)
  case h_17 =>
    obtain ⟨v, rfl, rx⟩ := r.one
    obtain ⟨a, ys, rfl, e1, q⟩ := rx.eflst
    cases e
    exact .new (by unfold bifn; simp only [e1]; rfl) (.tup q)
  case h_18 =>
    obtain ⟨v, rfl, rx⟩ := r.one
    obtain ⟨a, ys, rfl, e1, q⟩ := rx.etup
    cases e
    exact .val (v := .ref a) (by unfold bifn; simp only [e1]) (rx.rep_im rfl) fun _ => rfl
  case h_19 =>
    obtain ⟨v, rfl, rx⟩ := r.one
    split at e
    · rename_i is e1
      obtain ⟨xs, e2, e3⟩ := bind_some e1
      obtain ⟨ys, g1, g2⟩ := rx.seq e2
      split at e <;> cases e
      rename_i c
      exact .val (by unfold bifn; simp only [g1, g2.ints e3, c, if_true]) .int fun _ => rfl
    · cases e
  case h_20 =>
    obtain ⟨v, rfl, rx⟩ := r.one; obtain rfl := rx.estr
    split at e <;> cases e
    rename_i c
    exact .val (by unfold bifn; simp only [c, if_true]) .int fun _ => rfl
  case h_21 => cases e
theorem bm_res {m : Bm} {x d : D} {v : V} {ds : List D} {vs : List V} (rx : Rep h S x v) (r : Pks h S ds vs) (e : pbm m x ds = some d) : Res h S true (bmeth m v vs h) d := by
  unfold pbm at e
  split at e
  case h_1 =>
    obtain ⟨w, rfl, ry⟩ := r.one
    obtain rfl := rx.pk.estr
    split at e
    · rename_i ys e1
      obtain ⟨xs, e2, e3⟩ := bind_some e1
      obtain ⟨zs, g1, g2⟩ := ry.seq e2
      split at e <;> cases e
      rename_i c
      exact .val (by unfold bmeth mJoin; simp only [g1, g2.strs e3, c, if_true]) .str fun _ => rfl
    · cases e
  case h_2 => obtain ⟨w, rfl, ry⟩ := r.one; obtain rfl := rx.pk.estr; obtain rfl := ry.estr; cases e; exact .val rfl .int fun _ => rfl
  case h_3 =>
    obtain ⟨w, rfl, ry⟩ := r.one; obtain rfl := ry.estr
    obtain ⟨a, zs, rfl, e1, q⟩ := rx.pk.etup
    split at e
    · rename_i ys e2
      split at e <;> cases e
      rename_i c
      exact .val (by unfold bmeth mIndex; simp only [e1, q.strs e2, c, if_true]) .int fun _ => rfl
    · cases e
  case h_4 =>
    obtain ⟨w, rfl, ry⟩ := r.one; obtain rfl := rx.pk.estr; obtain rfl := ry.estr
    split at e <;> cases e
    rename_i c
    exact .val (by unfold bmeth mLstrip; simp only [c, if_true]) .str fun _ => rfl
  case h_5 =>
    obtain ⟨w, rfl, ry⟩ := r.one; obtain rfl := rx.pk.estr; obtain rfl := ry.estr
    split at e <;> cases e
    rename_i c
    exact .new (by unfold bmeth mSplit; simp only; rw [if_pos c]; rfl) (.lst (Reps.map fun _ _ => .str))
  case h_6 =>
    obtain ⟨w, rfl, ry⟩ := r.one; obtain rfl := rx.pk.estr; obtain rfl := ry.estr
    split at e <;> cases e
    rename_i c
    exact .new (by unfold bmeth mPartition; simp only; rw [if_pos c]; rfl) (.tup (.cons .str (.cons .str (.cons .str .nil))))
  case h_7 => cases e
theorem bmTy_ok {m : Bm} {x : D} {v : V} (r : Pk h S x v) (e : pbmTy m x = true) : bmTy m v h = true := by
  unfold pbmTy at e
  split at e
  · obtain ⟨a, ys, rfl, e1, _⟩ := r.etup
    unfold bmTy isTupK
    simp only [e1]
  · obtain rfl := r.estr; rfl
  · obtain rfl := r.estr; rfl
  · obtain rfl := r.estr; rfl
  · obtain rfl := r.estr; rfl
  · obtain rfl := r.estr; rfl
  · cases e
theorem fsT_res : ∀ {ds : List D} {vs : List V} {ts : List Str}, Reps h S ds vs → pfsT ds = some ts → fsT vs = some ts
  | _, _, _, .nil, e => by simpa [fsT, pfsT] using e
  | _, _, ts, .cons (ds := ds) a b, e => by
    cases a with
    | str =>
      unfold pfsT at e
      unfold fsT
      split at e
      · rename_i c
        obtain ⟨us, e1, rfl⟩ := map_some e
        simp only [c, if_true, fsT_res b e1, Option.map_some]
      · cases e
    | int =>
      unfold pfsT at e
      unfold fsT
      split at e
      · rename_i c
        obtain ⟨us, e1, rfl⟩ := map_some e
        simp only [c, if_true, fsT_res b e1, Option.map_some]
      · cases e
    | ref _ _ o => cases o <;> simp [pfsT] at e
    | _ => simp [pfsT] at e
theorem fs_res {ds : List D} {vs : List V} {d : D} (r : Reps h S ds vs) (e : pfs ds = some d) : Res h S true (fsV vs h) d := by
  unfold pfs at e
  split at e
  · rename_i ts e1
    split at e <;> cases e
    rename_i c
    exact .val (by unfold fsV; simp only [fsT_res r e1, c, if_true]) .str fun _ => rfl
  · cases e
theorem key_res {x : D} {v : V} {k : Key} (r : Pk h S x v) (e : pkey x = some k) : keyOf v = some k := by
  cases r with
  | ref _ _ o => cases o <;> cases e
  | int => cases e; rfl
  | str => cases e; rfl
  | non => cases e
  | bl => cases e
theorem dix_res {x y d : D} {v w : V} (rx : Pk h S x v) (ry : Pk h S y w) (e : pdix x y = some d) : Res h S false (dixV v w h) d := by
  unfold pdix at e
  split at e
  · rename_i k ek
    obtain ⟨a, ys, rfl, e1, q⟩ := rx.edic
    obtain ⟨p, e2, rfl⟩ := map_some e
    obtain ⟨p', e3, q3⟩ := q.find e2
    exact .val (by unfold dixV; simp only [key_res ry ek, e1, e3]) q3 (fun z => nomatch z)
  · cases e
theorem inK_res {x y : D} {v w : V} {b : Bool} (rx : Pk h S x v) (ry : Pk h S y w) (e : pinK x y = some b) : inKV v w h = some (.val (.bl b) h) := by
  unfold pinK at e
  split at e
  · rename_i k ek
    obtain ⟨a, ys, rfl, e1, q⟩ := ry.edic
    cases e
    unfold inKV
    simp only [key_res rx ek, e1, q.any]
  · cases e
theorem isC_res {Γ : Gam} {C : Nat} {x : D} {v : V} (rx : Pk h S x v) : isCV Γ C h v = pisC Γ C x := by
  unfold isCV pisC
  rw [rx.ty] <;> (cases Γ.isK C with
  | false => rfl
  | true =>
    simp only [if_true] <;> (cases pty x with
    | none => rfl
    | some t => cases t <;> rfl))
theorem insOf_res {x : D} {v : V} (rx : Pk h S x v) : insOf h v = pinsOf x := by
  cases rx with
  | ref e n o =>
    unfold insOf
    simp only [e]
    cases o <;> rfl
  | _ => rfl
theorem slr_res {x d : D} {v : V} (rx : Pk h S x v) (e : ((plst x).map fun xs => D.lst xs.reverse) = some d) : Res h S true (slrV v h) d := by
  obtain ⟨xs, e1, rfl⟩ := map_some e
  obtain ⟨ys, g1, g2⟩ := rx.lst e1
  exact .new (by unfold slrV; simp only [g1]; rfl) (.lst g2.rev)
end
end MQ
end
section
set_option Elab.async false
set_option linter.all false
set_option maxHeartbeats 2000000
/-! the pure interpreter's frame and the heap -/
namespace MQ
open PySem MP
open L2 (V St Hp Key)
/-- a frame: the heap's length at its start, what may not be reached there, what was lent -/
structure Fr where
  n0 : Nat
  B : Nat → Prop
  m : Option Nat
def Or1 (S : Nat → Prop) (a : Nat) : Nat → Prop := fun b => S b ∨ b = a
structure GInv (Γ : PG) (h : IH) (S : Nat → Prop) : Prop where
  glb : ∀ g d, Γ.glob g = some d → ∃ v, Γ.G.glob g = some v ∧ Rep h S d v
  cls : ∀ C c, Γ.G.clsAt C = some c → Rep h S (.cls C) (.ref c)
def SlotR (F : Fr) (h : IH) (S : Nat → Prop) (v : V) : Md × D → Prop
  | (.sh, d) => Rep h S d v
  | (.ow, d) => ∃ a, v = .ref a ∧ F.n0 ≤ a ∧ S a ∧ OwnO h S a d
  | (.io, d) => ∃ a, v = .ref a ∧ F.m = some a ∧ a < F.n0 ∧ S a ∧ OwnO h S a d
structure PInv (F : Fr) (Γ : PG) (σ : St) (ρ : PS) (h : IH) (S : Nat → Prop) : Prop where
  bnd : ∀ a, S a → a < h.length
  base : ∀ a, a < F.n0 → (S a ↔ F.B a)
  le : F.n0 ≤ h.length
  glb : GInv Γ h S
  len : σ.length = ρ.length
  slot : ∀ (i : Nat) (x : Md × D), ρ[i]? = some (some x) → ∃ v, σ[i]? = some (some v) ∧ SlotR F h S v x
  dis : ∀ (i j a : Nat) (x y : Md × D), i ≠ j → σ[i]? = some (some (.ref a)) → σ[j]? = some (some (.ref a)) → ρ[i]? = some (some x) → ρ[j]? = some (some y) → x.1 ≠ .sh → y.1 ≠ .sh → False
structure Step (F : Fr) (h : IH) (S : Nat → Prop) (h' : IH) (S' : Nat → Prop) : Prop where
  len : h.length ≤ h'.length
  keep : ∀ (a : Nat) (o : MP.IO), h[a]? = some o → (¬ S a ∨ (a < F.n0 ∧ F.m ≠ some a)) → h'[a]? = some o
  sub : ∀ a, a < h.length → S' a → S a
theorem lt_of {α : Type} {l : List α} {a : Nat} {o : α} (e : l[a]? = some o) : a < l.length := (List.getElem?_eq_some_iff.mp e).1
section
variable {F : Fr} {Γ : PG} {σ : St} {ρ : PS} {h h' h2 : IH} {S S' S2 : Nat → Prop}
theorem Step.refl : Step F h S h S := ⟨Nat.le_refl _, fun _ _ e _ => e, fun _ _ z => z⟩
theorem Step.trans (p : Step F h S h' S') (q : Step F h' S' h2 S2) : Step F h S h2 S2 :=
  ⟨Nat.le_trans p.len q.len, fun a o e c => q.keep a o (p.keep a o e c) (c.imp (fun n z => n (p.sub a (lt_of e) z)) id), fun a l z => p.sub a l (q.sub a (Nat.lt_of_lt_of_le l p.len) z)⟩
theorem Step.k (p : Step F h S h' S') : ∀ (a : Nat) (o : MP.IO), h[a]? = some o → ¬ S a → h'[a]? = some o ∧ ¬ S' a := fun a o e n => ⟨p.keep a o e (.inl n), fun z => n (p.sub a (lt_of e) z)⟩
theorem Rep.step {d : D} {v : V} (r : Rep h S d v) (p : Step F h S h' S') : Rep h' S' d v := r.mono p.k
theorem Reps.step {d : List D} {v : List V} (r : Reps h S d v) (p : Step F h S h' S') : Reps h' S' d v := Reps.mono p.k r
theorem GInv.mono (g : GInv Γ h S) (k : ∀ (a : Nat) (o : MP.IO), h[a]? = some o → ¬ S a → h'[a]? = some o ∧ ¬ S' a) : GInv Γ h' S' :=
  ⟨fun i d e => let ⟨v, e1, r⟩ := g.glb i d e; ⟨v, e1, r.mono k⟩, fun C c e => (g.cls C c e).mono k⟩
theorem OwnO.mono {a : Nat} {d : D} (q : OwnO h S a d) (k : ∀ (a : Nat) (o : MP.IO), h[a]? = some o → ¬ S a → h'[a]? = some o ∧ ¬ S' a) (e : ∀ o : MP.IO, h[a]? = some o → h'[a]? = some o) : OwnO h' S' a d :=
  let ⟨o, e1, m, r⟩ := q; ⟨o, e o e1, m, r.mono k⟩
theorem SlotR.pk {v : V} {x : Md × D} (r : SlotR F h S v x) : Pk h S x.2 v := by
  obtain ⟨md, d⟩ := x
  cases md with
  | sh => exact Rep.pk r
  | ow => obtain ⟨a, rfl, _, _, q⟩ := r; exact q.pk
  | io => obtain ⟨a, rfl, _, _, _, q⟩ := r; exact q.pk
/-- new things behind what stands; T of them are kept apart -/
theorem PInv.keep (I : PInv F Γ σ ρ h S) (kp : ∀ (a : Nat) (o : MP.IO), h[a]? = some o → h'[a]? = some o) (T : Nat → Prop) (hT : ∀ a, T a → h.length ≤ a ∧ a < h'.length) : PInv F Γ σ ρ h' (fun a => S a ∨ T a) := by
  have hl : h.length ≤ h'.length := by
    rcases Nat.eq_zero_or_pos h.length with z | z
    · omega
    · have e : h[h.length - 1]? = some h[h.length - 1] := List.getElem?_eq_getElem (by omega)
      have := lt_of (kp _ _ e)
      omega
  have k : ∀ (a : Nat) (o : MP.IO), h[a]? = some o → ¬ S a → h'[a]? = some o ∧ ¬ (S a ∨ T a) := fun a o e n => ⟨kp a o e, fun z => z.elim n fun t => by have := (hT a t).1; have := lt_of e; omega⟩
  refine ⟨fun a z => z.elim (fun z => Nat.lt_of_lt_of_le (I.bnd a z) hl) fun t => (hT a t).2, fun a l => ⟨fun z => z.elim (I.base a l).mp fun t => ?_, fun z => .inl ((I.base a l).mpr z)⟩, Nat.le_trans I.le hl, I.glb.mono k, I.len, fun i x e => ?_, I.dis⟩
  · have := (hT a t).1; have := I.le; omega
  · obtain ⟨v, e1, r⟩ := I.slot i x e
    refine ⟨v, e1, ?_⟩
    obtain ⟨md, d⟩ := x
    cases md with
    | sh => exact Rep.mono k r
    | ow => obtain ⟨a, z, l, s, q⟩ := r; exact ⟨a, z, l, .inl s, q.mono k (kp a)⟩
    | io => obtain ⟨a, z, l, l2, s, q⟩ := r; exact ⟨a, z, l, l2, .inl s, q.mono k (kp a)⟩
theorem PInv.keep0 (I : PInv F Γ σ ρ h S) (kp : ∀ (a : Nat) (o : MP.IO), h[a]? = some o → h'[a]? = some o) : PInv F Γ σ ρ h' S := by
  have J := I.keep kp (fun _ => False) (fun a z => z.elim)
  have e : (fun a => S a ∨ False) = S := funext fun a => propext (by simp)
  rwa [e] at J
theorem Step.of_keep (kp : ∀ (a : Nat) (o : MP.IO), h[a]? = some o → h'[a]? = some o) (hl : h.length ≤ h'.length) : Step F h S h' S := ⟨hl, fun a o e _ => kp a o e, fun _ _ z => z⟩
theorem app_keep {g : IH} : ∀ (a : Nat) (o : MP.IO), h[a]? = some o → (h ++ g)[a]? = some o := fun a o e => by rw [List.getElem?_append_left (lt_of e)]; exact e
/-- only names are forgotten -/
theorem PInv.fewer {σ' : St} {ρ' : PS} (I : PInv F Γ σ ρ h S) (hl : σ'.length = ρ'.length) (hs : ∀ (i : Nat) (x : Md × D), ρ'[i]? = some (some x) → ρ[i]? = some (some x) ∧ σ'[i]? = σ[i]?) : PInv F Γ σ' ρ' h S :=
  ⟨I.bnd, I.base, I.le, I.glb, hl, fun i x e => by
    obtain ⟨e1, e2⟩ := hs i x e
    rw [e2]
    exact I.slot i x e1, fun i j a x y n e1 e2 e3 e4 n1 n2 => by
    obtain ⟨f1, f2⟩ := hs i x e3
    obtain ⟨g1, g2⟩ := hs j y e4
    rw [f2] at e1; rw [g2] at e2
    exact I.dis i j a x y n e1 e2 f1 g1 n1 n2⟩
theorem set_get {α : Type} {l : List α} {i j : Nat} {x y : α} (e : (l.set i x)[j]? = some y) : (j = i ∧ y = x ∧ i < l.length) ∨ (j ≠ i ∧ l[j]? = some y) := by
  by_cases c : j = i
  · subst c
    have hl : j < l.length := by have := lt_of e; simpa using this
    rw [List.getElem?_set_self hl] at e
    exact .inl ⟨rfl, (Option.some.inj e).symm, hl⟩
  · rw [List.getElem?_set_ne (Ne.symm c)] at e
    exact .inr ⟨c, e⟩
/-- an owned thing is written -/
theorem PInv.upd (I : PInv F Γ σ ρ h S) {j a : Nat} {md : Md} {x y : D} (er : ρ[j]? = some (some (md, x))) (n : md ≠ .sh) (es : σ[j]? = some (some (.ref a))) (hl : h.length ≤ h'.length) (kp : ∀ (b : Nat) (o : MP.IO), b ≠ a → h[b]? = some o → h'[b]? = some o) (ow : OwnO h' S a y) :
    PInv F Γ σ (ρ.set j (some (md, y))) h' S ∧ Step F h S h' S := by
  have sa : S a ∧ ((F.n0 ≤ a ∧ md = .ow) ∨ (F.m = some a ∧ a < F.n0 ∧ md = .io)) := by
    obtain ⟨v, e1, r⟩ := I.slot j _ er
    rw [es] at e1
    cases e1
    cases md with
    | sh => exact absurd rfl n
    | ow => obtain ⟨a', z, l, s, q⟩ := r; cases z; exact ⟨s, .inl ⟨l, rfl⟩⟩
    | io => obtain ⟨a', z, l, l2, s, q⟩ := r; cases z; exact ⟨s, .inr ⟨l, l2, rfl⟩⟩
  have k : ∀ (b : Nat) (o : MP.IO), h[b]? = some o → ¬ S b → h'[b]? = some o ∧ ¬ S b := fun b o e nb => ⟨kp b o (fun z => nb (z ▸ sa.1)) e, nb⟩
  refine ⟨⟨fun b z => Nat.lt_of_lt_of_le (I.bnd b z) hl, I.base, Nat.le_trans I.le hl, I.glb.mono k, by simpa using I.len, fun i z e => ?_, fun i i2 b u w ne e1 e2 e3 e4 n1 n2 => ?_⟩, hl, fun b o e c => ?_, fun _ _ z => z⟩
  · rcases set_get e with ⟨rfl, q, _⟩ | ⟨ne, q⟩
    · cases q
      refine ⟨_, es, ?_⟩
      rcases sa.2 with ⟨l, rfl⟩ | ⟨l, l2, rfl⟩
      · exact ⟨a, rfl, l, sa.1, ow⟩
      · exact ⟨a, rfl, l, l2, sa.1, ow⟩
    · obtain ⟨v, e1, r⟩ := I.slot i z q
      refine ⟨v, e1, ?_⟩
      obtain ⟨mz, d⟩ := z
      have nb : ∀ b, v = .ref b → mz ≠ .sh → b ≠ a := fun b hv hm hb => by
        subst hv; subst hb
        exact I.dis i j b _ _ ne e1 es q er hm n
      cases mz with
      | sh => exact Rep.mono k r
      | ow => obtain ⟨b, z, l, s, q⟩ := r; exact ⟨b, z, l, s, q.mono k fun o eo => kp b o (nb b z (by decide)) eo⟩
      | io => obtain ⟨b, z, l, l2, s, q⟩ := r; exact ⟨b, z, l, l2, s, q.mono k fun o eo => kp b o (nb b z (by decide)) eo⟩
  · have old : ∀ {i : Nat} {z : Md × D}, (ρ.set j (some (md, y)))[i]? = some (some z) → z.1 ≠ .sh → ∃ z', ρ[i]? = some (some z') ∧ z'.1 ≠ .sh := fun {i z} e nz => by
      rcases set_get e with ⟨rfl, q, _⟩ | ⟨ne, q⟩
      · exact ⟨_, er, n⟩
      · exact ⟨z, q, nz⟩
    obtain ⟨u', f1, f2⟩ := old e3 n1
    obtain ⟨w', g1, g2⟩ := old e4 n2
    exact I.dis i i2 b u' w' ne e1 e2 f1 g1 f2 g2
  · refine kp b o (fun z => ?_) e
    subst z
    rcases c with c | ⟨c1, c2⟩
    · exact c sa.1
    · rcases sa.2 with ⟨l, _⟩ | ⟨l, l2, _⟩
      · omega
      · exact c2 l
/-- an owned thing is given away -/
theorem PInv.share (I : PInv F Γ σ ρ h S) {i : Nat} {d : D} (er : ρ[i]? = some (some (.ow, d))) : ∃ v S', σ[i]? = some (some v) ∧ Rep h S' d v ∧ PInv F Γ σ (ρ.set i (some (.sh, d))) h S' ∧ Step F h S h S' := by
  obtain ⟨v, es, a, rfl, l, s, q⟩ := I.slot i _ er
  have k : ∀ (b : Nat) (o : MP.IO), h[b]? = some o → ¬ S b → h[b]? = some o ∧ ¬ (S b ∧ b ≠ a) := fun b o e nb => ⟨e, fun z => nb z.1⟩
  obtain ⟨o, eo, mo, ro⟩ := q
  have rep : Rep h (fun b => S b ∧ b ≠ a) d (.ref a) := .ref eo (fun z => z.2 rfl) (ro.mono k)
  refine ⟨_, fun b => S b ∧ b ≠ a, es, rep, ⟨fun b z => I.bnd b z.1, fun b lb => ⟨fun z => (I.base b lb).mp z.1, fun z => ⟨(I.base b lb).mpr z, fun e => by omega⟩⟩, I.le, I.glb.mono k, by simpa using I.len, fun j z e => ?_, fun j j2 b u w ne e1 e2 e3 e4 n1 n2 => ?_⟩, Nat.le_refl _, fun _ _ e _ => e, fun _ _ z => z.1⟩
  · rcases set_get e with ⟨rfl, q, _⟩ | ⟨ne, q⟩
    · cases q
      exact ⟨_, es, rep⟩
    · obtain ⟨v, e1, r⟩ := I.slot j z q
      refine ⟨v, e1, ?_⟩
      obtain ⟨mz, dz⟩ := z
      have nb : ∀ b, v = .ref b → mz ≠ .sh → b ≠ a := fun b hv hm hb => by
        subst hv; subst hb
        exact I.dis j i b _ _ ne e1 es q er hm (fun z => by cases z)
      cases mz with
      | sh => exact Rep.mono k r
      | ow => obtain ⟨b, z, l, s, q⟩ := r; exact ⟨b, z, l, ⟨s, nb b z (by decide)⟩, q.mono k fun o eo => eo⟩
      | io => obtain ⟨b, z, l, l2, s, q⟩ := r; exact ⟨b, z, l, l2, ⟨s, nb b z (by decide)⟩, q.mono k fun o eo => eo⟩
  · have old : ∀ {j : Nat} {z : Md × D}, (ρ.set i (some (.sh, d)))[j]? = some (some z) → z.1 ≠ .sh → ρ[j]? = some (some z) := fun {j z} e nz => by
      rcases set_get e with ⟨rfl, q, _⟩ | ⟨ne, q⟩
      · cases q; exact absurd rfl nz
      · exact q
    exact I.dis j j2 b u w ne e1 e2 (old e3 n1) (old e4 n2) n1 n2
/-- a name is bound -/
theorem PInv.setSh (I : PInv F Γ σ ρ h S) {i : Nat} {d : D} {v : V} (r : Rep h S d v) : PInv F Γ (σ.set i (some v)) (ρ.set i (some (.sh, d))) h S := by
  refine ⟨I.bnd, I.base, I.le, I.glb, by simpa using I.len, fun j z e => ?_, fun j j2 b u w ne e1 e2 e3 e4 n1 n2 => ?_⟩
  · rcases set_get e with ⟨rfl, q, l⟩ | ⟨ne, q⟩
    · cases q
      exact ⟨v, List.getElem?_set_self (by rw [I.len]; exact l), r⟩
    · obtain ⟨u, e1, r1⟩ := I.slot j z q
      exact ⟨u, by rw [List.getElem?_set_ne (Ne.symm ne)]; exact e1, r1⟩
  · have old : ∀ {j : Nat} {z : Md × D}, (ρ.set i (some (.sh, d)))[j]? = some (some z) → z.1 ≠ .sh → ρ[j]? = some (some z) ∧ i ≠ j := fun {j z} e nz => by
      rcases set_get e with ⟨rfl, q, _⟩ | ⟨ne, q⟩
      · cases q; exact absurd rfl nz
      · exact ⟨q, Ne.symm ne⟩
    obtain ⟨f1, f2⟩ := old e3 n1
    obtain ⟨g1, g2⟩ := old e4 n2
    rw [List.getElem?_set_ne f2] at e1
    rw [List.getElem?_set_ne g2] at e2
    exact I.dis j j2 b u w ne e1 e2 f1 g1 n1 n2
theorem PInv.setOw {a : Nat} (I : PInv F Γ σ ρ h (Or1 S a)) (ns : ¬ S a) (I0 : PInv F Γ σ ρ h S) {i : Nat} {d : D} (ln : F.n0 ≤ a) (q : OwnO h (Or1 S a) a d) : PInv F Γ (σ.set i (some (.ref a))) (ρ.set i (some (.ow, d))) h (Or1 S a) := by
  refine ⟨I.bnd, I.base, I.le, I.glb, by simpa using I.len, fun j z e => ?_, fun j j2 b u w ne e1 e2 e3 e4 n1 n2 => ?_⟩
  · rcases set_get e with ⟨rfl, q', l⟩ | ⟨ne, q'⟩
    · cases q'
      exact ⟨_, List.getElem?_set_self (by rw [I.len]; exact l), a, rfl, ln, .inr rfl, q⟩
    · obtain ⟨u, e1, r1⟩ := I.slot j z q'
      exact ⟨u, by rw [List.getElem?_set_ne (Ne.symm ne)]; exact e1, r1⟩
  · have inS : ∀ {j : Nat} {z : Md × D}, ρ[j]? = some (some z) → z.1 ≠ .sh → ∀ c, σ[j]? = some (some (.ref c)) → S c := fun {j z} e nz c ec => by
      obtain ⟨v, e1, r⟩ := I0.slot j z e
      rw [ec] at e1; cases e1
      obtain ⟨mz, dz⟩ := z
      cases mz with
      | sh => exact absurd rfl nz
      | ow => obtain ⟨b, z, l, s, q⟩ := r; cases z; exact s
      | io => obtain ⟨b, z, l, l2, s, q⟩ := r; cases z; exact s
    have at_i : ∀ {b : Nat} {c : V}, (σ.set i (some c))[i]? = some (some (.ref b)) → c = .ref b := fun {b c} e => by
      rcases set_get e with ⟨_, q, _⟩ | ⟨ne, _⟩
      · exact (Option.some.inj q).symm
      · exact absurd rfl ne
    rcases set_get e3 with ⟨rfl, q3, _⟩ | ⟨ne3, q3⟩
    · have hb := at_i e1
      cases hb
      rcases set_get e4 with ⟨rfl, q4, _⟩ | ⟨ne4, q4⟩
      · exact ne rfl
      · rw [List.getElem?_set_ne (Ne.symm ne4)] at e2
        exact ns (inS q4 n2 _ e2)
    · rw [List.getElem?_set_ne (Ne.symm ne3)] at e1
      rcases set_get e4 with ⟨rfl, q4, _⟩ | ⟨ne4, q4⟩
      · have hb := at_i e2
        cases hb
        exact ns (inS q3 n1 _ e1)
      · rw [List.getElem?_set_ne (Ne.symm ne4)] at e2
        exact I.dis j j2 b u w ne e1 e2 q3 q4 n1 n2
theorem PInv.setNo (I : PInv F Γ σ ρ h S) {i : Nat} {o : Option V} : PInv F Γ (σ.set i o) (ρ.set i none) h S :=
  I.fewer (by simpa using I.len) fun j x e => by
    rcases set_get e with ⟨_, q, _⟩ | ⟨ne, q⟩
    · cases q
    · exact ⟨q, by rw [List.getElem?_set_ne (Ne.symm ne)]⟩
end
end MQ
end
section
set_option Elab.async false
set_option linter.all false
set_option maxHeartbeats 2000000
/-! the pure interpreter's steps and the heap's -/
namespace MQ
open PySem MP
open L2 (V St Hp Key)
def ExnR (h : IH) (S : Nat → Prop) (dd f : Nat) (w : D) : Prop := ∃ v, h[dd]? = some (.xd f v) ∧ ¬ S dd ∧ Rep h S w v
theorem ExnR.mono {h h' : IH} {S S' : Nat → Prop} {dd f : Nat} {w : D} (q : ExnR h S dd f w) (k : ∀ (a : Nat) (o : MP.IO), h[a]? = some o → ¬ S a → h'[a]? = some o ∧ ¬ S' a) : ExnR h' S' dd f w :=
  let ⟨v, e, n, r⟩ := q; ⟨v, (k _ _ e n).1, (k _ _ e n).2, r.mono k⟩
def Good {α β : Type} (F : Fr) (Γ : PG) (σ : St) (h : IH) (S : Nat → Prop) (R : IH → (Nat → Prop) → PS → β → α → Prop) (x : EV α) : PV β → Prop
  | none => True
  | some (.val d ρ') => ∃ v h' S', x = some (.val v h') ∧ Step F h S h' S' ∧ PInv F Γ σ ρ' h' S' ∧ R h' S' ρ' d v
  | some (.exn C f w ρ') => ∃ dd h' S', x = some (.exn C dd h') ∧ Step F h S h' S' ∧ PInv F Γ σ ρ' h' S' ∧ ExnR h' S' dd f w
def R0 (h : IH) (S : Nat → Prop) (_ : PS) (d : D) (v : V) : Prop := Rep h S d v
def R0s (h : IH) (S : Nat → Prop) (_ : PS) (d : List D) (v : List V) : Prop := Reps h S d v
def RPk (h : IH) (S : Nat → Prop) (_ : PS) (d : D) (v : V) : Prop := Pk h S d v
def RPks (h : IH) (S : Nat → Prop) (_ : PS) (d : List D) (v : List V) : Prop := Pks h S d v
def REq {α : Type} (_ : IH) (_ : Nat → Prop) (_ : PS) (d v : α) : Prop := v = d
def RE (F : Fr) (Γ : PG) (σ : St) (L : Nat) (fr : Bool) (h : IH) (S : Nat → Prop) (ρ : PS) (d : D) (v : V) : Prop :=
  Rep h S d v ∧ (fr = true → mutD d = true → ∃ a, v = .ref a ∧ L ≤ a ∧ F.n0 ≤ a ∧ PInv F Γ σ ρ h (Or1 S a) ∧ OwnO h (Or1 S a) a d)
/-- an item of what is walked -/
inductive ItR (h : IH) (S : Nat → Prop) : D × Option D → V × Option V → Prop
  | one {d : D} {v : V} : Rep h S d v → ItR h S (d, none) (v, none)
  | two {d e : D} {v w : V} : Rep h S d v → Rep h S e w → ItR h S (d, some e) (v, some w)
inductive ItsR (h : IH) (S : Nat → Prop) : List (D × Option D) → List (V × Option V) → Prop
  | nil : ItsR h S [] []
  | cons {d : D × Option D} {v : V × Option V} {ds : List (D × Option D)} {vs : List (V × Option V)} : ItR h S d v → ItsR h S ds vs → ItsR h S (d :: ds) (v :: vs)
def GdR (h : IH) (S : Nat → Prop) (gd : List (Nat × MP.IO)) : Prop := ∀ p ∈ gd, h[p.1]? = some p.2 ∧ ¬ S p.1
def RIt (h : IH) (S : Nat → Prop) (_ : PS) (is : List (D × Option D)) (its : Its) : Prop := ItsR h S is its.xs ∧ GdR h S its.gd
def CurR (h : IH) (S : Nat → Prop) : Option (Nat × Nat) → Option (Nat × Nat × D) → Prop
  | none, none => True
  | some (C, d), some (C', f, w) => C' = C ∧ ExnR h S d f w
  | _, _ => False
section
variable {F : Fr} {Γ : PG} {σ : St} {ρ : PS} {h h' h1 h2 : IH} {S S' S1 S2 : Nat → Prop} {α β α2 β2 : Type}
theorem ItR.mono (k : ∀ (a : Nat) (o : MP.IO), h[a]? = some o → ¬ S a → h'[a]? = some o ∧ ¬ S' a) {d : D × Option D} {v : V × Option V} (r : ItR h S d v) : ItR h' S' d v := by
  cases r with
  | one a => exact .one (a.mono k)
  | two a b => exact .two (a.mono k) (b.mono k)
theorem ItsR.mono (k : ∀ (a : Nat) (o : MP.IO), h[a]? = some o → ¬ S a → h'[a]? = some o ∧ ¬ S' a) : ∀ {d : List (D × Option D)} {v : List (V × Option V)}, ItsR h S d v → ItsR h' S' d v
  | _, _, .nil => .nil
  | _, _, .cons a b => .cons (a.mono k) (ItsR.mono k b)
theorem GdR.mono (k : ∀ (a : Nat) (o : MP.IO), h[a]? = some o → ¬ S a → h'[a]? = some o ∧ ¬ S' a) {gd : List (Nat × MP.IO)} (g : GdR h S gd) : GdR h' S' gd := fun p hp => k _ _ (g p hp).1 (g p hp).2
theorem GdR.ok {gd : List (Nat × MP.IO)} (g : GdR h S gd) : okG h gd = true := by
  unfold okG
  rw [List.all_eq_true]
  intro p hp
  rw [(g p hp).1]
  simp
theorem CurR.mono (k : ∀ (a : Nat) (o : MP.IO), h[a]? = some o → ¬ S a → h'[a]? = some o ∧ ¬ S' a) : ∀ {c : Option (Nat × Nat)} {d : Option (Nat × Nat × D)}, CurR h S c d → CurR h' S' c d
  | none, none, _ => trivial
  | some (_, _), some (_, _, _), ⟨e, q⟩ => ⟨e, q.mono k⟩
  | none, some _, q => q.elim
  | some _, none, q => q.elim
theorem Good.after {R : IH → (Nat → Prop) → PS → β → α → Prop} {x : EV α} {y : PV β} (p : Step F h S h1 S1) (g : Good F Γ σ h1 S1 R x y) : Good F Γ σ h S R x y := by
  match y, g with
  | none, _ => trivial
  | some (.val d ρ'), ⟨v, h', S', e, q, I, r⟩ => exact ⟨v, h', S', e, p.trans q, I, r⟩
  | some (.exn C f w ρ'), ⟨v, h', S', e, q, I, r⟩ => exact ⟨v, h', S', e, p.trans q, I, r⟩
theorem Good.imp {R R' : IH → (Nat → Prop) → PS → β → α → Prop} {x : EV α} {y : PV β} (g : Good F Γ σ h S R x y) (f : ∀ h1 S1 ρ1 d v, PInv F Γ σ ρ1 h1 S1 → R h1 S1 ρ1 d v → R' h1 S1 ρ1 d v) : Good F Γ σ h S R' x y := by
  match y, g with
  | none, _ => trivial
  | some (.val d ρ'), ⟨v, h', S', e, q, I, r⟩ => exact ⟨v, h', S', e, q, I, f _ _ _ _ _ I r⟩
  | some (.exn C f w ρ'), ⟨v, h', S', e, q, I, r⟩ => exact ⟨v, h', S', e, q, I, r⟩
theorem Good.bind {R : IH → (Nat → Prop) → PS → β → α → Prop} {R2 : IH → (Nat → Prop) → PS → β2 → α2 → Prop} {x : EV α} {y : PV β} {k : α → IH → EV α2} {k' : β → PS → PV β2} (g : Good F Γ σ h S R x y)
    (f : ∀ h1 S1 ρ1 d v, Step F h S h1 S1 → PInv F Γ σ ρ1 h1 S1 → R h1 S1 ρ1 d v → Good F Γ σ h1 S1 R2 (k v h1) (k' d ρ1)) : Good F Γ σ h S R2 (bnd x k) (pb y k') := by
  match y, g with
  | none, _ => trivial
  | some (.val d ρ'), ⟨v, h', S', e, q, I, r⟩ => subst e; exact Good.after q (f _ _ _ _ _ q I r)
  | some (.exn C f w ρ'), ⟨v, h', S', e, q, I, r⟩ => subst e; exact ⟨v, h', S', rfl, q, I, r⟩
theorem Good.bindN {R : IH → (Nat → Prop) → PS → β → α → Prop} {R2 : IH → (Nat → Prop) → PS → β2 → α2 → Prop} {x : EV α} {y : PV β} {k : α → IH → EV α2} {k' : β → PS → PV β2} (g : Good F Γ σ h S R x y)
    (f : ∀ h1 S1 ρ1 d v, Step F h S h1 S1 → PInv F Γ σ ρ1 h1 S1 → R h1 S1 ρ1 d v → Good F Γ σ h1 S1 R2 (k v h1) (k' d ρ1)) : Good F Γ σ h S R2 (bndN x k) (pbN y k') := by
  match y, g with
  | none, _ => trivial
  | some (.val d ρ'), ⟨v, h', S', e, q, I, r⟩ => subst e; exact Good.after q (f _ _ _ _ _ q I r)
  | some (.exn C f w ρ'), _ => trivial
theorem Good.val {R : IH → (Nat → Prop) → PS → β → α → Prop} {d : β} {v : α} (I : PInv F Γ σ ρ h S) (r : R h S ρ d v) : Good F Γ σ h S R (ret v h) (pret d ρ) := ⟨v, h, S, rfl, .refl, I, r⟩
theorem RE.im {L : Nat} {d : D} {v : V} {fr : Bool} (r : Rep h S d v) (m : fr = true → mutD d = false) : RE F Γ σ L fr h S ρ d v := ⟨r, fun a b => by rw [m a] at b; cases b⟩
theorem fin_pk {L : Nat} {d : D} {v : V} {fr t : Bool} (I : PInv F Γ σ ρ h S) (r : Pk h S d v) (q : t = false → RE F Γ σ L fr h S ρ d v) : Good F Γ σ h S (RE F Γ σ L fr) (fin t v h) (pfin t d ρ) := by
  cases t with
  | false => exact ⟨v, h, S, rfl, .refl, I, q rfl⟩
  | true =>
    unfold pfin fin
    simp only [if_true, r.truth]
    cases ptruth d with
    | none => trivial
    | some k => exact ⟨_, h, S, rfl, .refl, I, RE.im .bl fun _ => rfl⟩
theorem fin_rep {L : Nat} {d : D} {v : V} {fr t : Bool} (I : PInv F Γ σ ρ h S) (r : Rep h S d v) (m : fr = true → mutD d = false) : Good F Γ σ h S (RE F Γ σ L fr) (fin t v h) (pfin t d ρ) := fin_pk I r.pk fun _ => RE.im r m
/-- what an operation hands back -/
theorem Good.res {L : Nat} {d : D} {fr t : Bool} {r : EV V} (I : PInv F Γ σ ρ h S) (q : Res h S fr r d) (hL : L ≤ h.length := by first | exact Nat.le_refl _ | exact Step.len (by assumption) | exact Nat.le_trans (Step.len (by assumption)) (Step.len (by assumption)) | exact Nat.le_trans (Step.len (by assumption)) (Nat.le_trans (Step.len (by assumption)) (Step.len (by assumption)))) : Good F Γ σ h S (RE F Γ σ L fr) (bnd r (fin t)) (pfin t d ρ) := by
  rcases q with ⟨v, rfl, rv, m⟩ | ⟨g, o, rfl, ro⟩
  · exact fin_rep I rv m
  · have kp : ∀ (a : Nat) (o' : MP.IO), h[a]? = some o' → (h ++ g ++ [o])[a]? = some o' := fun a o' e => app_keep _ _ (app_keep _ _ e)
    have hl : h.length ≤ (h ++ g ++ [o]).length := by simp only [List.length_append]; omega
    have st : Step F h S (h ++ g ++ [o]) S := .of_keep kp hl
    have eo : (h ++ g ++ [o])[(h ++ g).length]? = some o := by simp
    have ns : ¬ S (h ++ g).length := fun z => by have := I.bnd _ z; simp at this; omega
    have k1 : ∀ (a : Nat) (o' : MP.IO), (h ++ g)[a]? = some o' → ¬ S a → (h ++ g ++ [o])[a]? = some o' ∧ ¬ S a := fun a o' e n => ⟨app_keep _ _ e, n⟩
    have k2 : ∀ (a : Nat) (o' : MP.IO), (h ++ g)[a]? = some o' → ¬ S a → (h ++ g ++ [o])[a]? = some o' ∧ ¬ Or1 S (h ++ g).length a := fun a o' e n => ⟨app_keep _ _ e, fun z => z.elim n fun z => by have := lt_of e; omega⟩
    have rep : Rep (h ++ g ++ [o]) S d (.ref (h ++ g).length) := .ref eo ns (ro.mono k1)
    refine Good.after st (fin_pk (I.keep0 kp) rep.pk fun _ => ⟨rep, fun _ m => ⟨_, rfl, ?_, ?_, I.keep kp (fun b => b = (h ++ g).length) fun a z => by subst z; simp only [List.length_append, List.length_cons, List.length_nil]; omega, o, eo, by rw [ro.mut]; exact m, ro.mono k2⟩⟩)
    · simp
      omega
    · have := I.le
      simp
      omega
theorem po_res {L : Nat} {o : Option D} {fr t : Bool} {r : EV V} (I : PInv F Γ σ ρ h S) (q : ∀ d, o = some d → Res h S fr r d) (hL : L ≤ h.length := by first | exact Nat.le_refl _ | exact Step.len (by assumption) | exact Nat.le_trans (Step.len (by assumption)) (Step.len (by assumption)) | exact Nat.le_trans (Step.len (by assumption)) (Nat.le_trans (Step.len (by assumption)) (Step.len (by assumption)))) : Good F Γ σ h S (RE F Γ σ L fr) (bnd r (fin t)) (po t o ρ) := by
  cases o with
  | none => trivial
  | some d => exact Good.res I (q d rfl) hL
theorem slot_pk (I : PInv F Γ σ ρ h S) {i : Nat} {d : D} (e : pslot i ρ = some d) : ∃ v, σ[i]? = some (some v) ∧ Pk h S d v := by
  unfold pslot at e
  split at e
  · rename_i m d' e1
    cases e
    obtain ⟨v, e2, r⟩ := I.slot i _ e1
    exact ⟨v, e2, r.pk⟩
  · cases e
theorem slotV_eq {i : Nat} {v : V} (e : σ[i]? = some (some v)) : slotV σ i h = some (.val v h) := by
  unfold slotV
  simp only [e]
theorem pvar_ok (I : PInv F Γ σ ρ h S) (i : Nat) : Good F Γ σ h S R0 (slotV σ i h) (pvar i ρ) := by
  unfold pvar
  split
  · rename_i d e
    obtain ⟨v, e2, r⟩ := I.slot i _ e
    rw [slotV_eq e2]
    exact .val I r
  · rename_i d e
    obtain ⟨v, S', e2, r, J, st⟩ := I.share e
    rw [slotV_eq e2]
    exact ⟨v, h, S', rfl, st, J, r⟩
  · trivial
/-- calls -/
def ArgR (io : Bool) (h : IH) (S : Nat → Prop) (ds : List D) (vs : List V) (m : Option Nat) : Prop := match io with
  | false => m = none ∧ Reps h S ds vs
  | true => ∃ a x ds' vs', m = some a ∧ ds = x :: ds' ∧ vs = .ref a :: vs' ∧ S a ∧ OwnO h S a x ∧ Reps h S ds' vs'
def IoR (io : Bool) (h : IH) (S : Nat → Prop) (m : Option Nat) (y : Option D) : Prop := match io with
  | false => y = none
  | true => ∃ a x, m = some a ∧ y = some x ∧ OwnO h S a x
def ResC (io : Bool) (h : IH) (S : Nat → Prop) (m : Option Nat) : PC → EV V → Prop
  | .val d y, x => ∃ v h', x = some (.val v h') ∧ h.length ≤ h'.length ∧ (∀ (b : Nat) (o : MP.IO), h[b]? = some o → m ≠ some b → h'[b]? = some o) ∧ Rep h' S d v ∧ IoR io h' S m y
  | .exn C f w y, x => ∃ dd h', x = some (.exn C dd h') ∧ h.length ≤ h'.length ∧ (∀ (b : Nat) (o : MP.IO), h[b]? = some o → m ≠ some b → h'[b]? = some o) ∧ ExnR h' S dd f w ∧ IoR io h' S m y
structure CallOk (Γ : PG) (c : Nat → List V → IH → EV V) : Prop where
  run : ∀ (f : Nat) (ds : List D) (r : PC), Γ.call f ds = some r → ∀ (h : IH) (S : Nat → Prop) (vs : List V) (m : Option Nat), (∀ a, S a → a < h.length) → GInv Γ h S → ArgR (Γ.io f) h S ds vs m → ResC (Γ.io f) h S m r (c f vs h)
variable {c : Nat → List V → IH → EV V}
theorem pcall_ok (hc : CallOk Γ c) (I : PInv F Γ σ ρ h S) {f : Nat} {ds : List D} {vs : List V} (r : Reps h S ds vs) : Good F Γ σ h S R0 (c f vs h) (pcall Γ f ds ρ) := by
  unfold pcall
  cases ei : Γ.io f with
  | true => trivial
  | false =>
    simp only [Bool.false_eq_true, if_false]
    split
    · rename_i d e
      have q := hc.run f ds _ e h S vs none I.bnd I.glb (by rw [ei]; exact ⟨rfl, r⟩)
      obtain ⟨v, h', e2, hl, kp, rv, _⟩ := q
      exact ⟨v, h', S, e2, .of_keep (fun a o z => kp a o z (by simp)) hl, I.keep0 fun a o z => kp a o z (by simp), rv⟩
    · rename_i C f' w e
      have q := hc.run f ds _ e h S vs none I.bnd I.glb (by rw [ei]; exact ⟨rfl, r⟩)
      obtain ⟨v, h', e2, hl, kp, rv, _⟩ := q
      exact ⟨v, h', S, e2, .of_keep (fun a o z => kp a o z (by simp)) hl, I.keep0 fun a o z => kp a o z (by simp), rv⟩
    · trivial
theorem pioc_ok (hc : CallOk Γ c) (I : PInv F Γ σ ρ h S) {f j : Nat} {ds : List D} {vs : List V} {u : V} (hu : σ[j]? = some (some u)) (r : Reps h S ds vs) : Good F Γ σ h S R0 (c f (u :: vs) h) (pioc Γ f j ds ρ) := by
  unfold pioc
  cases ei : Γ.io f with
  | false => trivial
  | true =>
    simp only [if_true]
    split
    · trivial
    · rename_i m x nsh e
      have nm : m ≠ .sh := fun z => by subst z; first | exact nsh x e | exact nsh rfl | exact nsh x rfl e | simp_all
      obtain ⟨v, e2, q⟩ := I.slot j _ e
      rw [hu] at e2; cases e2
      have ow : ∃ a, u = .ref a ∧ S a ∧ OwnO h S a x := by
        cases m with
        | sh => exact absurd rfl nm
        | ow => obtain ⟨a, z, _, s, q⟩ := q; exact ⟨a, z, s, q⟩
        | io => obtain ⟨a, z, _, _, s, q⟩ := q; exact ⟨a, z, s, q⟩
      obtain ⟨a, rfl, sa, oa⟩ := ow
      split
      · rename_i d y ec
        have q := hc.run f _ _ ec h S (.ref a :: vs) (some a) I.bnd I.glb (by rw [ei]; exact ⟨a, x, ds, vs, rfl, rfl, rfl, sa, oa, r⟩)
        obtain ⟨v, h', e3, hl, kp, rv, io⟩ := q
        rw [ei] at io
        obtain ⟨a', y', z1, z2, oy⟩ := io
        cases z1; cases z2
        have U := I.upd e nm hu hl (fun b o n eb => kp b o eb (fun z => n (Option.some.inj z).symm)) oy
        exact ⟨v, h', S, e3, U.2, U.1, rv⟩
      · rename_i C f' w y ec
        have q := hc.run f _ _ ec h S (.ref a :: vs) (some a) I.bnd I.glb (by rw [ei]; exact ⟨a, x, ds, vs, rfl, rfl, rfl, sa, oa, r⟩)
        obtain ⟨v, h', e3, hl, kp, rv, io⟩ := q
        rw [ei] at io
        obtain ⟨a', y', z1, z2, oy⟩ := io
        cases z1; cases z2
        have U := I.upd e nm hu hl (fun b o n eb => kp b o eb (fun z => n (Option.some.inj z).symm)) oy
        exact ⟨v, h', S, e3, U.2, U.1, rv⟩
      · trivial
    · trivial
theorem pmake_ok {L : Nat} (hc : CallOk Γ c) (I : PInv F Γ σ ρ h S) {C : Nat} {ds : List D} {vs : List V} (r : Reps h S ds vs) (hL : L ≤ h.length := by first | exact Nat.le_refl _ | exact Step.len (by assumption) | exact Nat.le_trans (Step.len (by assumption)) (Step.len (by assumption)) | exact Nat.le_trans (Step.len (by assumption)) (Nat.le_trans (Step.len (by assumption)) (Step.len (by assumption)))) : Good F Γ σ h S (RE F Γ σ L true) (makeV (gof Γ.G c) C vs h) (pmake Γ C ds ρ) := by
  unfold pmake makeV
  show Good _ _ _ _ _ _ (match Γ.G.init C with | some f => _ | none => none) _
  cases Γ.G.init C with
  | none => trivial
  | some f =>
    simp only
    cases ei : Γ.io f with
    | false => trivial
    | true =>
      simp only [if_true]
      have na : ¬ S h.length := fun z => Nat.lt_irrefl _ (I.bnd _ z)
      have kp1 : ∀ (a : Nat) (o : MP.IO), h[a]? = some o → (h ++ [MP.IO.ins C []])[a]? = some o := app_keep
      have k1 : ∀ (a : Nat) (o : MP.IO), h[a]? = some o → ¬ S a → (h ++ [MP.IO.ins C []])[a]? = some o ∧ ¬ Or1 S h.length a := fun a o e n => ⟨kp1 a o e, fun z => z.elim n fun z => by have := lt_of e; omega⟩
      have bd : ∀ a, Or1 S h.length a → a < (h ++ [MP.IO.ins C []]).length := fun a z => by
        rcases z with z | rfl
        · have := I.bnd a z; simp; omega
        · simp
      have ag : ArgR (Γ.io f) (h ++ [MP.IO.ins C []]) (Or1 S h.length) (.ins C [] :: ds) (.ref h.length :: vs) (some h.length) := by
        rw [ei]
        exact ⟨_, _, _, _, rfl, rfl, rfl, .inr rfl, ⟨.ins C [], by simp, rfl, .ins .nil⟩, Reps.mono k1 r⟩
      split
      · rename_i d ec
        obtain ⟨v, h', e3, hl, kp, rv, io⟩ := hc.run f _ _ ec _ (Or1 S h.length) _ _ bd (I.glb.mono k1) ag
        rw [ei] at io
        obtain ⟨a', y', z1, z2, o, eo, mo, ro⟩ := io
        cases z1; cases z2
        have hv : v = .non := rv.pk.enon
        subst hv
        have kp2 : ∀ (a : Nat) (o : MP.IO), h[a]? = some o → h'[a]? = some o := fun a o e => kp a o (kp1 a o e) (fun z => by have := lt_of e; have := Option.some.inj z; omega)
        have hl2 : h.length ≤ h'.length := Nat.le_trans (by simp) hl
        have la : h.length < h'.length := lt_of eo
        have kk : ∀ (a : Nat) (o : MP.IO), h'[a]? = some o → ¬ Or1 S h.length a → h'[a]? = some o ∧ ¬ S a := fun a o e n => ⟨e, fun z => n (.inl z)⟩
        refine ⟨.ref h.length, h', S, ?_, .of_keep kp2 hl2, I.keep0 kp2, .ref eo na (ro.mono kk), fun _ m => ⟨_, rfl, hL, I.le, I.keep kp2 (fun b => b = h.length) fun a z => by subst z; exact ⟨Nat.le_refl _, la⟩, o, eo, mo, ro⟩⟩
        show bnd (c f (.ref h.length :: vs) (h ++ [.ins C []])) _ = _
        rw [e3]
        rfl
      · rename_i C' f' w y ec
        obtain ⟨dd, h', e3, hl, kp, rv, io⟩ := hc.run f _ _ ec _ (Or1 S h.length) _ _ bd (I.glb.mono k1) ag
        have kp2 : ∀ (a : Nat) (o : MP.IO), h[a]? = some o → h'[a]? = some o := fun a o e => kp a o (kp1 a o e) (fun z => by have := lt_of e; have := Option.some.inj z; omega)
        have hl2 : h.length ≤ h'.length := Nat.le_trans (by simp) hl
        have kk : ∀ (a : Nat) (o : MP.IO), h'[a]? = some o → ¬ Or1 S h.length a → h'[a]? = some o ∧ ¬ S a := fun a o e n => ⟨e, fun z => n (.inl z)⟩
        refine ⟨dd, h', S, ?_, .of_keep kp2 hl2, I.keep0 kp2, rv.mono kk⟩
        show bnd (c f (.ref h.length :: vs) (h ++ [.ins C []])) _ = _
        rw [e3]
        rfl
      · trivial
theorem boolV_ok (I : PInv F Γ σ ρ h S) {neg : Bool} {d : D} {v : V} (r : Rep h S d v) : Good F Γ σ h S R0 (boolV neg v h) (pboolV neg d ρ) := by
  unfold pboolV
  split
  · obtain rfl := r.pk.ebl
    exact .val I .bl
  · trivial
theorem pdn_ok (hc : CallOk Γ c) (I : PInv F Γ σ ρ h S) {d : Dn} {x y : D} {v w : V} (rx : Rep h S x v) (ry : Rep h S y w) : Good F Γ σ h S R0 (dnV (gof Γ.G c) d v w h) (pdn Γ d x y ρ) := by
  have bt : isBT h w = pisBT y := by
    unfold isBT pisBT
    rw [ry.pk.ty] <;> (cases pty y with
    | none => rfl
    | some t => cases t <;> rfl)
  have inn : Good F Γ σ h S R0 (match (insOf h w).bind fun C => Γ.G.dun C .inn with
    | some f => bnd (c f [w, v] h) (boolV (d == .nin))
    | none => none) (match (pinsOf y).bind fun C => Γ.G.dun C .inn with
    | some f => pb (pcall Γ f [y, x] ρ) (pboolV (d == .nin))
    | none => none) := by
    rw [insOf_res ry.pk]
    cases (pinsOf y).bind fun C => Γ.G.dun C .inn with
    | none => trivial
    | some f => exact (pcall_ok hc I (.cons ry (.cons rx .nil))).bind fun h1 S1 ρ1 d v _ J r => boolV_ok J r
  have two : ∀ C, Good F Γ σ h S R0 (match Γ.G.dun C .eq with
        | some f => bnd (c f [v, w] h) (boolV (d == .ne))
        | none => none) (match Γ.G.dun C .eq with
        | some f => pb (pcall Γ f [x, y] ρ) (pboolV (d == .ne))
        | none => none) := fun C => by
    cases Γ.G.dun C .eq with
    | none => trivial
    | some f => exact (pcall_ok hc I (.cons rx (.cons ry .nil))).bind fun h1 S1 ρ1 d v _ J r => boolV_ok J r
  have eqq : Good F Γ σ h S R0 (match insOf h v with
    | some C => if Γ.G.isK C then (if insOf h w == some C then (match Γ.G.dun C .eq with
        | some f => bnd (c f [v, w] h) (boolV (d == .ne))
        | none => none)
      else if isBT h w && Γ.G.eqg C then ret (.bl (d == .ne)) h else none) else none
    | none => none) (match pinsOf x with
    | some C => if Γ.G.isK C then (if pinsOf y == some C then (match Γ.G.dun C .eq with
        | some f => pb (pcall Γ f [x, y] ρ) (pboolV (d == .ne))
        | none => none)
      else if pisBT y && Γ.G.eqg C then pret (.bl (d == .ne)) ρ else none) else none
    | none => none) := by
    rw [insOf_res rx.pk, bt, insOf_res ry.pk]
    cases pinsOf x with
    | none => trivial
    | some C =>
      dsimp only
      cases Γ.G.isK C with
      | false => trivial
      | true =>
      simp only [if_true]
      cases pinsOf y == some C with
      | true => simp only [if_true]; exact two C
      | false =>
        simp only [Bool.false_eq_true, if_false]
        cases pisBT y && Γ.G.eqg C with
        | false => trivial
        | true => exact .val I .bl
  have dr : ∀ C, dnR d h C w = pdnR d C y := fun C => by
    have e := insOf_res (S := S) ry.pk
    cases d with
    | mul =>
      unfold dnR pdnR
      dsimp only
      cases ry with
      | ref e1 n o => cases o <;> rfl
      | _ => rfl
    | get => rfl
    | _ => unfold dnR pdnR; dsimp only; rw [e]
  have oth : Good F Γ σ h S R0 (match insOf h v with
    | some C => if dnR d h C w then (match Γ.G.dun C d with
      | some f => c f [v, w] h
      | none => none) else none
    | none => none) (match pinsOf x with
    | some C => if pdnR d C y then (match Γ.G.dun C d with
      | some f => pcall Γ f [x, y] ρ
      | none => none) else none
    | none => none) := by
    rw [insOf_res rx.pk]
    cases pinsOf x with
    | none => trivial
    | some C =>
      dsimp only
      rw [dr]
      cases pdnR d C y with
      | false => trivial
      | true =>
        simp only [if_true]
        cases Γ.G.dun C d with
        | none => trivial
        | some f => exact pcall_ok hc I (.cons rx (.cons ry .nil))
  cases d with
  | inn => exact inn
  | nin => exact inn
  | eq => exact eqq
  | ne => exact eqq
  | _ => exact oth
theorem pdn1_ok (hc : CallOk Γ c) (I : PInv F Γ σ ρ h S) {d : Dn} {x : D} {v : V} (rx : Rep h S x v) : Good F Γ σ h S R0 (dn1V (gof Γ.G c) d v h) (pdn1 Γ d x ρ) := by
  unfold pdn1 dn1V
  show Good F Γ σ h S R0 (match (insOf h v).bind fun C => Γ.G.dun C d with | some f => _ | none => none) _
  rw [insOf_res rx.pk]
  cases (pinsOf x).bind fun C => Γ.G.dun C d with
  | none => trivial
  | some f =>
    refine (pcall_ok hc I (.cons rx .nil)).bind fun h1 S1 ρ1 e u _ J r => ?_
    have r : Rep h1 S1 e u := r
    by_cases hd : d = .len
    · rw [if_pos hd, if_pos hd]
      unfold plenR
      split
      · obtain rfl := r.pk.eint
        unfold lenR
        simp only
        split
        · exact .val J .int
        · trivial
      · trivial
    · rw [if_neg hd, if_neg hd]
      exact .val J r
end
end MQ
end
section
set_option Elab.async false
set_option linter.all false
set_option maxHeartbeats 2000000
/-! names bound, what is walked, comprehensions -/
namespace MQ
open PySem MP
open L2 (V St Hp Key)
section
variable {F : Fr} {Γ : PG} {σ : St} {ρ : PS} {h h' : IH} {S S' : Nat → Prop}
theorem enum_ok : ∀ {n : Nat} {xs : List D} {ys : List V}, Reps h S xs ys → ItsR h S (penum n xs) (enumOf n ys)
  | _, _, _, .nil => .nil
  | _, _, _, .cons a b => .cons (.two .int a) (enum_ok b)
theorem ones_ok : ∀ {xs : List D} {ys : List V}, Reps h S xs ys → ItsR h S (xs.map (·, none)) (ys.map (·, none))
  | _, _, .nil => .nil
  | _, _, .cons a b => .cons (.one a) (ones_ok b)
theorem zips_ok : ∀ {xs xs2 : List D} {ys ys2 : List V}, Reps h S xs ys → Reps h S xs2 ys2 → ItsR h S ((xs.zip xs2).map fun z => (z.1, some z.2)) ((ys.zip ys2).map fun z => (z.1, some z.2))
  | _, _, _, _, .nil, _ => .nil
  | _, _, _, _, .cons _ _, .nil => .nil
  | _, _, _, _, .cons a b, .cons c d => .cons (.two a c) (zips_ok b d)
theorem its_map {α : Type} {f : α → D} {g : α → V} : ∀ {l : List α}, (∀ x ∈ l, Rep h S (f x) (g x)) → ItsR h S (l.map fun x => (f x, none)) (l.map fun x => (g x, none))
  | [], _ => .nil
  | x :: r, q => .cons (.one (q x List.mem_cons_self)) (its_map fun y hy => q y (List.mem_cons_of_mem _ hy))
theorem keys_ok : ∀ {d : List (Key × D)} {v : List (Key × V)}, RepK h S d v → ItsR h S (d.map fun p => (keyD p.1, none)) (v.map fun p => (keyV p.1, none))
  | _, _, .nil => .nil
  | _, _, .cons (g := g) _ b => .cons (.one (by cases g; exact .int; exact .str)) (keys_ok b)
theorem gd1 {a : Nat} {o : MP.IO} (e : h[a]? = some o) (n : ¬ S a) : GdR h S [(a, o)] := fun p hp => by
  rw [List.mem_singleton] at hp
  subst hp
  exact ⟨e, n⟩
theorem pits_ok {d : D} {v : V} {is : List (D × Option D)} (I : PInv F Γ σ ρ h S) (r : Rep h S d v) (e : pits d = some is) : Good F Γ σ h S RIt (evV v h) (pret is ρ) := by
  have core : ∃ its, itsOf v h = some its ∧ ItsR h S is its.xs ∧ GdR h S its.gd := by
    cases r with
    | str => cases e; exact ⟨_, rfl, its_map fun _ _ => .str, fun p hp => by cases hp⟩
    | ref e1 n o =>
      unfold itsOf
      simp only [e1]
      cases o with
      | lst q => cases e; exact ⟨_, rfl, ones_ok q, gd1 e1 n⟩
      | flst q => cases e; exact ⟨_, rfl, ones_ok q, gd1 e1 n⟩
      | tup q => cases e; exact ⟨_, rfl, ones_ok q, gd1 e1 n⟩
      | _ => cases e
    | _ => cases e
  obtain ⟨its, e1, r1, r2⟩ := core
  unfold evV
  rw [e1]
  exact .val I ⟨r1, r2⟩
theorem penum_ok {d : D} {v : V} {xs : List D} (I : PInv F Γ σ ρ h S) (r : Rep h S d v) (e : plst d = some xs) : Good F Γ σ h S RIt (enumV v h) (pret (penum 0 xs) ρ) := by
  cases r with
  | ref e1 n o =>
    unfold enumV
    simp only [e1]
    cases o with
    | lst q => cases e; exact .val I ⟨enum_ok q, gd1 e1 n⟩
    | flst q => cases e; exact .val I ⟨enum_ok q, gd1 e1 n⟩
    | _ => cases e
  | _ => cases e
theorem pzip_ok {d d2 : D} {v v2 : V} {is : List (D × Option D)} (I : PInv F Γ σ ρ h S) (r : Rep h S d v) (r2 : Rep h S d2 v2) (e : pzipI d d2 = some is) : Good F Γ σ h S RIt (zipV v v2 h) (pret is ρ) := by
  unfold pzipI at e
  split at e
  · obtain rfl := r.pk.estr
    obtain rfl := r2.pk.estr
    split at e <;> cases e
    rename_i c
    unfold zipV
    simp only [c, if_true]
    exact .val I ⟨zips_ok (Reps.map fun _ _ => .str) (Reps.map fun _ _ => .str), fun p hp => by cases hp⟩
  · cases r with
    | ref e1 n o => cases o with
      | lst q => cases r2 with
        | ref e2 n2 o2 => cases o2 with
          | lst q2 =>
            split at e <;> cases e
            rename_i c
            unfold zipV
            simp only [e1, e2, q.length, q2.length, c, if_true]
            refine .val I ⟨zips_ok q q2, fun p hp => ?_⟩
            rcases List.mem_cons.mp hp with rfl | hp
            · exact ⟨e1, n⟩
            · rw [List.mem_singleton] at hp
              subst hp
              exact ⟨e2, n2⟩
  · cases e
theorem prng_ok {lo : Int} {n : Nat} : ItsR h S (prng lo n) (rngOf lo n) := its_map (f := fun i : Nat => D.int (lo + (i : Int))) (g := fun i : Nat => V.int (lo + (i : Int))) fun _ _ => .int
/-! ### names bound -/
mutual
theorem asg_sh : ∀ (tg : MT) {σ : St} {ρ ρ' : PS} {d : D} {v : V}, PInv F Γ σ ρ h S → Rep h S d v → pasg tg .sh d ρ = some ρ' → ∃ σ', asgT tg v σ h = some σ' ∧ PInv F Γ σ' ρ' h S
  | .nm i, σ, ρ, ρ', d, v, I, r, e => by
    unfold pasg at e
    split at e
    · cases e; exact ⟨_, rfl, I.setSh r⟩
    · cases e
  | .tup ts, σ, ρ, ρ', d, v, I, r, e => by
    unfold pasg at e
    split at e
    · obtain ⟨a, ys, rfl, e1, q⟩ := r.pk.etup
      unfold asgT
      simp only [e1]
      exact asgs_sh ts I q e
    · cases e
theorem asgs_sh : ∀ (tg : MTs) {σ : St} {ρ ρ' : PS} {d : List D} {v : List V}, PInv F Γ σ ρ h S → Reps h S d v → pasgs tg d ρ = some ρ' → ∃ σ', asgTs tg v σ h = some σ' ∧ PInv F Γ σ' ρ' h S
  | .nil, σ, ρ, ρ', d, v, I, r, e => by
    cases r with
    | nil => unfold pasgs at e; cases e; exact ⟨σ, by unfold asgTs; rfl, I⟩
    | cons a b => unfold pasgs at e; cases e
  | .cons t ts, σ, ρ, ρ', d, v, I, r, e => by
    cases r with
    | nil => unfold pasgs at e; cases e
    | cons a b =>
      unfold pasgs at e
      split at e
      · rename_i ρ1 e1
        obtain ⟨σ1, e2, I1⟩ := asg_sh t I a e1
        obtain ⟨σ2, e3, I2⟩ := asgs_sh ts I1 b e
        exact ⟨σ2, by unfold asgTs; simp only [e2, e3], I2⟩
      · cases e
end
theorem asgX_sh {tg : MT} {ρ' : PS} {x : D × Option D} {y : V × Option V} (I : PInv F Γ σ ρ h S) (r : ItR h S x y) (e : pasgX tg x ρ = some ρ') : ∃ σ', asgX tg y σ h = some σ' ∧ PInv F Γ σ' ρ' h S := by
  cases r with
  | @one d v a =>
    have e : pasg tg .sh d ρ = some ρ' := by unfold pasgX at e; exact e
    obtain ⟨σ', e1, J⟩ := asg_sh tg I a e
    exact ⟨σ', by unfold asgX; exact e1, J⟩
  | two a b =>
    unfold pasgX at e
    split at e
    · rename_i q; cases q
    · rename_i q
      cases q
      split at e
      · rename_i ρ1 e1
        obtain ⟨σ1, e2, I1⟩ := asg_sh _ I a e1
        obtain ⟨σ2, e3, I2⟩ := asg_sh _ I1 b e
        exact ⟨σ2, by unfold asgX; simp only [e2, e3], I2⟩
      · cases e
    · cases e
/-! ### a comprehension's own names -/
theorem wipe_ne {ws : List Nat} {i : Nat} (n : i ∉ ws) : (L2.wipe σ ws)[i]? = σ[i]? := by
  induction ws with
  | nil => rfl
  | cons w r ih =>
    unfold L2.wipe
    rw [List.getElem?_set_ne (fun z => n (by rw [z]; exact List.mem_cons_self))]
    exact ih fun z => n (List.mem_cons_of_mem _ z)
theorem pwipe_len (ρ : PS) : ∀ ws : List Nat, (pwipe ρ ws).length = ρ.length
  | [] => rfl
  | w :: r => by unfold pwipe; rw [List.length_set, pwipe_len ρ r]
theorem pwipe_get {ws : List Nat} {i : Nat} {x : Md × D} (e : (pwipe ρ ws)[i]? = some (some x)) : ρ[i]? = some (some x) ∧ i ∉ ws := by
  induction ws with
  | nil => exact ⟨e, by simp⟩
  | cons w r ih =>
    unfold pwipe at e
    rcases set_get e with ⟨_, q, _⟩ | ⟨n, q⟩
    · cases q
    · obtain ⟨a, b⟩ := ih q
      exact ⟨a, fun z => by rcases List.mem_cons.mp z with z | z; exact n z; exact b z⟩
theorem PInv.wipe (I : PInv F Γ σ ρ h S) (ws : List Nat) : PInv F Γ (L2.wipe σ ws) (pwipe ρ ws) h S :=
  I.fewer (by rw [L2.wipe_length, pwipe_len, I.len]) fun i x e => ⟨(pwipe_get e).1, wipe_ne (pwipe_get e).2⟩
mutual
theorem asgT_only {ws : List Nat} : ∀ (tg : MT) {σ σ' : St} {v : V}, asgT tg v σ h = some σ' → tgIn ws tg = true → σ'.length = σ.length ∧ ∀ i, i ∉ ws → σ'[i]? = σ[i]?
  | .nm j, σ, σ', v, e, t => by
    unfold asgT at e
    cases e
    refine ⟨by simp, fun i n => List.getElem?_set_ne fun z => n ?_⟩
    subst z
    unfold tgIn at t
    simpa using t
  | .tup ts, σ, σ', v, e, t => by
    unfold asgT at e
    unfold tgIn at t
    split at e
    · split at e
      · exact asgTs_only ts e t
      · cases e
    · cases e
theorem asgTs_only {ws : List Nat} : ∀ (tg : MTs) {σ σ' : St} {v : List V}, asgTs tg v σ h = some σ' → tgsIn ws tg = true → σ'.length = σ.length ∧ ∀ i, i ∉ ws → σ'[i]? = σ[i]?
  | .nil, σ, σ', v, e, t => by
    cases v with
    | nil => unfold asgTs at e; cases e; exact ⟨rfl, fun _ _ => rfl⟩
    | cons a b => unfold asgTs at e; cases e
  | .cons u us, σ, σ', v, e, t => by
    unfold tgsIn at t
    rw [Bool.and_eq_true] at t
    cases v with
    | nil => unfold asgTs at e; cases e
    | cons a b =>
      unfold asgTs at e
      cases e1 : asgT u a σ h with
      | none => rw [e1] at e; cases e
      | some σ1 =>
        rw [e1] at e
        obtain ⟨l1, q1⟩ := asgT_only u e1 t.1
        obtain ⟨l2, q2⟩ := asgTs_only us e t.2
        exact ⟨l2.trans l1, fun i n => (q2 i n).trans (q1 i n)⟩
end
theorem asgX_only {ws : List Nat} {tg : MT} {σ' : St} {y : V × Option V} (e : asgX tg y σ h = some σ') (t : tgIn ws tg = true) : σ'.length = σ.length ∧ ∀ i, i ∉ ws → σ'[i]? = σ[i]? := by
  unfold asgX at e
  split at e
  · exact asgT_only _ e t
  · unfold tgIn tgsIn tgsIn at t
    simp only [Bool.and_eq_true] at t
    split at e
    · rename_i σ1 e1
      obtain ⟨l1, q1⟩ := asgT_only _ e1 t.1
      obtain ⟨l2, q2⟩ := asgT_only _ e t.2.1
      exact ⟨l2.trans l1, fun i n => (q2 i n).trans (q1 i n)⟩
    · cases e
  · cases e
theorem prest_len (ρ τ : PS) : ∀ ws : List Nat, (prest ρ τ ws).length = τ.length
  | [] => rfl
  | w :: r => by unfold prest; rw [List.length_set, prest_len ρ τ r]
theorem prest_get {τ : PS} {ws : List Nat} {i : Nat} {x : Md × D} (e : (prest ρ τ ws)[i]? = some (some x)) : (i ∈ ws ∧ ρ[i]? = some (some x)) ∨ (i ∉ ws ∧ τ[i]? = some (some x)) := by
  induction ws with
  | nil => exact .inr ⟨by simp, e⟩
  | cons w r ih =>
    unfold prest at e
    rcases set_get e with ⟨rfl, q, _⟩ | ⟨n, q⟩
    · refine .inl ⟨List.mem_cons_self, ?_⟩
      cases z : ρ[i]? with
      | none => rw [z] at q; cases q
      | some u => rw [z] at q; exact congrArg some q.symm
    · rcases ih q with ⟨a, b⟩ | ⟨a, b⟩
      · exact .inl ⟨List.mem_cons_of_mem _ a, b⟩
      · exact .inr ⟨fun z => by rcases List.mem_cons.mp z with z | z; exact n z; exact a z, b⟩
theorem free_sh {ws : List Nat} (f : pfree ws ρ = true) {i : Nat} (hi : i ∈ ws) {x : Md × D} (e : ρ[i]? = some (some x)) : x.1 = .sh := by
  unfold pfree at f
  rw [List.all_eq_true] at f
  have q := f i hi
  unfold notOwn at q
  rw [e] at q
  obtain ⟨m, d⟩ := x
  cases m with
  | sh => rfl
  | ow => cases q
  | io => cases q
theorem PInv.rest (I : PInv F Γ σ ρ h S) {ws : List Nat} (f : pfree ws ρ = true) {τσ : St} {τ : PS} (J : PInv F Γ τσ τ h' S') (st : Step F h S h' S') (hl : τσ.length = σ.length) (same : ∀ i, i ∉ ws → τσ[i]? = σ[i]?) : PInv F Γ σ (prest ρ τ ws) h' S' := by
  refine ⟨J.bnd, J.base, J.le, J.glb, by rw [prest_len, ← J.len, hl], fun i x e => ?_, fun i j a x y n e1 e2 e3 e4 n1 n2 => ?_⟩
  · rcases prest_get e with ⟨hi, q⟩ | ⟨hi, q⟩
    · obtain ⟨v, e1, r⟩ := I.slot i x q
      have hs := free_sh f hi q
      obtain ⟨m, d⟩ := x
      cases hs
      exact ⟨v, e1, Rep.step r st⟩
    · obtain ⟨v, e1, r⟩ := J.slot i x q
      rw [same i hi] at e1
      exact ⟨v, e1, r⟩
  · rcases prest_get e3 with ⟨hi, q⟩ | ⟨hi, q⟩
    · exact n1 (free_sh f hi q)
    · rcases prest_get e4 with ⟨hj, q2⟩ | ⟨hj, q2⟩
      · exact n2 (free_sh f hj q2)
      · rw [← same i hi] at e1
        rw [← same j hj] at e2
        exact J.dis i j a x y n e1 e2 q q2 n1 n2
def ROp (h : IH) (S : Nat → Prop) (_ : PS) : Option D → Option V → Prop
  | none, none => True
  | some d, some v => Rep h S d v
  | _, _ => False
theorem pturn_ok {tg : MT} {ws : List Nat} {c e : St → IH → EV V} {pc pe : PS → PV D}
    (hc : ∀ (σ : St) (ρ : PS) (h : IH) (S : Nat → Prop), PInv F Γ σ ρ h S → Good F Γ σ h S R0 (c σ h) (pc ρ)) (he : ∀ (σ : St) (ρ : PS) (h : IH) (S : Nat → Prop), PInv F Γ σ ρ h S → Good F Γ σ h S R0 (e σ h) (pe ρ))
    (I : PInv F Γ σ ρ h S) {x : D × Option D} {y : V × Option V} (r : ItR h S x y) : Good F Γ σ h S ROp (turnC tg ws σ c e y h) (pturn tg ws pc pe x ρ) := by
  unfold pturn
  split
  · rename_i g
    rw [Bool.and_eq_true] at g
    split
    · rename_i τ et
      obtain ⟨τσ, e1, J⟩ := asgX_sh (I.wipe ws) r et
      obtain ⟨l1, same⟩ := asgX_only e1 g.1
      have l2 : τσ.length = σ.length := l1.trans (L2.wipe_length σ ws)
      have same2 : ∀ i, i ∉ ws → τσ[i]? = σ[i]? := fun i n => (same i n).trans (wipe_ne n)
      unfold turnC
      simp only [e1]
      have gc := hc τσ τ h S J
      -- the turn's own frame
      have core : ∀ (R : IH → (Nat → Prop) → PS → Option D → Option V → Prop), True := fun _ => trivial
      match hp : pc τ, gc with
      | none, _ => trivial
      | some (.exn C f w τ3), _ => trivial
      | some (.val k τ3), ⟨vk, h3, S3, e3, st3, J3, rk⟩ =>
        rw [e3]
        show Good _ _ _ _ _ _ (match vk with | .bl true => _ | .bl false => _ | _ => none) (match k with | .bl true => _ | .bl false => _ | _ => none)
        have rk : Rep h3 S3 k vk := rk
        cases k with
        | bl b =>
          obtain rfl := rk.pk.ebl
          cases b with
          | false =>
            exact ⟨none, h3, S3, rfl, st3, I.rest g.2 J3 st3 l2 same2, trivial⟩
          | true =>
            have ge := he τσ τ3 h3 S3 J3
            show Good _ _ _ _ _ _ (bndN (e τσ h3) _) (pbN (pe τ3) _)
            match hq : pe τ3, ge with
            | none, _ => trivial
            | some (.exn C f w τ4), _ => trivial
            | some (.val d τ4), ⟨v, h4, S4, e4, st4, J4, rv⟩ =>
              rw [e4]
              exact ⟨some v, h4, S4, rfl, st3.trans st4, I.rest g.2 J4 (st3.trans st4) l2 same2, rv⟩
        | _ => trivial
    · trivial
  · trivial
theorem ploopC_ok {f : V × Option V → IH → EV (Option V)} {pf : D × Option D → PS → PV (Option D)} {gd : List (Nat × MP.IO)}
    (turn : ∀ (x : D × Option D) (y : V × Option V) (h : IH) (S : Nat → Prop) (ρ : PS), PInv F Γ σ ρ h S → ItR h S x y → Good F Γ σ h S ROp (f y h) (pf x ρ)) :
    ∀ {is : List (D × Option D)} {xs : List (V × Option V)} {h : IH} {S : Nat → Prop} {ρ : PS}, PInv F Γ σ ρ h S → ItsR h S is xs → GdR h S gd → Good F Γ σ h S R0s (loopC f gd xs h) (ploopC pf is ρ)
  | _, _, h, S, ρ, I, .nil, g => by
    unfold loopC ploopC
    rw [g.ok]
    exact .val I .nil
  | _, _, h, S, ρ, I, .cons (d := d) (v := v) (ds := ds) (vs := vs) a b, g => by
    unfold loopC ploopC
    rw [g.ok]
    refine (turn d v h S ρ I a).bindN fun h1 S1 ρ1 o ov st J r => ?_
    refine (ploopC_ok turn J (b.mono st.k) (g.mono st.k)).bindN fun h2 S2 ρ2 es vs2 st2 J2 r2 => ?_
    refine .val J2 ?_
    have r : ROp h1 S1 ρ1 o ov := r
    cases o with
    | none => cases ov with
      | none => exact r2
      | some _ => exact r.elim
    | some d' => cases ov with
      | none => exact r.elim
      | some v' =>
        have r : Rep h1 S1 d' v' := r
        exact .cons (r.step st2) r2
end
end MQ
end
section
set_option Elab.async false
set_option linter.all false
set_option maxHeartbeats 4000000
/-! expressions -/
namespace MQ
open PySem MP
open L2 (V St Hp Key)
section
variable {F : Fr} {Γ : PG} {σ : St} {ρ : PS} {h h' : IH} {S S' : Nat → Prop} {c : Nat → List V → IH → EV V} {α β : Type}
theorem x_dn {Γ : Gam} {cur : Option (Nat × Nat)} {t : Bool} {σ : St} {h : IH} {d : Dn} {a b : ME} : evE Γ cur t (.dn d a b) σ h = (bnd (bnd (evE Γ cur false a σ h) fun x h1 => bnd (evE Γ cur false b σ h1) fun y h2 => dnV Γ d x y h2) (fin t)) := by first | (simp only [evE]; done) | (simp only [evE]; rfl)
theorem x_dn1 {Γ : Gam} {cur : Option (Nat × Nat)} {t : Bool} {σ : St} {h : IH} {d : Dn} {a : ME} : evE Γ cur t (.dn1 d a) σ h = (bnd (bnd (evE Γ cur false a σ h) (dn1V Γ d)) (fin t)) := by first | (simp only [evE]; done) | (simp only [evE]; rfl)
theorem x_con {Γ : Gam} {cur : Option (Nat × Nat)} {t : Bool} {σ : St} {h : IH} {C f : Nat} : evE Γ cur t (.con C f) σ h = (bnd (optV (Γ.con C f) h) (fin t)) := by first | (simp only [evE]; done) | (simp only [evE]; rfl)
theorem x_lzip {Γ : Gam} {cur : Option (Nat × Nat)} {t : Bool} {σ : St} {h : IH} {a b : ME} : evE Γ cur t (.lzip a b) σ h = (bnd (bnd (evE Γ cur false a σ h) fun x h1 => bnd (evE Γ cur false b σ h1) fun y h2 => lzipV x y h2) (fin t)) := by first | (simp only [evE]; done) | (simp only [evE]; rfl)
theorem x_slr {Γ : Gam} {cur : Option (Nat × Nat)} {t : Bool} {σ : St} {h : IH} {a : ME} : evE Γ cur t (.slr a) σ h = (bnd (bnd (evE Γ cur false a σ h) slrV) (fin t)) := by first | (simp only [evE]; done) | (simp only [evE]; rfl)
theorem x_fs {Γ : Gam} {cur : Option (Nat × Nat)} {t : Bool} {σ : St} {h : IH} {es : MA} : evE Γ cur t (.fs es) σ h = (bnd (bnd (evA Γ cur es σ h) fsV) (fin t)) := by first | (simp only [evE]; done) | (simp only [evE]; rfl)
theorem x_isC {Γ : Gam} {cur : Option (Nat × Nat)} {t : Bool} {σ : St} {h : IH} {a : ME} {C : Nat} : evE Γ cur t (.isC a C) σ h = (bnd (evE Γ cur false a σ h) fun x h1 => match isCV Γ C h1 x with
    | some b => ret (.bl b) h1
    | none => none) := by first | (simp only [evE]; done) | (simp only [evE]; rfl)
theorem x_dix {Γ : Gam} {cur : Option (Nat × Nat)} {t : Bool} {σ : St} {h : IH} {a b : ME} : evE Γ cur t (.dix a b) σ h = (bnd (bnd (evE Γ cur false a σ h) fun x h1 => bnd (evE Γ cur false b σ h1) fun y h2 => dixV x y h2) (fin t)) := by first | (simp only [evE]; done) | (simp only [evE]; rfl)
theorem x_inK {Γ : Gam} {cur : Option (Nat × Nat)} {t : Bool} {σ : St} {h : IH} {a b : ME} : evE Γ cur t (.inK a b) σ h = (bnd (evE Γ cur false a σ h) fun x h1 => bnd (evE Γ cur false b σ h1) fun y h2 => inKV x y h2) := by first | (simp only [evE]; done) | (simp only [evE]; rfl)
theorem x_mkx {Γ : Gam} {cur : Option (Nat × Nat)} {t : Bool} {σ : St} {h : IH} {C : Nat} {e : ME} : evE Γ cur t (.mkx C e) σ h = (bnd (bnd (evE Γ cur false e σ h) (mkxV Γ C)) (fin t)) := by first | (simp only [evE]; done) | (simp only [evE]; rfl)
theorem x_isE {Γ : Gam} {cur : Option (Nat × Nat)} {t : Bool} {σ : St} {h : IH} {a : ME} {C : Nat} : evE Γ cur t (.isE a C) σ h = (bnd (evE Γ cur false a σ h) (isEV Γ fun D => Γ.sub D C)) := by first | (simp only [evE]; done) | (simp only [evE]; rfl)
theorem x_isX {Γ : Gam} {cur : Option (Nat × Nat)} {t : Bool} {σ : St} {h : IH} {a : ME} {b : Nat} : evE Γ cur t (.isX a b) σ h = (bnd (evE Γ cur false a σ h) (isEV Γ fun D => Γ.subB D b)) := by first | (simp only [evE]; done) | (simp only [evE]; rfl)
def evAt (Γ : Gam) (cur : Option (Nat × Nat)) (es : MA) (σ : St) (h : IH) : EV (List V) := match es with
  | .cons _ r => evA Γ cur r σ h
  | .nil => none
theorem pk_ok {L : Nat} (b : ME) {Γh : Gam} {cur : Option (Nat × Nat)} {r : PV D} {fr : Bool} (I : PInv F Γ σ ρ h S) (g : Good F Γ σ h S (RE F Γ σ L fr) (evE Γh cur false b σ h) r) : Good F Γ σ h S RPk (evE Γh cur false b σ h) (pk b ρ r) := by
  have dflt : Good F Γ σ h S RPk (evE Γh cur false b σ h) r := g.imp fun _ _ _ _ _ _ r => r.1.pk
  cases b with
  | var i =>
    show Good _ _ _ _ _ _ _ (match pslot i ρ with | some d => pret d ρ | none => none)
    cases e : pslot i ρ with
    | none => trivial
    | some d =>
      obtain ⟨v, e1, p⟩ := slot_pk I e
      rw [e_var, slotV_eq e1]
      exact .val I p
  | _ => exact dflt
theorem pfst_ok {L : Nat} {R : IH → (Nat → Prop) → PS → β → α → Prop} {α2 β2 : Type} {R2 : IH → (Nat → Prop) → PS → β2 → α2 → Prop} (a : ME) {Γh : Gam} {cur : Option (Nat × Nat)} {r : PV D} {fr : Bool} {rb : IH → EV α} {rb' : PS → PV β} {k : V → α → IH → EV α2} {k' : D × β → PS → PV β2}
    (I : PInv F Γ σ ρ h S) (g : Good F Γ σ h S (RE F Γ σ L fr) (evE Γh cur false a σ h) r)
    (gb : ∀ h1 S1 ρ1, Step F h S h1 S1 → PInv F Γ σ ρ1 h1 S1 → Good F Γ σ h1 S1 R (rb h1) (rb' ρ1))
    (f : ∀ h2 S2 ρ2 x v y w, Step F h S h2 S2 → PInv F Γ σ ρ2 h2 S2 → Pk h2 S2 x v → R h2 S2 ρ2 y w → Good F Γ σ h2 S2 R2 (k v w h2) (k' (x, y) ρ2)) :
    Good F Γ σ h S R2 (bnd (evE Γh cur false a σ h) fun x h1 => bnd (rb h1) fun y h2 => k x y h2) (pb (pfst a ρ r rb') k') := by
  have dflt : Good F Γ σ h S R2 (bnd (evE Γh cur false a σ h) fun x h1 => bnd (rb h1) fun y h2 => k x y h2) (pb (pb r fun x ρ1 => pb (rb' ρ1) fun y ρ2 => pret (x, y) ρ2) k') := by
    have assoc : ∀ (z : PV D), pb (pb z fun x ρ1 => pb (rb' ρ1) fun y ρ2 => pret (x, y) ρ2) k' = pb z fun x ρ1 => pb (rb' ρ1) fun y ρ2 => k' (x, y) ρ2 := fun z => by
      match z with
      | none => rfl
      | some (.exn _ _ _ _) => rfl
      | some (.val x ρ1) =>
        show pb (pb (rb' ρ1) _) k' = pb (rb' ρ1) _
        match rb' ρ1 with
        | none => rfl
        | some (.exn _ _ _ _) => rfl
        | some (.val y ρ2) => rfl
    rw [assoc]
    exact g.bind fun h1 S1 ρ1 x v st J rx => (gb h1 S1 ρ1 st J).bind fun h2 S2 ρ2 y w st2 J2 ry => f h2 S2 ρ2 x v y w (st.trans st2) J2 (rx.1.step st2).pk ry
  cases a with
  | var i =>
    show Good _ _ _ _ _ _ _ (pb (match pslot i ρ with
      | some _ => pb (rb' ρ) fun y ρ2 => (match pslot i ρ2 with
        | some x => pret (x, y) ρ2
        | none => none)
      | none => none) k')
    cases e : pslot i ρ with
    | none => trivial
    | some d =>
      obtain ⟨v, e1, p⟩ := slot_pk I e
      rw [e_var, slotV_eq e1]
      have q : Good F Γ σ h S R2 (bnd (rb h) fun y h2 => k v y h2) (pb (pb (rb' ρ) fun y ρ2 => (match pslot i ρ2 with
        | some x => pret (x, y) ρ2
        | none => none)) k') := by
        have assoc : pb (pb (rb' ρ) fun y ρ2 => (match pslot i ρ2 with
          | some x => pret (x, y) ρ2
          | none => none)) k' = pb (rb' ρ) fun y ρ2 => pb (match pslot i ρ2 with
          | some x => pret (x, y) ρ2
          | none => none) k' := by
          match rb' ρ with
          | none => rfl
          | some (.exn _ _ _ _) => rfl
          | some (.val y ρ2) => rfl
        rw [assoc]
        refine (gb h S ρ .refl I).bind fun h2 S2 ρ2 y w st2 J2 ry => ?_
        cases e2 : pslot i ρ2 with
        | none => trivial
        | some x =>
          obtain ⟨v2, e3, p2⟩ := slot_pk J2 e2
          rw [e1] at e3
          cases e3
          exact f h2 S2 ρ2 x v y w st2 J2 p2 ry
      exact q
  | _ => exact dflt
/-- what is read and handed on -/
theorem fin_ok {L : Nat} {t : Bool} {x : EV V} {y : PV D} (g : Good F Γ σ h S R0 x y) : Good F Γ σ h S (RE F Γ σ L false) (bnd x (fin t)) (pb y (pfin t)) :=
  g.bind fun h1 S1 ρ1 d v _ J r => fin_rep J r (fun z => by cases z)
theorem pshr_ok {o : ME} {ρ' : PS} {x : D} {v : V} {Γh : Gam} {cur : Option (Nat × Nat)} (I : PInv F Γ σ ρ h S) (e : pshr o ρ = some ρ') (hv : ∀ i, o = .var i → pslot i ρ = some x ∧ σ[i]? = some (some v)) (hr : (∀ i, o ≠ .var i) → Rep h S x v) : ∃ S', Step F h S h S' ∧ PInv F Γ σ ρ' h S' ∧ Rep h S' x v := by
  have dflt : (∀ i, o ≠ .var i) → pshr o ρ = some ρ → ∃ S', Step F h S h S' ∧ PInv F Γ σ ρ' h S' ∧ Rep h S' x v := fun no e2 => by
    rw [e2] at e
    cases e
    exact ⟨S, .refl, I, hr no⟩
  cases o with
  | var i =>
    obtain ⟨h1, h2⟩ := hv i rfl
    unfold pshr at e
    simp only at e
    split at e
    · rename_i d e1
      cases e
      obtain ⟨u, e2, r⟩ := I.slot i _ e1
      rw [h2] at e2
      cases e2
      have : pslot i ρ = some d := by unfold pslot; simp only [e1]
      rw [h1] at this
      cases this
      exact ⟨S, .refl, I, r⟩
    · rename_i d e1
      cases e
      obtain ⟨u, S', e2, r, J, st⟩ := I.share e1
      rw [h2] at e2
      cases e2
      have : pslot i ρ = some d := by unfold pslot; simp only [e1]
      rw [h1] at this
      cases this
      exact ⟨S', st, J, r⟩
    · cases e
  | _ => exact dflt (fun i z => by cases z) rfl
end
end MQ
end
section
set_option Elab.async false
set_option linter.all false
set_option maxHeartbeats 8000000
/-! expressions: all of them -/
namespace MQ
open PySem MP
open L2 (V St Hp Key)
section
variable {F : Fr} {Γ : PG} {σ : St} {ρ : PS} {h h' : IH} {S S' : Nat → Prop} {c : Nat → List V → IH → EV V} {α β : Type}
theorem bndN_assoc {α β γ : Type} (x : EV α) (k : α → IH → EV β) (l : β → IH → EV γ) : bnd (bndN x k) l = bndN x fun a h => bnd (k a h) l := by
  cases x with
  | none => rfl
  | some o => cases o <;> rfl
theorem isTy_g : isTy (gof Γ.G c) = isTy Γ.G := by
  funext a b
  cases a <;> cases b <;> rfl
theorem isCV_g {C : Nat} {h : IH} {x : V} : isCV (gof Γ.G c) C h x = isCV Γ.G C h x := rfl
/-- list(zip(..)) -/
theorem pzip_res {x y : D} {v w : V} {ps : List (D × D)} (rx : Pk h S x v) (ry : Pk h S y w) (e : pzip x y = some ps) : ∃ qs, zipS v w h = some qs ∧ qs.length = ps.length ∧ ∀ (i : Nat) (p : D × D), ps[i]? = some p → ∃ q, qs[i]? = some q ∧ Rep h S p.1 q.1 ∧ Rep h S p.2 q.2 := by
  have core : ∀ {xs ys : List D} {vs ws : List V}, Reps h S xs vs → Reps h S ys ws → (vs.zip ws).length = (xs.zip ys).length ∧ ∀ (i : Nat) (p : D × D), (xs.zip ys)[i]? = some p → ∃ q, (vs.zip ws)[i]? = some q ∧ Rep h S p.1 q.1 ∧ Rep h S p.2 q.2 := by
    intro xs ys vs ws q1 q2
    refine ⟨by simp [q1.length, q2.length], fun i p ep => ?_⟩
    rw [List.getElem?_zip_eq_some] at ep
    obtain ⟨v', e1, r1⟩ := q1.get ep.1
    obtain ⟨w', e2, r2⟩ := q2.get ep.2
    exact ⟨(v', w'), List.getElem?_zip_eq_some.mpr ⟨e1, e2⟩, r1, r2⟩
  unfold pzip at e
  split at e
  · obtain rfl := rx.estr
    obtain rfl := ry.estr
    cases e
    exact ⟨_, rfl, core (Reps.map fun _ _ => .str) (Reps.map fun _ _ => .str)⟩
  · rename_i no
    split at e
    · rename_i xs ys e1 e2
      cases e
      obtain ⟨vs, f1, q1⟩ := rx.lst e1
      obtain ⟨ws, f2, q2⟩ := ry.lst e2
      refine ⟨vs.zip ws, ?_, core q1 q2⟩
      cases v with
      | ref a => unfold zipS; simp only [f1, f2]
      | _ => cases f1
    · cases e
theorem lzip_res {x y d : D} {v w : V} (bd : ∀ a, S a → a < h.length) (rx : Pk h S x v) (ry : Pk h S y w) (e : plzip x y = some d) : Res h S true (lzipV v w h) d := by
  unfold plzip at e
  split at e
  · rename_i ps ep
    split at e <;> cases e
    rename_i cl
    obtain ⟨qs, e1, hl, q⟩ := pzip_res rx ry ep
    refine .inr ⟨qs.map (fun p => MP.IO.tup [p.1, p.2]), .lst ((List.range qs.length).map fun i => V.ref (h.length + i)), ?_, .lst ?_⟩
    · unfold lzipV
      simp only [e1, hl, cl, if_true]
      simp [hl]
    · have all : ∀ (n : Nat), n ≤ ps.length → Reps (h ++ qs.map (fun p => MP.IO.tup [p.1, p.2])) S ((ps.drop n).map fun p => D.tup [p.1, p.2] false) (((List.range qs.length).drop n).map fun i => V.ref (h.length + i)) := by
        intro n hn
        induction k : ps.length - n generalizing n with
        | zero =>
          have e2 : n = ps.length := by omega
          subst e2
          rw [List.drop_of_length_le (Nat.le_refl _), List.drop_of_length_le (by simp [hl])]
          exact .nil
        | succ k ih =>
          have hlt : n < ps.length := by omega
          have hlt2 : n < (List.range qs.length).length := by simp [hl]; omega
          rw [List.drop_eq_getElem_cons hlt, List.drop_eq_getElem_cons hlt2, List.map_cons, List.map_cons]
          refine .cons ?_ (ih (n + 1) (by omega) (by omega))
          obtain ⟨p2, g1, r1, r2⟩ := q n ps[n] (List.getElem?_eq_getElem hlt)
          have kk : ∀ (a : Nat) (o : MP.IO), h[a]? = some o → ¬ S a → (h ++ qs.map (fun p => MP.IO.tup [p.1, p.2]))[a]? = some o ∧ ¬ S a := fun a o e n => ⟨app_keep a o e, n⟩
          rw [List.getElem_range]
          refine .ref (o := .tup [p2.1, p2.2]) ?_ (fun z => by have := bd _ z; omega) (.tup (.cons (r1.mono kk) (.cons (r2.mono kk) .nil)))
          rw [List.getElem?_append_right (by omega), show h.length + n - h.length = n from by omega, List.getElem?_map, g1]
          rfl
      have z := all 0 (Nat.zero_le _)
      rw [List.drop_zero, List.drop_zero] at z
      exact z
  · cases e
theorem dct_ok : ∀ {kvs : List (Key × V)} {ds : List (Key × D)}, pdct kvs = some ds → RepK h S ds kvs
  | [], _, e => by unfold pdct at e; cases e; exact .nil
  | (k, v) :: r, _, e => by
    unfold pdct at e
    split at e
    · rename_i d ds e1 e2
      cases e
      exact .cons (dOf_rep e1) (dct_ok e2)
    · cases e
theorem mut_ok {m : Bm} {xs ys ds : List D} {vs ws : List V} {d : D} {a : Nat} (e : pmut m xs ds = some (d, ys)) (mm : isMutM m = true) (ea : h[a]? = some (.lst vs)) (q : Reps h S xs vs) (r : Reps h S ds ws) : ∃ v vs', bmeth m (.ref a) ws h = some (.val v (h.set a (.lst vs'))) ∧ Reps h S ys vs' ∧ Rep h S d v := by
  unfold pmut at e
  split at e
  · cases r with
    | cons r1 r2 =>
      cases r2
      split at e
      · rename_i cl
        cases e
        exact ⟨.non, _, by unfold bmeth mAppend; simp only [ea, q.length, cl, if_true], q.app (.cons r1 .nil), .non⟩
      · cases e
  · cases r with
    | cons r1 r2 =>
      cases r2
      obtain ⟨b, zs, rfl, e1, q2⟩ := r1.pk.elst
      split at e
      · rename_i cl
        cases e
        exact ⟨.non, _, by unfold bmeth mExtend; simp only [ea, e1, q.length, q2.length, cl, if_true], q.app q2, .non⟩
      · cases e
  · cases r
    obtain ⟨y, e1, e2⟩ := map_some e
    cases e2
    obtain ⟨v, g1, g2⟩ := q.get e1
    exact ⟨v, _, by unfold bmeth mPop; simp only [ea, q.length, g1], q.dropLast, g2⟩
  · cases r
    cases e
    exact ⟨.non, _, by unfold bmeth mClear; simp only [ea], .nil, .non⟩
  · cases e
/-- a list of one's own is written by its method -/
theorem pmut_ok {L : Nat} {m : Bm} {j : Nat} {ds : List D} {ws : List V} {u : V} {t : Bool} (I : PInv F Γ σ ρ h S) (hu : σ[j]? = some (some u)) (r : Reps h S ds ws) (mm : isMutM m = true) :
    Good F Γ σ h S (RE F Γ σ L false) (bnd (bmeth m u ws h) (fin t)) (match ρ[j]? with
        | some (some (.sh, _)) => none
        | some (some (md, .lst xs)) => (match pmut m xs ds with
          | some (d, ys) => pfin t d (ρ.set j (some (md, .lst ys)))
          | none => none)
        | _ => none) := by
  split
  · trivial
  · rename_i md xs nsh e
    have nm : md ≠ .sh := fun z => by subst z; first | exact nsh _ e | exact nsh _ rfl | simp_all
    obtain ⟨v, e2, q⟩ := I.slot j _ e
    rw [hu] at e2; cases e2
    have ow : ∃ a, u = .ref a ∧ S a ∧ OwnO h S a (.lst xs) := by
      cases md with
      | sh => exact absurd rfl nm
      | ow => obtain ⟨a, z, _, s, q⟩ := q; exact ⟨a, z, s, q⟩
      | io => obtain ⟨a, z, _, _, s, q⟩ := q; exact ⟨a, z, s, q⟩
    obtain ⟨a, rfl, sa, o, eo, mo, ro⟩ := ow
    cases ro with
    | lst q =>
    split
    · rename_i d ys ec
      obtain ⟨v, vs', e3, q3, rv⟩ := mut_ok (h := h) (S := S) (a := a) ec mm eo q r
      rw [e3]
      have hl : h.length ≤ (h.set a (.lst vs')).length := by simp
      have kp : ∀ (b : Nat) (o : MP.IO), b ≠ a → h[b]? = some o → (h.set a (.lst vs'))[b]? = some o := fun b o n e => by rw [List.getElem?_set_ne (Ne.symm n)]; exact e
      have kk : ∀ (b : Nat) (o : MP.IO), h[b]? = some o → ¬ S b → (h.set a (.lst vs'))[b]? = some o ∧ ¬ S b := fun b o e n => ⟨kp b o (fun z => n (z ▸ sa)) e, n⟩
      have U := I.upd (h' := h.set a (.lst vs')) (y := .lst ys) e nm hu hl kp ⟨.lst vs', List.getElem?_set_self (lt_of eo), rfl, .lst (Reps.mono kk q3)⟩
      exact Good.after U.2 (fin_rep U.1 (rv.mono kk) (fun z => by cases z))
    · trivial
  · trivial
theorem RPk.re {L : Nat} {fr : Bool} {d : D} {v : V} (I : PInv F Γ σ ρ h S) (r : RE F Γ σ L true h S ρ d v) : RE F Γ σ L fr h S ρ d v := ⟨r.1, fun _ m => r.2 rfl m⟩
theorem RE.fls {L L2 : Nat} {fr : Bool} {d : D} {v : V} (r : RE F Γ σ L fr h S ρ d v) : RE F Γ σ L2 false h S ρ d v := ⟨r.1, fun z => by cases z⟩
theorem make_fin {L : Nat} {fr t : Bool} {x : EV V} {y : PV D} (g : Good F Γ σ h S (RE F Γ σ L true) x y) : Good F Γ σ h S (RE F Γ σ L fr) (bnd x (fin t)) (pb y (pfin t)) :=
  g.bind fun h1 S1 ρ1 d v _ J r => fin_pk J r.1.pk fun _ => RPk.re J r
/-- a receiver: read, and given away later -/
theorem rcv_ok {L : Nat} (b : ME) {Γh : Gam} {cur : Option (Nat × Nat)} {r : PV D} {fr : Bool} (I : PInv F Γ σ ρ h S) (g : Good F Γ σ h S (RE F Γ σ L fr) (evE Γh cur false b σ h) r) :
    Good F Γ σ h S (fun h S ρ x v => Pk h S x v ∧ (∀ i, b = .var i → pslot i ρ = some x ∧ σ[i]? = some (some v)) ∧ ((∀ i, b ≠ .var i) → Rep h S x v)) (evE Γh cur false b σ h) (pk b ρ r) := by
  have dflt : (∀ i, b ≠ .var i) → Good F Γ σ h S (fun h S ρ x v => Pk h S x v ∧ (∀ i, b = .var i → pslot i ρ = some x ∧ σ[i]? = some (some v)) ∧ ((∀ i, b ≠ .var i) → Rep h S x v)) (evE Γh cur false b σ h) r :=
    fun n => g.imp fun _ _ _ _ _ _ r => ⟨r.1.pk, fun i e => absurd e (n i), fun _ => r.1⟩
  cases b with
  | var i =>
    show Good _ _ _ _ _ _ _ (match pslot i ρ with | some d => pret d ρ | none => none)
    cases e : pslot i ρ with
    | none => trivial
    | some d =>
      obtain ⟨v, e1, p⟩ := slot_pk I e
      rw [e_var, slotV_eq e1]
      exact .val I ⟨p, fun j z => by cases z; exact ⟨e, e1⟩, fun z => absurd rfl (z i)⟩
  | _ => exact dflt fun i z => by cases z
mutual
theorem pE_ok (hc : CallOk Γ c) : ∀ (e : ME) {σ : St} {ρ : PS} {h : IH} {S : Nat → Prop} {cur : Option (Nat × Nat)} {pcur : Option (Nat × Nat × D)} (t : Bool), PInv F Γ σ ρ h S → CurR h S cur pcur → Good F Γ σ h S (RE F Γ σ h.length (frE e)) (evE (gof Γ.G c) cur t e σ h) (pE Γ pcur t e ρ)
  | .var i, σ, ρ, h, S, cur, pcur, t, I, K => by
    rw [e_var]; unfold pE
    cases t with
    | false => rw [bnd_fin]; exact (pvar_ok I i).imp fun _ _ _ _ _ _ r => RE.im r (fun z => by cases z)
    | true =>
      simp only [if_true]
      cases e : pslot i ρ with
      | none => trivial
      | some d =>
        obtain ⟨v, e1, p⟩ := slot_pk I e
        rw [slotV_eq e1]
        exact fin_pk I p fun z => by cases z
  | .glb g, σ, ρ, h, S, cur, pcur, t, I, K => by
    rw [e_glb]; unfold pE
    cases e : Γ.glob g with
    | none => trivial
    | some d =>
      obtain ⟨v, e1, r⟩ := I.glb.glb g d e
      show Good _ _ _ _ _ _ (bnd (optV (Γ.G.glob g) h) (fin t)) _
      rw [e1]
      exact fin_rep I r (fun z => by cases z)
  | .cst v, σ, ρ, h, S, cur, pcur, t, I, K => by
    rw [e_cst]; unfold pE
    cases e : dOf v with
    | none => trivial
    | some d => exact fin_rep I (dOf_rep e) (fun z => by cases z)
  | .lst es, σ, ρ, h, S, cur, pcur, t, I, K => by
    rw [e_lst, bnd_assoc]; unfold pE
    refine (pA_ok hc es I K).bind fun h1 S1 ρ1 ds vs st J r => ?_
    have r : Reps h1 S1 ds vs := r
    split
    · rename_i cl
      exact Good.res J (.new (by unfold listV; rw [r.length, if_pos cl]; rfl) (.lst r))
    · trivial
  | .tup es, σ, ρ, h, S, cur, pcur, t, I, K => by
    rw [e_tup, bnd_assoc]; unfold pE
    refine (pA_ok hc es I K).bind fun h1 S1 ρ1 ds vs st J r => ?_
    have r : Reps h1 S1 ds vs := r
    split
    · rename_i cl
      exact Good.res J (.new (by unfold tupV; rw [r.length, if_pos cl]; rfl) (.tup r))
    · trivial
  | .bin op a b, σ, ρ, h, S, cur, pcur, t, I, K => by
    rw [e_bin]; simp only [bnd_assoc]; unfold pE
    exact pfst_ok (R := RPk) a I (pE_ok hc a false I K) (fun h1 S1 ρ1 st J => pk_ok b J (pE_ok hc b false J (K.mono st.k))) fun h2 S2 ρ2 x v y w st J rx ry => po_res J fun d e => binop_res rx ry e
  | .neg a, σ, ρ, h, S, cur, pcur, t, I, K => by
    rw [e_neg, bnd_assoc]; unfold pE
    refine (pE_ok hc a false I K).bind fun h1 S1 ρ1 x v st J r => ?_
    split
    · obtain rfl := r.1.pk.eint
      exact fin_rep J .int fun _ => rfl
    · trivial
  | .cmp op a b, σ, ρ, h, S, cur, pcur, t, I, K => by
    rw [e_cmp]; simp only [bnd_assoc]; unfold pE
    refine pfst_ok (R := RPk) a I (pE_ok hc a false I K) (fun h1 S1 ρ1 st J => pk_ok b J (pE_ok hc b false J (K.mono st.k))) fun h2 S2 ρ2 x v y w st J rx ry => po_res J fun d e => ?_
    obtain ⟨k, e1, rfl⟩ := map_some e
    exact .val (cmp_res rx ry e1) .bl fun _ => rfl
  | .cmp2 op op' a b c', σ, ρ, h, S, cur, pcur, t, I, K => by
    rw [e_cmp2]; unfold pE
    refine (pE_ok hc a false I K).bind fun h1 S1 ρ1 x v st1 J1 rx => ?_
    refine (pE_ok hc b false J1 (K.mono st1.k)).bind fun h2 S2 ρ2 y w st2 J2 ry => ?_
    have rx2 := (rx.1.step st2).pk
    cases e : pcmp op x y with
    | none => trivial
    | some k =>
      rw [cmp_res rx2 ry.1.pk e]
      cases k with
      | false => exact .val J2 (RE.im .bl fun _ => rfl)
      | true =>
        show Good _ _ _ _ _ _ (bnd (evE (gof Γ.G c) cur false c' _ h2) fun w h4 => bnd (cmpop op' _ w h4) (fin t)) _
        refine (pE_ok hc c' false J2 ((K.mono st1.k).mono st2.k)).bind fun h3 S3 ρ3 z u st3 J3 rz => ?_
        refine po_res J3 fun d e => ?_
        obtain ⟨k, e1, rfl⟩ := map_some e
        exact .val (cmp_res (ry.1.step st3).pk rz.1.pk e1) .bl fun _ => rfl
  | .andE a b, σ, ρ, h, S, cur, pcur, t, I, K => by
    rw [e_andE]; unfold pE
    refine (pE_ok hc a t I K).bind fun h1 S1 ρ1 x v st J r => ?_
    cases x with
    | bl k =>
      obtain rfl := r.1.pk.ebl
      cases k with
      | true => exact (pE_ok hc b t J (K.mono st.k)).imp fun _ _ _ _ _ _ r => r.fls
      | false => exact .val J (RE.im .bl fun _ => rfl)
    | _ => exact True.intro
  | .orE a b, σ, ρ, h, S, cur, pcur, t, I, K => by
    rw [e_orE]; unfold pE
    refine (pE_ok hc a t I K).bind fun h1 S1 ρ1 x v st J r => ?_
    cases x with
    | bl k =>
      obtain rfl := r.1.pk.ebl
      cases k with
      | false => exact (pE_ok hc b t J (K.mono st.k)).imp fun _ _ _ _ _ _ r => r.fls
      | true => exact .val J (RE.im .bl fun _ => rfl)
    | _ => exact True.intro
  | .notE a, σ, ρ, h, S, cur, pcur, t, I, K => by
    rw [e_notE]; unfold pE
    refine (pE_ok hc a t I K).bind fun h1 S1 ρ1 x v st J r => ?_
    cases x with
    | bl k =>
      obtain rfl := r.1.pk.ebl
      exact .val J (RE.im .bl fun _ => rfl)
    | _ => exact True.intro
  | .ife k a b, σ, ρ, h, S, cur, pcur, t, I, K => by
    rw [e_ife]; unfold pE
    refine (pE_ok hc k true I K).bind fun h1 S1 ρ1 x v st J r => ?_
    cases x with
    | bl k =>
      obtain rfl := r.1.pk.ebl
      cases k with
      | true => exact (pE_ok hc a false J (K.mono st.k)).bind fun h2 S2 ρ2 y w st2 J2 r2 => fin_rep J2 r2.1 (fun z => by cases z)
      | false => exact (pE_ok hc b false J (K.mono st.k)).bind fun h2 S2 ρ2 y w st2 J2 r2 => fin_rep J2 r2.1 (fun z => by cases z)
    | _ => exact True.intro
  | .ix a b, σ, ρ, h, S, cur, pcur, t, I, K => by
    rw [e_ix]; simp only [bnd_assoc]; unfold pE
    exact pfst_ok (R := RPk) a I (pE_ok hc a false I K) (fun h1 S1 ρ1 st J => pk_ok b J (pE_ok hc b false J (K.mono st.k))) fun h2 S2 ρ2 x v y w st J rx ry => po_res J fun d e => pix_res rx ry e
  | .sl a lo hi, σ, ρ, h, S, cur, pcur, t, I, K => by
    rw [e_sl]; simp only [bnd_assoc]; unfold pE
    have e1 : (bnd (evE (gof Γ.G c) cur false a σ h) fun x h1 => bnd (evO (gof Γ.G c) cur lo σ h1) fun l h2 => bnd (evO (gof Γ.G c) cur hi σ h2) fun r h3 => bnd (getsl x l r h3) (fin t))
      = bnd (evE (gof Γ.G c) cur false a σ h) fun x h1 => bnd (bnd (evO (gof Γ.G c) cur lo σ h1) fun l h2 => bnd (evO (gof Γ.G c) cur hi σ h2) fun r h3 => ret (l, r) h3) fun z h3 => bnd (getsl x z.1 z.2 h3) (fin t) := by
      simp only [bnd_assoc]
      rfl
    rw [e1]
    exact pfst_ok (R := REq) a I (pE_ok hc a false I K) (fun h1 S1 ρ1 st J => (pO_ok hc lo J (K.mono st.k)).bind fun h2 S2 ρ2 l l' st2 J2 r2 => (pO_ok hc hi J2 ((K.mono st.k).mono st2.k)).bind fun h3 S3 ρ3 r r' st3 J3 r3 => by
      obtain rfl : l' = l := r2
      obtain rfl : r' = r := r3
      exact .val J3 rfl) fun h2 S2 ρ2 x v y w st J rx ry => by
      obtain rfl : w = y := ry
      exact po_res J fun d e => psl_res rx e
  | .att a f, σ, ρ, h, S, cur, pcur, t, I, K => by
    rw [e_att, bnd_assoc]; unfold pE
    refine (rcv_ok a I (pE_ok hc a false I K)).bind fun h1 S1 ρ1 x v st J ⟨rx, q1, q2⟩ => ?_
    cases x with
    | ins C fs =>
      obtain ⟨p, gs, rfl, e1, rf⟩ := rx.eins
      dsimp only
      split
      · rename_i d ed
        obtain ⟨y, e2, ry⟩ := (rf.look (f := f)).2 d ed
        split
        · rename_i hf
          have e3 : attV (gof Γ.G c) f (.ref p) h1 = some (.val y h1) := by
            unfold attV
            simp only [e1, e2]
            rw [if_pos hf]
          rw [e3]
          exact fin_rep J ry (fun z => by cases z)
        · trivial
      · rename_i ed
        have e2 := (rf.look (f := f)).1 ed
        split
        · rename_i g ρ2 eg es
          obtain ⟨S', st2, J2, rr⟩ := pshr_ok (o := a) (Γh := gof Γ.G c) (cur := cur) J es q1 q2
          have e3 : attV (gof Γ.G c) f (.ref p) h1 = bndN (c g [.ref p] h1) ret := by
            unfold attV
            simp only [e1, e2]
            rw [show (gof Γ.G c).prop C f = some g from eg]
          rw [e3, bndN_assoc]
          exact Good.after st2 ((pcall_ok hc J2 (.cons rr .nil)).bindN fun h3 S3 ρ3 d u _ J3 r3 => fin_rep J3 r3 (fun z => by cases z))
        · trivial
    | cls C =>
      obtain ⟨p, rfl, e1⟩ := rx.ecls
      refine po_res J fun d e => ?_
      obtain ⟨w, e2, e3⟩ := bind_some e
      refine .val (v := w) ?_ (dOf_rep e3) (fun z => by cases z)
      unfold attV
      simp only [e1]
      rw [show (gof Γ.G c).con C f = some w from e2]
      rfl
    | exo C g w =>
      obtain ⟨p, d, u, rfl, e1, e2, rw'⟩ := rx.eexo
      show Good _ _ _ _ _ _ _ (if f = g ∧ Γ.G.exf C = some f then pfin t w ρ1 else none)
      split
      · rename_i cc
        have e3 : attV (gof Γ.G c) f (.ref p) h1 = some (.val u h1) := by
          unfold attV
          simp only [e1, e2]
          exact if_pos cc
        rw [e3]
        exact fin_rep J rw' (fun z => by cases z)
      · trivial
    | _ => exact True.intro
  | .call f es, σ, ρ, h, S, cur, pcur, t, I, K => by
    rw [e_call]; unfold pE
    split
    · split
      · rename_i j ej
        split
        · rename_i d ed
          obtain ⟨v, e1, _⟩ := slot_pk I ed
          have e2 : evA (gof Γ.G c) cur es σ h = bnd (evAt (gof Γ.G c) cur es σ h) fun vs h2 => ret (v :: vs) h2 := by
            cases es with
            | nil => cases ej
            | cons e r =>
              cases e with
              | var i =>
                cases ej
                simp only [evA, e_var, slotV_eq e1]
                rfl
              | _ => cases ej
          rw [e2]
          simp only [bnd_assoc]
          refine (pAt_ok hc es I K).bind fun h1 S1 ρ1 ds vs st J r => ?_
          exact fin_ok (pioc_ok hc J e1 r)
        · trivial
      · trivial
    · simp only [bnd_assoc]
      exact (pA_ok hc es I K).bind fun h1 S1 ρ1 ds vs st J r => fin_ok (pcall_ok hc J r)
  | .make C es, σ, ρ, h, S, cur, pcur, t, I, K => by
    rw [e_make, bnd_assoc]; unfold pE
    exact (pA_ok hc es I K).bind fun h1 S1 ρ1 ds vs st J r => make_fin (pmake_ok hc J r)
  | .met o m es, σ, ρ, h, S, cur, pcur, t, I, K => by
    rw [e_met, bnd_assoc]; unfold pE
    refine (rcv_ok o I (pE_ok hc o false I K)).bind fun h1 S1 ρ1 x v st J ⟨rx, q1, q2⟩ => ?_
    cases x with
    | ins C fs =>
      obtain ⟨p, gs, rfl, e1, rf⟩ := rx.eins
      dsimp only
      cases ed : plook m fs with
      | some _ => exact True.intro
      | none =>
        cases ef : Γ.G.meth C m with
        | none => exact True.intro
        | some f =>
          have e2 := (rf.look (f := m)).1 ed
          have e3 : methF (gof Γ.G c) m (.ref p) h1 = some f := by
            unfold methF
            simp only [e1, e2]
            exact ef
          rw [e3]
          show Good F Γ _ h1 S1 _ (bnd (bnd (evA (gof Γ.G c) cur es _ h1) fun vs h2 => c f (.ref p :: vs) h2) (fin t)) (if Γ.io f then (match o with
              | .var j => pb (pA Γ pcur es ρ1) fun ds ρ2 => pb (pioc Γ f j ds ρ2) (pfin t)
              | _ => none)
            else (match pshr o ρ1 with
              | some ρ2 => pb (pA Γ pcur es ρ2) fun ds ρ3 => pb (pcall Γ f (.ins C fs :: ds) ρ3) (pfin t)
              | none => none))
          simp only [bnd_assoc]
          cases hio : Γ.io f with
          | true =>
            simp only [if_true]
            cases o with
            | var j =>
              refine (pA_ok hc es J (K.mono st.k)).bind fun h2 S2 ρ2 ds vs st2 J2 r2 => ?_
              exact fin_ok (pioc_ok hc J2 (q1 j rfl).2 r2)
            | _ => exact True.intro
          | false =>
            simp only [Bool.false_eq_true, if_false]
            cases es' : pshr o ρ1 with
            | none => exact True.intro
            | some ρ2 =>
              obtain ⟨S', st2, J2, rr⟩ := pshr_ok (o := o) (Γh := gof Γ.G c) (cur := cur) J es' q1 q2
              refine Good.after st2 ((pA_ok hc es J2 ((K.mono st.k).mono st2.k)).bind fun h3 S3 ρ3 ds vs st3 J3 r3 => ?_)
              exact fin_ok (pcall_ok hc J3 (.cons (rr.step st3) r3))
    | _ => exact True.intro
  | .clm C m es, σ, ρ, h, S, cur, pcur, t, I, K => by
    rw [e_clm]; unfold pE
    show Good _ _ _ _ _ _ (bnd (match Γ.G.cmeth C m, Γ.G.clsAt C with
      | some (f, true), some k => bnd (evA (gof Γ.G c) cur es σ h) fun vs h1 => c f (.ref k :: vs) h1
      | some (f, false), _ => bnd (evA (gof Γ.G c) cur es σ h) fun vs h1 => c f vs h1
      | _, _ => none) (fin t)) _
    cases e1 : Γ.G.cmeth C m with
    | none => trivial
    | some fb =>
      obtain ⟨f, b⟩ := fb
      cases b with
      | true =>
        cases e2 : Γ.G.clsAt C with
        | none => trivial
        | some k =>
          simp only [bnd_assoc]
          exact (pA_ok hc es I K).bind fun h1 S1 ρ1 ds vs st J r => fin_ok (pcall_ok hc J (.cons (J.glb.cls C k e2) r))
      | false =>
        simp only [bnd_assoc]
        exact (pA_ok hc es I K).bind fun h1 S1 ρ1 ds vs st J r => fin_ok (pcall_ok hc J r)
  | .callv i es, σ, ρ, h, S, cur, pcur, t, I, K => by
    rw [e_callv, bnd_assoc]; unfold pE
    refine (pvar_ok I i).bind fun h1 S1 ρ1 x v st J r => ?_
    have r : Rep h1 S1 x v := r
    cases x with
    | cls C =>
      obtain ⟨p, rfl, e1⟩ := r.pk.ecls
      show Good _ _ _ _ _ _ _ (if (Γ.G.init C).isSome then pb (pA Γ pcur es ρ1) fun ds ρ2 => pb (pmake Γ C ds ρ2) (pfin t) else none)
      cases hi : (Γ.G.init C).isSome with
      | false => exact True.intro
      | true =>
        have e2 : calV (gof Γ.G c) (.ref p) h1 = some (.mk C) := by
          unfold calV
          simp only [e1]
          exact if_pos hi
        rw [e2]
        simp only [if_true]
        show Good _ _ _ _ _ _ (bnd (bnd (evA (gof Γ.G c) cur es _ h1) fun vs h2 => makeV (gof Γ.G c) C vs h2) (fin t)) _
        simp only [bnd_assoc]
        exact (pA_ok hc es J (K.mono st.k)).bind fun h2 S2 ρ2 ds vs st2 J2 r2 => make_fin (pmake_ok hc J2 r2)
    | ins C fs =>
      obtain ⟨p, gs, ep, e1, rf⟩ := r.pk.eins
      subst ep
      cases ef : Γ.G.callm C with
      | none => show Good _ _ _ _ _ _ _ (match Γ.G.callm C with | some f => _ | none => none); rw [ef]; exact True.intro
      | some f =>
        have e2 : calV (gof Γ.G c) (.ref p) h1 = some (.inst p) := by
          unfold calV
          simp only [e1]
        rw [e2]
        show Good _ _ _ _ _ _ (bnd (bnd (evA (gof Γ.G c) cur es _ h1) fun vs h2 => runCal (gof Γ.G c) (.inst p) vs h2) (fin t)) (match Γ.G.callm C with
          | some f => pb (pA Γ pcur es ρ1) fun ds ρ2 => pb (pcall Γ f (.ins C fs :: ds) ρ2) (pfin t)
          | none => none)
        rw [ef]
        simp only [bnd_assoc]
        refine (pA_ok hc es J (K.mono st.k)).bind fun h2 S2 ρ2 ds vs st2 J2 r2 => ?_
        have r3 := r.step st2
        obtain ⟨p', gs', ep', e3, rf'⟩ := r3.pk.eins
        cases ep'
        have e4 : runCal (gof Γ.G c) (.inst p) vs h2 = c f (.ref p :: vs) h2 := by
          unfold runCal
          simp only [e3]
          rw [show (gof Γ.G c).callm C = some f from ef]
        rw [e4]
        exact fin_ok (pcall_ok hc J2 (.cons r3 r2))
    | _ => exact True.intro
  | .bi b es, σ, ρ, h, S, cur, pcur, t, I, K => by
    rw [e_bi, bnd_assoc]; unfold pE
    exact (pAk_ok hc es I K).bind fun h1 S1 ρ1 ds vs st J r => po_res J fun d e => bif_res r e
  | .bm m o es, σ, ρ, h, S, cur, pcur, t, I, K => by
    rw [e_bm, bnd_assoc]; unfold pE
    split
    · rename_i mm
      split
      · rename_i j
        split
        · rename_i xs ed
          obtain ⟨v, e1, p⟩ := slot_pk I ed
          obtain ⟨a, ys, rfl, e2, q⟩ := p.elst
          have bt : bmTy m (.ref a) h = true := by
            cases m <;> first | (cases mm; done) | (unfold bmTy isLst; simp only [e2])
          rw [e_var, slotV_eq e1]
          show Good _ _ _ _ _ _ (bnd (if bmTy m (.ref a) h = true then bnd (evA (gof Γ.G c) cur es σ h) fun vs h2 => bmeth m (.ref a) vs h2 else none) (fin t)) _
          rw [if_pos bt]
          simp only [bnd_assoc]
          exact (pA_ok hc es I K).bind fun h1 S1 ρ1 ds vs st J r => pmut_ok J e1 r mm
        · trivial
      · trivial
    · refine (pE_ok hc o false I K).bind fun h1 S1 ρ1 x v st J r => ?_
      cases bt : pbmTy m x with
      | false => exact True.intro
      | true =>
        rw [if_pos (bmTy_ok r.1.pk bt)]
        simp only [bnd_assoc, if_true]
        exact (pAk_ok hc es J (K.mono st.k)).bind fun h2 S2 ρ2 ds vs st2 J2 r2 => (po_res J2 fun d e => bm_res (r.1.step st2) r2 e).imp fun _ _ _ _ _ _ r => RE.fls r
  | .isI a ty, σ, ρ, h, S, cur, pcur, t, I, K => by
    rw [e_isI]; unfold pE
    refine (pk_ok a I (pE_ok hc a false I K)).bind fun h1 S1 ρ1 x v st J r => ?_
    split
    · rename_i u e
      unfold MP.tyV
      rw [Pk.ty r, e, isTy_g]
      exact .val J (RE.im .bl fun _ => rfl)
    · trivial
  | .isIs a ts, σ, ρ, h, S, cur, pcur, t, I, K => by
    rw [e_isIs]; unfold pE
    refine (pk_ok a I (pE_ok hc a false I K)).bind fun h1 S1 ρ1 x v st J r => ?_
    split
    · rename_i u e
      unfold MP.tyV
      rw [Pk.ty r, e, isTy_g]
      exact .val J (RE.im .bl fun _ => rfl)
    · trivial
  | .lc ws elt tg it k, σ, ρ, h, S, cur, pcur, t, I, K => by
    rw [e_lc, bnd_assoc]; unfold pE
    refine (pI_ok hc it I K).bind fun h1 S1 ρ1 is its st J r => ?_
    unfold lcRun
    rw [bndN_assoc]
    refine (ploopC_ok (fun x y h S ρ I r => pturn_ok (fun σ ρ h S I => pCn_ok hc k I) (fun σ ρ h S I => (pE_ok hc elt false I (cur := none) (pcur := none) trivial).imp fun _ _ _ _ _ _ r => r.1) I r) J r.1 r.2).bindN fun h2 S2 ρ2 ds vs st2 J2 r2 => ?_
    have r2 : Reps h2 S2 ds vs := r2
    split
    · rename_i cl
      exact Good.res J2 (.new (by unfold listV; rw [r2.length, if_pos cl]; rfl) (.lst r2))
    · trivial
  | .curF f, σ, ρ, h, S, cur, pcur, t, I, K => by
    rw [e_curF]; unfold pE
    match cur, pcur, K with
    | none, none, _ => trivial
    | some (C, d), some (C', g, w), ⟨eC, v, e1, n, rv⟩ =>
      subst eC
      show Good _ _ _ _ _ _ _ (if f = g ∧ Γ.G.exf C' = some f then pfin t w ρ else none)
      split
      · rename_i cc
        have e2 : curV (gof Γ.G c) (some (C', d)) f h = some (.val v h) := by
          unfold curV
          simp only [e1]
          rw [if_pos cc]
        rw [e2]
        exact fin_rep I rv (fun z => by cases z)
      · trivial
  | .curI E, σ, ρ, h, S, cur, pcur, t, I, K => by
    rw [e_curI]; unfold pE
    match cur, pcur, K with
    | none, none, _ => trivial
    | some (C, d), some (C', g, w), ⟨eC, v, e1, n, rv⟩ =>
      subst eC
      show Good _ _ _ _ _ _ _ (if (Γ.G.exf C').isSome then pret (D.bl (Γ.G.sub C' E)) ρ else none)
      split
      · rename_i cc
        have e2 : curIV (gof Γ.G c) (some (C', d)) (fun C => (gof Γ.G c).sub C E) h = some (.val (.bl (Γ.G.sub C' E)) h) := by
          unfold curIV
          simp only [e1]
          rw [if_pos cc]
        rw [e2]
        exact .val I (RE.im .bl fun _ => rfl)
      · trivial
  | .curB E, σ, ρ, h, S, cur, pcur, t, I, K => by
    rw [e_curB]; unfold pE
    match cur, pcur, K with
    | none, none, _ => trivial
    | some (C, d), some (C', g, w), ⟨eC, v, e1, n, rv⟩ =>
      subst eC
      show Good _ _ _ _ _ _ _ (if (Γ.G.exf C').isSome then pret (D.bl (Γ.G.subB C' E)) ρ else none)
      split
      · rename_i cc
        have e2 : curIV (gof Γ.G c) (some (C', d)) (fun C => (gof Γ.G c).subB C E) h = some (.val (.bl (Γ.G.subB C' E)) h) := by
          unfold curIV
          simp only [e1]
          rw [if_pos cc]
        rw [e2]
        exact .val I (RE.im .bl fun _ => rfl)
      · trivial
  | .dct kvs, σ, ρ, h, S, cur, pcur, t, I, K => by
    rw [e_dct]; unfold pE
    refine po_res I fun d e => ?_
    obtain ⟨ds, e1, rfl⟩ := map_some e
    exact .new rfl (.dic (dct_ok e1))
  | .dn d a b, σ, ρ, h, S, cur, pcur, t, I, K => by
    rw [x_dn]; simp only [bnd_assoc]; unfold pE
    refine (pE_ok hc a false I K).bind fun h1 S1 ρ1 x v st1 J1 rx => ?_
    refine (pE_ok hc b false J1 (K.mono st1.k)).bind fun h2 S2 ρ2 y w st2 J2 ry => ?_
    exact fin_ok (pdn_ok hc J2 (rx.1.step st2) ry.1)
  | .dn1 d a, σ, ρ, h, S, cur, pcur, t, I, K => by
    rw [x_dn1, bnd_assoc]; unfold pE
    exact (pE_ok hc a false I K).bind fun h1 S1 ρ1 x v st1 J1 rx => fin_ok (pdn1_ok hc J1 rx.1)
  | .con C f, σ, ρ, h, S, cur, pcur, t, I, K => by
    rw [x_con]; unfold pE
    refine po_res I fun d e => ?_
    obtain ⟨w, e2, e3⟩ := bind_some e
    exact .val (v := w) (by rw [show (gof Γ.G c).con C f = some w from e2]; rfl) (dOf_rep e3) (fun z => by cases z)
  | .lzip a b, σ, ρ, h, S, cur, pcur, t, I, K => by
    rw [x_lzip]; simp only [bnd_assoc]; unfold pE
    refine (pE_ok hc a false I K).bind fun h1 S1 ρ1 x v st1 J1 rx => ?_
    refine (pE_ok hc b false J1 (K.mono st1.k)).bind fun h2 S2 ρ2 y w st2 J2 ry => ?_
    exact po_res J2 fun d e => lzip_res J2.bnd (rx.1.step st2).pk ry.1.pk e
  | .slr a, σ, ρ, h, S, cur, pcur, t, I, K => by
    rw [x_slr, bnd_assoc]; unfold pE
    exact (pk_ok a I (pE_ok hc a false I K)).bind fun h1 S1 ρ1 x v st J r => po_res J fun d e => slr_res r e
  | .fs es, σ, ρ, h, S, cur, pcur, t, I, K => by
    rw [x_fs, bnd_assoc]; unfold pE
    exact (pA_ok hc es I K).bind fun h1 S1 ρ1 ds vs st J r => (po_res J fun d e => fs_res r e).imp fun _ _ _ _ _ _ r => RE.fls r
  | .isC a C, σ, ρ, h, S, cur, pcur, t, I, K => by
    rw [x_isC]; unfold pE
    refine (pk_ok a I (pE_ok hc a false I K)).bind fun h1 S1 ρ1 x v st J r => ?_
    rw [isCV_g, isC_res r]
    cases pisC Γ.G C x with
    | none => exact True.intro
    | some b => exact .val J (RE.im .bl fun _ => rfl)
  | .dix a b, σ, ρ, h, S, cur, pcur, t, I, K => by
    rw [x_dix]; simp only [bnd_assoc]; unfold pE
    exact pfst_ok (R := RPk) a I (pE_ok hc a false I K) (fun h1 S1 ρ1 st J => pk_ok b J (pE_ok hc b false J (K.mono st.k))) fun h2 S2 ρ2 x v y w st J rx ry => po_res J fun d e => dix_res rx ry e
  | .mkx C e, σ, ρ, h, S, cur, pcur, t, I, K => by
    rw [x_mkx, bnd_assoc]; unfold pE
    refine (pE_ok hc e false I K).bind fun h1 S1 ρ1 x v st1 J1 rx => ?_
    unfold mkxV
    show Good _ _ _ _ _ _ (bnd (match Γ.G.exf C with | some f => _ | none => none) (fin t)) _
    cases Γ.G.exf C with
    | none => exact True.intro
    | some f =>
      refine (Good.res (fr := true) J1 (.inr ⟨[.xd f v], .exo C h1.length, by simp, .exo (by simp) (fun z => Nat.lt_irrefl _ (J1.bnd _ z)) (rx.1.mono fun a o e n => ⟨app_keep a o e, n⟩)⟩)).imp fun _ _ _ _ _ _ r => RE.fls r
  | .isE a E, σ, ρ, h, S, cur, pcur, t, I, K => by
    rw [x_isE]; unfold pE
    refine (pk_ok a I (pE_ok hc a false I K)).bind fun h1 S1 ρ1 x v st J r => ?_
    cases x with
    | exo C g w =>
      obtain ⟨p, d, u, rfl, e1, e2, _⟩ := Pk.eexo r
      show Good _ _ _ _ _ _ _ (if (Γ.G.exf C).isSome then pret (D.bl (Γ.G.sub C E)) ρ1 else none)
      split
      · rename_i cc
        have e3 : isEV (gof Γ.G c) (fun D => (gof Γ.G c).sub D E) (.ref p) h1 = some (.val (.bl (Γ.G.sub C E)) h1) := by
          unfold isEV exOf
          simp only [e1, e2]
          rw [if_pos cc]
        rw [e3]
        exact .val J (RE.im .bl fun _ => rfl)
      · trivial
    | _ => exact True.intro
  | .isX a E, σ, ρ, h, S, cur, pcur, t, I, K => by
    rw [x_isX]; unfold pE
    refine (pk_ok a I (pE_ok hc a false I K)).bind fun h1 S1 ρ1 x v st J r => ?_
    cases x with
    | exo C g w =>
      obtain ⟨p, d, u, rfl, e1, e2, _⟩ := Pk.eexo r
      show Good _ _ _ _ _ _ _ (if (Γ.G.exf C).isSome then pret (D.bl (Γ.G.subB C E)) ρ1 else none)
      split
      · rename_i cc
        have e3 : isEV (gof Γ.G c) (fun D => (gof Γ.G c).subB D E) (.ref p) h1 = some (.val (.bl (Γ.G.subB C E)) h1) := by
          unfold isEV exOf
          simp only [e1, e2]
          rw [if_pos cc]
        rw [e3]
        exact .val J (RE.im .bl fun _ => rfl)
      · trivial
    | _ => exact True.intro
  | .inK a b, σ, ρ, h, S, cur, pcur, t, I, K => by
    rw [x_inK]; unfold pE
    refine (pE_ok hc a false I K).bind fun h1 S1 ρ1 x v st1 J1 rx => ?_
    refine (pk_ok b J1 (pE_ok hc b false J1 (K.mono st1.k))).bind fun h2 S2 ρ2 y w st2 J2 ry => ?_
    split
    · rename_i k e
      rw [inK_res (rx.1.step st2).pk ry e]
      exact .val J2 (RE.im .bl fun _ => rfl)
    · trivial
theorem pA_ok (hc : CallOk Γ c) : ∀ (es : MA) {σ : St} {ρ : PS} {h : IH} {S : Nat → Prop} {cur : Option (Nat × Nat)} {pcur : Option (Nat × Nat × D)}, PInv F Γ σ ρ h S → CurR h S cur pcur → Good F Γ σ h S R0s (evA (gof Γ.G c) cur es σ h) (pA Γ pcur es ρ)
  | .nil, σ, ρ, h, S, cur, pcur, I, K => by
    unfold evA pA
    exact .val I .nil
  | .cons e r, σ, ρ, h, S, cur, pcur, I, K => by
    unfold evA pA
    refine (pE_ok hc e false I K).bind fun h1 S1 ρ1 x v st1 J1 rx => ?_
    refine (pA_ok hc r J1 (K.mono st1.k)).bind fun h2 S2 ρ2 y w st2 J2 ry => ?_
    exact .val J2 (.cons (rx.1.step st2) ry)
theorem pAt_ok (hc : CallOk Γ c) : ∀ (es : MA) {σ : St} {ρ : PS} {h : IH} {S : Nat → Prop} {cur : Option (Nat × Nat)} {pcur : Option (Nat × Nat × D)}, PInv F Γ σ ρ h S → CurR h S cur pcur → Good F Γ σ h S R0s (evAt (gof Γ.G c) cur es σ h) (pAt Γ pcur es ρ)
  | .nil, σ, ρ, h, S, cur, pcur, I, K => by
    unfold pAt
    trivial
  | .cons e r, σ, ρ, h, S, cur, pcur, I, K => by
    unfold evAt pAt
    exact pA_ok hc r I K
theorem pAk_ok (hc : CallOk Γ c) : ∀ (es : MA) {σ : St} {ρ : PS} {h : IH} {S : Nat → Prop} {cur : Option (Nat × Nat)} {pcur : Option (Nat × Nat × D)}, PInv F Γ σ ρ h S → CurR h S cur pcur → Good F Γ σ h S RPks (evA (gof Γ.G c) cur es σ h) (pAk Γ pcur es ρ)
  | .nil, σ, ρ, h, S, cur, pcur, I, K => by
    unfold evA pAk
    exact .val I .nil
  | .cons e .nil, σ, ρ, h, S, cur, pcur, I, K => by
    unfold evA pAk
    refine (pk_ok e I (pE_ok hc e false I K)).bind fun h1 S1 ρ1 x v st1 J1 rx => ?_
    unfold evA
    exact .val J1 (.cons rx .nil)
  | .cons e (.cons e2 r), σ, ρ, h, S, cur, pcur, I, K => by
    unfold evA
    unfold pAk
    refine (pE_ok hc e false I K).bind fun h1 S1 ρ1 x v st1 J1 rx => ?_
    refine (pAk_ok hc (.cons e2 r) J1 (K.mono st1.k)).bind fun h2 S2 ρ2 y w st2 J2 ry => ?_
    exact .val J2 (.cons (rx.1.step st2).pk ry)
theorem pO_ok (hc : CallOk Γ c) : ∀ (o : MO) {σ : St} {ρ : PS} {h : IH} {S : Nat → Prop} {cur : Option (Nat × Nat)} {pcur : Option (Nat × Nat × D)}, PInv F Γ σ ρ h S → CurR h S cur pcur → Good F Γ σ h S REq (evO (gof Γ.G c) cur o σ h) (pO Γ pcur o ρ)
  | .none, σ, ρ, h, S, cur, pcur, I, K => by
    unfold evO pO
    exact .val I rfl
  | .some e, σ, ρ, h, S, cur, pcur, I, K => by
    unfold evO pO
    refine (pE_ok hc e false I K).bind fun h1 S1 ρ1 x v st1 J1 rx => ?_
    split
    · obtain rfl := rx.1.pk.eint
      exact .val J1 rfl
    · trivial
theorem pCn_ok (hc : CallOk Γ c) : ∀ (o : MO) {σ : St} {ρ : PS} {h : IH} {S : Nat → Prop}, PInv F Γ σ ρ h S → Good F Γ σ h S R0 (evC (gof Γ.G c) o σ h) (pCn Γ o ρ)
  | .none, σ, ρ, h, S, I => by
    unfold evC pCn
    exact .val I .bl
  | .some e, σ, ρ, h, S, I => by
    unfold evC pCn
    exact (pE_ok hc e true I (cur := none) (pcur := none) trivial).imp fun _ _ _ _ _ _ r => r.1
theorem pI_ok (hc : CallOk Γ c) : ∀ (m : MI) {σ : St} {ρ : PS} {h : IH} {S : Nat → Prop} {cur : Option (Nat × Nat)} {pcur : Option (Nat × Nat × D)}, PInv F Γ σ ρ h S → CurR h S cur pcur → Good F Γ σ h S RIt (evI (gof Γ.G c) cur m σ h) (pI Γ pcur m ρ)
  | .ev e, σ, ρ, h, S, cur, pcur, I, K => by
    unfold evI pI
    refine (pE_ok hc e false I K).bind fun h1 S1 ρ1 x v st1 J1 rx => ?_
    split
    · rename_i is e1
      exact pits_ok J1 rx.1 e1
    · trivial
  | .rng1 a, σ, ρ, h, S, cur, pcur, I, K => by
    unfold evI pI
    refine (pE_ok hc a false I K).bind fun h1 S1 ρ1 x v st1 J1 rx => ?_
    split
    · obtain rfl := rx.1.pk.eint
      unfold rng1V
      simp only
      split
      · exact .val J1 ⟨prng_ok, fun p hp => by cases hp⟩
      · trivial
    · trivial
  | .rng2 a b, σ, ρ, h, S, cur, pcur, I, K => by
    unfold evI pI
    refine (pE_ok hc a false I K).bind fun h1 S1 ρ1 x v st1 J1 rx => ?_
    refine (pE_ok hc b false J1 (K.mono st1.k)).bind fun h2 S2 ρ2 y w st2 J2 ry => ?_
    split
    · obtain rfl := rx.1.pk.eint
      obtain rfl := ry.1.pk.eint
      unfold rng2V
      simp only
      split
      · exact .val J2 ⟨prng_ok, fun p hp => by cases hp⟩
      · trivial
    · trivial
  | .enum e, σ, ρ, h, S, cur, pcur, I, K => by
    unfold evI pI
    refine (pE_ok hc e false I K).bind fun h1 S1 ρ1 x v st1 J1 rx => ?_
    split
    · rename_i xs e1
      exact penum_ok J1 rx.1 e1
    · trivial
  | .zip a b, σ, ρ, h, S, cur, pcur, I, K => by
    unfold evI pI
    refine (pE_ok hc a false I K).bind fun h1 S1 ρ1 x v st1 J1 rx => ?_
    refine (pE_ok hc b false J1 (K.mono st1.k)).bind fun h2 S2 ρ2 y w st2 J2 ry => ?_
    split
    · rename_i is e1
      exact pzip_ok J2 (rx.1.step st2) ry.1 e1
    · trivial
  | .keys e, σ, ρ, h, S, cur, pcur, I, K => by
    unfold evI pI
    refine (pE_ok hc e false I K).bind fun h1 S1 ρ1 x v st1 J1 rx => ?_
    split
    · cases rx.1 with
      | ref e1 n o => cases o with
        | dic q =>
          unfold keysV
          simp only [e1]
          exact .val J1 ⟨keys_ok q, gd1 e1 n⟩
    · trivial
  | .items _, σ, ρ, h, S, cur, pcur, I, K => by
    unfold pI
    trivial
  | .vals _, σ, ρ, h, S, cur, pcur, I, K => by
    unfold pI
    trivial
end
end
end MQ
end
section
set_option Elab.async false
set_option linter.all false
set_option maxHeartbeats 4000000
/-! statements, calls: the pure interpreter is sound -/
namespace MQ
open PySem MP
open L2 (V St Hp Key)
def GoodS (F : Fr) (Γ : PG) (h : IH) (S : Nat → Prop) (x : ES) : PR → Prop
  | none => True
  | some (.nx ρ') => ∃ σ' h' S', x = some (.ok (.nx σ') h') ∧ Step F h S h' S' ∧ PInv F Γ σ' ρ' h' S'
  | some (.rt d ρ') => ∃ v σ' h' S', x = some (.ok (.rt v) h') ∧ Step F h S h' S' ∧ PInv F Γ σ' ρ' h' S' ∧ Rep h' S' d v
  | some (.bk ρ') => ∃ σ' h' S', x = some (.ok (.bk σ') h') ∧ Step F h S h' S' ∧ PInv F Γ σ' ρ' h' S'
  | some (.ct ρ') => ∃ σ' h' S', x = some (.ok (.ct σ') h') ∧ Step F h S h' S' ∧ PInv F Γ σ' ρ' h' S'
  | some (.ex C f w ρ') => ∃ dd σ' h' S', x = some (.ex C dd σ' h') ∧ Step F h S h' S' ∧ PInv F Γ σ' ρ' h' S' ∧ ExnR h' S' dd f w
section
variable {F : Fr} {Γ : PG} {σ : St} {ρ : PS} {h h' h1 : IH} {S S' S1 : Nat → Prop} {c : Nat → List V → IH → EV V} {α β : Type}
theorem GoodS.after {x : ES} {y : PR} (p : Step F h S h1 S1) (g : GoodS F Γ h1 S1 x y) : GoodS F Γ h S x y := by
  match y, g with
  | none, _ => trivial
  | some (.nx _), ⟨a, b, k, e, q, I⟩ => exact ⟨a, b, k, e, p.trans q, I⟩
  | some (.rt _ _), ⟨v, a, b, k, e, q, I⟩ => exact ⟨v, a, b, k, e, p.trans q, I⟩
  | some (.bk _), ⟨a, b, k, e, q, I⟩ => exact ⟨a, b, k, e, p.trans q, I⟩
  | some (.ct _), ⟨a, b, k, e, q, I⟩ => exact ⟨a, b, k, e, p.trans q, I⟩
  | some (.ex _ _ _ _), ⟨v, a, b, k, e, q, I⟩ => exact ⟨v, a, b, k, e, p.trans q, I⟩
theorem GoodS.nx (I : PInv F Γ σ ρ h S) : GoodS F Γ h S (some (.ok (.nx σ) h)) (some (.nx ρ)) := ⟨σ, h, S, rfl, .refl, I⟩
theorem Good.bE {R : IH → (Nat → Prop) → PS → β → α → Prop} {x : EV α} {y : PV β} {k : α → IH → ES} {k' : β → PS → PR} (g : Good F Γ σ h S R x y)
    (f : ∀ h1 S1 ρ1 d v, Step F h S h1 S1 → PInv F Γ σ ρ1 h1 S1 → R h1 S1 ρ1 d v → GoodS F Γ h1 S1 (k v h1) (k' d ρ1)) : GoodS F Γ h S (bE σ x k) (pbE y k') := by
  match y, g with
  | none, _ => trivial
  | some (.val d ρ'), ⟨v, h', S', e, q, I, r⟩ => subst e; exact GoodS.after q (f _ _ _ _ _ q I r)
  | some (.exn C f w ρ'), ⟨v, h', S', e, q, I, r⟩ => subst e; exact ⟨v, σ, h', S', rfl, q, I, r⟩
theorem GoodS.bS {x : ES} {y : PR} {k : St → IH → ES} {k' : PS → PR} (g : GoodS F Γ h S x y)
    (f : ∀ σ1 h1 S1 ρ1, Step F h S h1 S1 → PInv F Γ σ1 ρ1 h1 S1 → GoodS F Γ h1 S1 (k σ1 h1) (k' ρ1)) : GoodS F Γ h S (bS x k) (pbS y k') := by
  match y, g with
  | none, _ => trivial
  | some (.nx _), ⟨a, b, k, e, q, I⟩ => subst e; exact GoodS.after q (f _ _ _ _ q I)
  | some (.rt _ _), ⟨v, a, b, k, e, q, I⟩ => subst e; exact ⟨v, a, b, k, rfl, q, I⟩
  | some (.bk _), ⟨a, b, k, e, q, I⟩ => subst e; exact ⟨a, b, k, rfl, q, I⟩
  | some (.ct _), ⟨a, b, k, e, q, I⟩ => subst e; exact ⟨a, b, k, rfl, q, I⟩
  | some (.ex _ _ _ _), ⟨v, a, b, k, e, q, I⟩ => subst e; exact ⟨v, a, b, k, rfl, q, I⟩
theorem asg_ok {tg : MT} {fr : Bool} {x : EV V} {y : PV D} (g : Good F Γ σ h S (RE F Γ σ h.length fr) x y) : GoodS F Γ h S (bE σ x fun v h1 => nxt (asgT tg v σ h1) h1) (pbE y fun d ρ1 => pnx (pasg tg (if fr && mutD d then .ow else .sh) d ρ1)) := by
  match y, g with
  | none, _ => trivial
  | some (.exn C f w ρ'), ⟨v, h', S', e, q, I, r⟩ => subst e; exact ⟨v, σ, h', S', rfl, q, I, r⟩
  | some (.val d ρ'), ⟨v, h1, S1, e, st, I, r, fresh⟩ =>
    subst e
    show GoodS F Γ h S (nxt (asgT tg v σ h1) h1) (pnx (pasg tg _ d ρ'))
    cases hm : (fr && mutD d) with
    | false =>
      simp only [Bool.false_eq_true, if_false]
      cases ep : pasg tg .sh d ρ' with
      | none => trivial
      | some ρ2 =>
        obtain ⟨σ', e1, J⟩ := asg_sh tg I r ep
        rw [e1]
        exact ⟨σ', h1, S1, rfl, st, J⟩
    | true =>
      rw [Bool.and_eq_true] at hm
      simp only [if_true]
      obtain ⟨a, rfl, la, na, J, ow⟩ := fresh hm.1 hm.2
      have ns : ¬ S1 a := by
        cases r with
        | ref _ n _ => exact n
      cases tg with
      | nm i =>
        unfold pasg
        split
        · refine ⟨_, h1, Or1 S1 a, by unfold asgT; rfl, ⟨st.len, st.keep, fun b l z => ?_⟩, J.setOw ns I na ow⟩
          rcases z with z | z
          · exact st.sub b l z
          · omega
        · trivial
      | tup ts =>
        unfold pasg
        cases d with
        | tup xs k => exact absurd hm.2 (by simp [mutD])
        | _ => trivial
theorem inpl_ok {op : Operator} {x y d : D} {v w : V} (rx : Pk h S x v) (ry : Pk h S y w) (e : pinpl op x y = some d) : ∃ z, inpl op v w h = some (.val z h) ∧ Rep h S d z := by
  unfold pinpl at e
  split at e
  · obtain rfl := rx.eint; obtain rfl := ry.eint; cases e; exact ⟨_, rfl, .int⟩
  · obtain rfl := rx.eint; obtain rfl := ry.eint; cases e; exact ⟨_, rfl, .int⟩
  · obtain rfl := rx.eint; obtain rfl := ry.eint
    split at e <;> cases e
    rename_i cc
    exact ⟨_, by unfold inpl; simp only [cc, if_true], .int⟩
  · obtain rfl := rx.eint; obtain rfl := ry.eint
    split at e <;> cases e
    rename_i cc
    exact ⟨_, by unfold inpl; simp only [cc, if_true], .int⟩
  · obtain rfl := rx.estr; obtain rfl := ry.estr
    split at e <;> cases e
    rename_i cc
    exact ⟨_, by unfold inpl; simp only [cc, if_true], .str⟩
  · cases e
theorem own_of {j : Nat} {md : Md} {x : D} {u : V} (I : PInv F Γ σ ρ h S) (e : ρ[j]? = some (some (md, x))) (nm : md ≠ .sh) (hu : σ[j]? = some (some u)) : ∃ a, u = .ref a ∧ S a ∧ OwnO h S a x := by
  obtain ⟨v, e2, q⟩ := I.slot j _ e
  rw [hu] at e2; cases e2
  cases md with
  | sh => exact absurd rfl nm
  | ow => obtain ⟨a, z, _, s, q⟩ := q; exact ⟨a, z, s, q⟩
  | io => obtain ⟨a, z, _, _, s, q⟩ := q; exact ⟨a, z, s, q⟩
theorem write_ok {j a : Nat} {md : Md} {x y : D} {o : MP.IO} (I : PInv F Γ σ ρ h S) (e : ρ[j]? = some (some (md, x))) (nm : md ≠ .sh) (hu : σ[j]? = some (some (.ref a))) (la : a < h.length) (mo : mutb o = true) (sa : S a) (ro : ObjR h S o y) : PInv F Γ σ (ρ.set j (some (md, y))) (h.set a o) S ∧ Step F h S (h.set a o) S := by
  have kp : ∀ (b : Nat) (o' : MP.IO), b ≠ a → h[b]? = some o' → (h.set a o)[b]? = some o' := fun b o' n e => by rw [List.getElem?_set_ne (Ne.symm n)]; exact e
  have kk : ∀ (b : Nat) (o' : MP.IO), h[b]? = some o' → ¬ S b → (h.set a o)[b]? = some o' ∧ ¬ S b := fun b o' e n => ⟨kp b o' (fun z => n (z ▸ sa)) e, n⟩
  exact I.upd e nm hu (by simp) kp ⟨o, List.getElem?_set_self la, mo, ro.mono kk⟩
theorem setA_ok {i f : Nat} {d : D} {v u : V} (I : PInv F Γ σ ρ h S) (hu : σ[i]? = some (some u)) (r : Rep h S d v) : GoodS F Γ h S (setA (gof Γ.G c) u f v σ h) (psetA Γ i f d ρ) := by
  unfold psetA
  split
  · trivial
  · rename_i md C fs nsh e
    have nm : md ≠ .sh := fun z => by subst z; first | exact nsh _ e | exact nsh _ rfl | simp_all
    obtain ⟨a, rfl, sa, o, eo, mo, ro⟩ := own_of I e nm hu
    cases ro with
    | ins rf =>
      cases hcc : decide (fs.length < 1000 ∧ Γ.G.isF C f = true) with
      | false =>
        have hcc := of_decide_eq_false hcc
        rw [if_neg hcc]; trivial
      | true =>
        have hcc := of_decide_eq_true hcc
        rw [if_pos hcc]
        have W := write_ok I e nm hu (lt_of eo) (o := .ins C (putI f v _)) rfl sa (.ins (RepF.put r rf))
        refine ⟨σ, _, S, ?_, W.2, W.1⟩
        unfold setA
        simp only [eo, rf.length]
        exact if_pos hcc
  · trivial
theorem setS_ok {i : Nat} {d k : D} {v u w : V} (I : PInv F Γ σ ρ h S) (hu : σ[i]? = some (some u)) (r : Rep h S d v) (rk : Rep h S k w) : GoodS F Γ h S (setS u w v σ h) (psetS i k d ρ) := by
  unfold psetS
  split
  · trivial
  · rename_i j md xs nsh e
    have nm : md ≠ .sh := fun z => by subst z; first | exact nsh _ e | exact nsh _ rfl | simp_all
    obtain ⟨a, rfl, sa, o, eo, mo, ro⟩ := own_of I e nm hu
    obtain rfl := rk.pk.eint
    cases ro with
    | lst q =>
      cases hj : L2.ixN xs.length j with
      | none => trivial
      | some n =>
        have W := write_ok I e nm hu (lt_of eo) (o := .lst (List.set _ n v)) rfl sa (.lst (q.set n r))
        refine ⟨σ, _, S, ?_, W.2, W.1⟩
        unfold setS
        simp only [eo, q.length, hj]
  · trivial
/-! loops -/
theorem loopW_ok {cd : St → IH → EV V} {b : St → IH → ES} {pc : PS → PV D} {pb' : PS → PR} {K : IH → (Nat → Prop) → Prop} (Km : ∀ h S h' S', K h S → Step F h S h' S' → K h' S')
    (hc : ∀ (σ : St) (ρ : PS) (h : IH) (S : Nat → Prop), PInv F Γ σ ρ h S → K h S → Good F Γ σ h S R0 (cd σ h) (pc ρ)) (hb : ∀ (σ : St) (ρ : PS) (h : IH) (S : Nat → Prop), PInv F Γ σ ρ h S → K h S → GoodS F Γ h S (b σ h) (pb' ρ)) :
    ∀ (n : Nat) {σ : St} {ρ : PS} {h : IH} {S : Nat → Prop}, PInv F Γ σ ρ h S → K h S → GoodS F Γ h S (loopW cd b n σ h) (ploopW pc pb' n ρ)
  | 0, _, _, _, _, _, _ => by unfold ploopW; trivial
  | n + 1, σ, ρ, h, S, I, k => by
    unfold loopW ploopW
    refine (hc σ ρ h S I k).bE fun h1 S1 ρ1 d v st J r => ?_
    have r : Rep h1 S1 d v := r
    cases d with
    | bl t =>
      obtain rfl := r.pk.ebl
      cases t with
      | false => exact .nx J
      | true =>
        have g := hb σ ρ1 h1 S1 J (Km _ _ _ _ k st)
        dsimp only
        match e : pb' ρ1, g with
        | none, _ => trivial
        | some (.nx ρ2), ⟨σ2, h2, S2, e2, st2, J2⟩ =>
          rw [e2]
          exact GoodS.after st2 (loopW_ok Km hc hb n J2 (Km _ _ _ _ k (st.trans st2)))
        | some (.ct ρ2), ⟨σ2, h2, S2, e2, st2, J2⟩ =>
          rw [e2]
          exact GoodS.after st2 (loopW_ok Km hc hb n J2 (Km _ _ _ _ k (st.trans st2)))
        | some (.bk ρ2), ⟨σ2, h2, S2, e2, st2, J2⟩ =>
          rw [e2]
          exact ⟨σ2, h2, S2, rfl, st2, J2⟩
        | some (.rt d ρ2), ⟨v, σ2, h2, S2, e2, st2, J2⟩ =>
          rw [e2]
          exact ⟨v, σ2, h2, S2, rfl, st2, J2⟩
        | some (.ex C f w ρ2), ⟨v, σ2, h2, S2, e2, st2, J2⟩ =>
          rw [e2]
          exact ⟨v, σ2, h2, S2, rfl, st2, J2⟩
    | _ => exact True.intro
theorem loopF_ok {tg : MT} {b : St → IH → ES} {pb' : PS → PR} {gd : List (Nat × MP.IO)} {K : IH → (Nat → Prop) → Prop} (Km : ∀ h S h' S', K h S → Step F h S h' S' → K h' S')
    (hb : ∀ (σ : St) (ρ : PS) (h : IH) (S : Nat → Prop), PInv F Γ σ ρ h S → K h S → GoodS F Γ h S (b σ h) (pb' ρ)) :
    ∀ {is : List (D × Option D)} {xs : List (V × Option V)} {σ : St} {ρ : PS} {h : IH} {S : Nat → Prop}, PInv F Γ σ ρ h S → K h S → ItsR h S is xs → GdR h S gd → GoodS F Γ h S (loopF tg b gd xs σ h) (ploopF tg pb' is ρ)
  | _, _, σ, ρ, h, S, I, k, .nil, g => by
    unfold loopF ploopF
    rw [g.ok]
    exact .nx I
  | _, _, σ, ρ, h, S, I, k, .cons (d := d) (v := v) (ds := ds) (vs := vs) r rs, g => by
    unfold loopF ploopF
    rw [g.ok]
    simp only [if_true]
    cases ea : pasgX tg d ρ with
    | none => trivial
    | some ρ1 =>
      obtain ⟨σ1, e1, J⟩ := asgX_sh I r ea
      rw [e1]
      dsimp only
      have q := hb σ1 ρ1 h S J k
      match e : pb' ρ1, q with
      | none, _ => trivial
      | some (.nx ρ2), ⟨σ2, h2, S2, e2, st2, J2⟩ =>
        rw [e2]
        exact GoodS.after st2 (loopF_ok Km hb J2 (Km _ _ _ _ k st2) (rs.mono st2.k) (g.mono st2.k))
      | some (.ct ρ2), ⟨σ2, h2, S2, e2, st2, J2⟩ =>
        rw [e2]
        exact GoodS.after st2 (loopF_ok Km hb J2 (Km _ _ _ _ k st2) (rs.mono st2.k) (g.mono st2.k))
      | some (.bk ρ2), ⟨σ2, h2, S2, e2, st2, J2⟩ =>
        rw [e2]
        exact ⟨σ2, h2, S2, rfl, st2, J2⟩
      | some (.rt d ρ2), ⟨v, σ2, h2, S2, e2, st2, J2⟩ =>
        rw [e2]
        exact ⟨v, σ2, h2, S2, rfl, st2, J2⟩
      | some (.ex C f w ρ2), ⟨v, σ2, h2, S2, e2, st2, J2⟩ =>
        rw [e2]
        exact ⟨v, σ2, h2, S2, rfl, st2, J2⟩
theorem unN_ok {i : Nat} {x : ES} {y : PR} (g : GoodS F Γ h S x y) : GoodS F Γ h S (unN i x) (punN i y) := by
  match y, g with
  | none, _ => trivial
  | some (.nx ρ), ⟨a, b, k, e, q, I⟩ =>
    subst e
    unfold punN
    simp only
    split
    · exact ⟨_, b, k, rfl, q, I.setNo⟩
    · trivial
  | some (.rt _ _), ⟨v, a, b, k, e, q, I⟩ => subst e; exact ⟨v, a, b, k, rfl, q, I⟩
  | some (.bk ρ), ⟨a, b, k, e, q, I⟩ =>
    subst e
    unfold punN
    simp only
    split
    · exact ⟨_, b, k, rfl, q, I.setNo⟩
    · trivial
  | some (.ct ρ), ⟨a, b, k, e, q, I⟩ =>
    subst e
    unfold punN
    simp only
    split
    · exact ⟨_, b, k, rfl, q, I.setNo⟩
    · trivial
  | some (.ex _ _ _ _), ⟨v, a, b, k, e, q, I⟩ => trivial
theorem setAll_ok : ∀ {ws : List Nat} {ds : List D} {vs : List V} {σ : St} {ρ ρ' : PS}, PInv F Γ σ ρ h S → Reps h S ds vs → psetAll ws ds ρ = some ρ' → ∃ σ', setAll ws vs σ = some σ' ∧ PInv F Γ σ' ρ' h S
  | [], _, _, σ, ρ, ρ', I, .nil, e => by unfold psetAll at e; cases e; exact ⟨σ, by unfold setAll; rfl, I⟩
  | [], _, _, σ, ρ, ρ', I, .cons _ _, e => by unfold psetAll at e; cases e
  | w :: ws, _, _, σ, ρ, ρ', I, .nil, e => by unfold psetAll at e; cases e
  | w :: ws, _, _, σ, ρ, ρ', I, .cons a b, e => by
    unfold psetAll at e
    split at e
    · obtain ⟨σ', e1, J⟩ := setAll_ok (I.setSh a) b e
      exact ⟨σ', by unfold setAll; exact e1, J⟩
    · cases e
theorem unp_ok {ws : List Nat} {d : D} {v : V} (I : PInv F Γ σ ρ h S) (r : Rep h S d v) : GoodS F Γ h S (unpV ws v σ h) (punp ws d ρ) := by
  unfold punp
  split
  · obtain rfl := r.pk.estr
    split
    · rename_i cl
      unfold unpV
      simp only [cl, if_true]
      cases e : psetAll ws _ ρ with
      | none => trivial
      | some ρ' =>
        obtain ⟨σ', e1, J⟩ := setAll_ok I (Reps.map fun _ _ => .str) e
        rw [e1]
        exact .nx J
    · trivial
  · trivial
mutual
theorem pS_ok (hc : CallOk Γ c) (N : Nat) : ∀ (s : MS) {σ : St} {ρ : PS} {h : IH} {S : Nat → Prop} {cur : Option (Nat × Nat)} {pcur : Option (Nat × Nat × D)}, PInv F Γ σ ρ h S → CurR h S cur pcur → GoodS F Γ h S (evS (gof Γ.G c) N cur s σ h) (pS Γ N pcur s ρ)
  | .asg tg e, σ, ρ, h, S, cur, pcur, I, K => by
    unfold evS pS
    exact asg_ok (pE_ok hc e false I K)
  | .par tg es, σ, ρ, h, S, cur, pcur, I, K => by
    unfold evS pS
    refine (pA_ok hc es I K).bE fun h1 S1 ρ1 ds vs st J r => ?_
    cases tg with
    | nm i => trivial
    | tup ts =>
      dsimp only
      cases ep : pasgs ts ds ρ1 with
      | none => trivial
      | some ρ2 =>
        obtain ⟨σ', e1, J2⟩ := asgs_sh ts J r ep
        rw [e1]
        exact .nx J2
  | .asgA o f e, σ, ρ, h, S, cur, pcur, I, K => by
    unfold evS pS
    cases o with
    | var i =>
      refine (pE_ok hc e false I K).bE fun h1 S1 ρ1 d v st J r => ?_
      cases es : pslot i ρ1 with
      | none =>
        have : psetA Γ i f d ρ1 = none := by
          unfold pslot at es
          unfold psetA
          split at es
          · cases es
          · rename_i no
            split
            · rfl
            · rename_i m C fs _ e; exact absurd e (no _ _)
            · rfl
        rw [this]; trivial
      | some x =>
        obtain ⟨u, e1, _⟩ := slot_pk J es
        rw [e_var, slotV_eq e1]
        exact setA_ok J e1 r.1
    | _ => trivial
  | .asgS o k e, σ, ρ, h, S, cur, pcur, I, K => by
    unfold evS pS
    cases o with
    | var i =>
      refine (pE_ok hc e false I K).bE fun h1 S1 ρ1 d v st J r => ?_
      cases es : pslot i ρ1 with
      | none => trivial
      | some x =>
        obtain ⟨u, e1, _⟩ := slot_pk J es
        rw [e_var, slotV_eq e1]
        show GoodS F Γ h1 S1 (bE _ (evE (gof Γ.G c) cur false k _ h1) fun i h3 => setS u i v _ h3) _
        exact (pE_ok hc k false J (K.mono st.k)).bE fun h2 S2 ρ2 j w st2 J2 r2 => setS_ok J2 e1 (r.1.step st2) r2.1
    | _ => trivial
  | .aug op i e, σ, ρ, h, S, cur, pcur, I, K => by
    unfold evS pS
    split
    · rename_i x ex
      obtain ⟨v, e1, rx⟩ := I.slot i _ ex
      have rx : Rep h S x v := rx
      rw [slotV_eq e1]
      show GoodS F Γ h S (bE σ (evE (gof Γ.G c) cur false e σ h) fun w h1 => bE σ (inpl op v w h1) fun z h2 => some (.ok (.nx (σ.set i (some z))) h2)) _
      refine (pE_ok hc e false I K).bE fun h1 S1 ρ1 d w st J r => ?_
      split
      · rename_i z ez
        obtain ⟨u, e2, rz⟩ := inpl_ok (rx.step st).pk r.1.pk ez
        rw [e2]
        split
        · exact .nx (J.setSh rz)
        · trivial
      · trivial
    · trivial
  | .augA _ _ _ _, σ, ρ, h, S, cur, pcur, I, K => by
    unfold pS
    trivial
  | .ex e, σ, ρ, h, S, cur, pcur, I, K => by
    unfold evS pS
    exact (pE_ok hc e false I K).bE fun h1 S1 ρ1 d v st J r => .nx J
  | .ret e, σ, ρ, h, S, cur, pcur, I, K => by
    unfold evS pS
    exact (pE_ok hc e false I K).bE fun h1 S1 ρ1 d v st J r => ⟨v, _, h1, S1, rfl, .refl, J, r.1⟩
  | .retN, σ, ρ, h, S, cur, pcur, I, K => by
    unfold evS pS
    exact ⟨.non, σ, h, S, rfl, .refl, I, .non⟩
  | .ifS k a b, σ, ρ, h, S, cur, pcur, I, K => by
    unfold evS pS
    refine (pE_ok hc k true I K).bE fun h1 S1 ρ1 d v st J r => ?_
    cases d with
    | bl t =>
      obtain rfl := r.1.pk.ebl
      cases t with
      | true => exact pB_ok hc N a J (K.mono st.k)
      | false => exact pB_ok hc N b J (K.mono st.k)
    | _ => exact True.intro
  | .whl k b, σ, ρ, h, S, cur, pcur, I, K => by
    unfold evS pS
    exact loopW_ok (K := fun h S => CurR h S cur pcur) (fun h S h' S' K st => K.mono st.k) (fun σ ρ h S I K => (pE_ok hc k true I K).imp fun _ _ _ _ _ _ r => r.1) (fun σ ρ h S I K => pB_ok hc N b I K) N I K
  | .forS tg it b, σ, ρ, h, S, cur, pcur, I, K => by
    unfold evS pS
    refine (pI_ok hc it I K).bE fun h1 S1 ρ1 is its st J r => ?_
    exact loopF_ok (K := fun h S => CurR h S cur pcur) (fun h S h' S' K st => K.mono st.k) (fun σ ρ h S I K => pB_ok hc N b I K) J (K.mono st.k) r.1 r.2
  | .rais C e, σ, ρ, h, S, cur, pcur, I, K => by
    unfold evS pS
    refine (pE_ok hc e false I K).bE fun h1 S1 ρ1 d v st J r => ?_
    unfold raisV
    show GoodS F Γ h1 S1 (match Γ.G.exf C with | some f => some (.ex C h1.length _ (h1 ++ [.xd f v])) | none => none) _
    cases Γ.G.exf C with
    | none => trivial
    | some f =>
      have kp : ∀ (a : Nat) (o : MP.IO), h1[a]? = some o → (h1 ++ [MP.IO.xd f v])[a]? = some o := app_keep
      exact ⟨h1.length, _, _, S1, rfl, .of_keep kp (by simp), J.keep0 kp, v, by simp, fun z => Nat.lt_irrefl _ (J.bnd _ z), r.1.mono fun a o e n => ⟨kp a o e, n⟩⟩
  | .tryS b hs, σ, ρ, h, S, cur, pcur, I, K => by
    unfold evS pS
    have g := pB_ok hc N b I K
    match e : pB Γ N pcur b ρ, g with
    | none, _ => trivial
    | some (.nx ρ2), ⟨σ2, h2, S2, e2, st2, J2⟩ => rw [e2]; exact ⟨σ2, h2, S2, rfl, st2, J2⟩
    | some (.ct ρ2), ⟨σ2, h2, S2, e2, st2, J2⟩ => rw [e2]; exact ⟨σ2, h2, S2, rfl, st2, J2⟩
    | some (.bk ρ2), ⟨σ2, h2, S2, e2, st2, J2⟩ => rw [e2]; exact ⟨σ2, h2, S2, rfl, st2, J2⟩
    | some (.rt d ρ2), ⟨v, σ2, h2, S2, e2, st2, J2⟩ => rw [e2]; exact ⟨v, σ2, h2, S2, rfl, st2, J2⟩
    | some (.ex C f w ρ2), ⟨dd, σ2, h2, S2, e2, st2, J2, X⟩ =>
      rw [e2]
      exact GoodS.after st2 (pH_ok hc N hs J2 X)
  | .pss, σ, ρ, h, S, cur, pcur, I, K => by
    unfold evS pS
    exact .nx I
  | .brk, σ, ρ, h, S, cur, pcur, I, K => by
    unfold evS pS
    exact ⟨σ, h, S, rfl, .refl, I⟩
  | .cnt, σ, ρ, h, S, cur, pcur, I, K => by
    unfold evS pS
    exact ⟨σ, h, S, rfl, .refl, I⟩
  | .fail, σ, ρ, h, S, cur, pcur, I, K => by
    unfold pS
    trivial
  | .unpS ws e, σ, ρ, h, S, cur, pcur, I, K => by
    unfold evS pS
    exact (pE_ok hc e false I K).bE fun h1 S1 ρ1 d v st J r => unp_ok J r.1
theorem pB_ok (hc : CallOk Γ c) (N : Nat) : ∀ (s : MB) {σ : St} {ρ : PS} {h : IH} {S : Nat → Prop} {cur : Option (Nat × Nat)} {pcur : Option (Nat × Nat × D)}, PInv F Γ σ ρ h S → CurR h S cur pcur → GoodS F Γ h S (evB (gof Γ.G c) N cur s σ h) (pB Γ N pcur s ρ)
  | .nil, σ, ρ, h, S, cur, pcur, I, K => by
    unfold evB pB
    exact .nx I
  | .cons s r, σ, ρ, h, S, cur, pcur, I, K => by
    unfold evB pB
    exact (pS_ok hc N s I K).bS fun σ1 h1 S1 ρ1 st J => pB_ok hc N r J (K.mono st.k)
theorem pH_ok (hc : CallOk Γ c) (N : Nat) : ∀ (hs : MH) {σ : St} {ρ : PS} {h : IH} {S : Nat → Prop} {C d f : Nat} {w : D}, PInv F Γ σ ρ h S → ExnR h S d f w → GoodS F Γ h S (evH (gof Γ.G c) N C d hs σ h) (pH Γ N C f w hs ρ)
  | .nil, σ, ρ, h, S, C, d, f, w, I, X => by
    unfold evH pH
    exact ⟨d, σ, h, S, rfl, .refl, I, X⟩
  | .cons E nm b r, σ, ρ, h, S, C, d, f, w, I, X => by
    unfold evH pH
    show GoodS F Γ h S (if (Γ.G.exf C).isSome then (if Γ.G.sub C E then _ else _) else none) _
    cases hx : (Γ.G.exf C).isSome with
    | false => exact True.intro
    | true =>
      simp only [if_true]
      cases hs : Γ.G.sub C E with
      | false =>
        simp only [Bool.false_eq_true, if_false]
        exact pH_ok hc N r I X
      | true =>
        simp only [if_true]
        cases nm with
        | none => exact pB_ok hc N b I (cur := some (C, d)) (pcur := some (C, f, w)) ⟨rfl, X⟩
        | some i =>
          dsimp only
          cases hi : decide (i < ρ.length ∧ notIo ρ i = true) with
          | false =>
            rw [if_neg (of_decide_eq_false hi)]; trivial
          | true =>
            have hi := of_decide_eq_true hi
            rw [if_pos hi, if_pos (show i < _ from by rw [I.len]; exact hi.1)]
            exact unN_ok (pB_ok hc N b I.setNo (cur := some (C, d)) (pcur := some (C, f, w)) ⟨rfl, X⟩)
end
end
/-! ### calls -/
abbrev PGof (io : Nat → Bool) (gl : Nat → Option D) (Γ0 : Gam) : (Nat → List D → Option PC) → PG := fun c => ⟨c, io, gl, Γ0⟩
theorem args_len {io : Bool} {ds : List D} : (pargs io ds).length = ds.length := by
  cases ds with
  | nil => rfl
  | cons d r => simp [pargs]
theorem rep_get {α : Type} {n i : Nat} {x : Option α} {y : α} (e : (List.replicate n (none : Option α))[i]? = some (some y)) : False := by
  rw [List.getElem?_replicate] at e
  split at e <;> cases e
theorem call_ok {io : Nat → Bool} {gl : Nat → Option D} {Γ0 : Gam} {T : Nat → Option FD} {N : Nat} : ∀ k : Nat, CallOk (PGof io gl Γ0 (callP (PGof io gl Γ0) io T N k)) (callN (gof Γ0) T N k)
  | 0 => ⟨fun f ds r e => by
    have e : callP (PGof io gl Γ0) io T N 0 f ds = some r := e
    unfold callP at e
    cases e⟩
  | k + 1 => ⟨fun f ds r e h S vs m bd gi ag => by
    have e : callP (PGof io gl Γ0) io T N (k + 1) f ds = some r := e
    unfold callP at e
    cases ef : T f with
    | none => rw [ef] at e; cases e
    | some d =>
      rw [ef] at e
      simp only at e
      split at e
      · rename_i hl
        have hvl : vs.length = ds.length := by
          have ag : ArgR (io f) h S ds vs m := ag
          cases hio : io f with
          | false => rw [hio] at ag; exact ag.2.length
          | true =>
            rw [hio] at ag
            obtain ⟨a, x, ds', vs', _, rfl, rfl, _, _, q⟩ := ag
            simp [q.length]
        have gi : GInv (PGof io gl Γ0 (callP (PGof io gl Γ0) io T N k)) h S := ⟨gi.glb, gi.cls⟩
        have I : PInv ⟨h.length, S, m⟩ (PGof io gl Γ0 (callP (PGof io gl Γ0) io T N k)) (vs.map some ++ List.replicate (d.ns - d.np) none) (pargs (io f) ds ++ List.replicate (d.ns - d.np) none) h S := by
          have ag : ArgR (io f) h S ds vs m := ag
          have slot1 : ∀ (i : Nat) (x : Md × D), (pargs (io f) ds)[i]? = some (some x) → ∃ v, (vs.map some)[i]? = some (some v) ∧ SlotR ⟨h.length, S, m⟩ h S v x ∧ (x.1 ≠ .sh → i = 0) := by
            intro i x ex
            cases hio : io f with
            | false =>
              rw [hio] at ag ex
              have ep : pargs false ds = ds.map fun d => some (Md.sh, d) := by cases ds <;> rfl
              rw [ep, List.getElem?_map] at ex
              obtain ⟨d1, e1, e2⟩ := map_some ex
              cases e2
              obtain ⟨v, e3, q⟩ := ag.2.get e1
              exact ⟨v, by rw [List.getElem?_map, e3]; rfl, q, fun z => absurd rfl z⟩
            | true =>
              rw [hio] at ag ex
              obtain ⟨a, x0, ds', vs', rfl, rfl, rfl, sa, oa, q⟩ := ag
              cases i with
              | zero =>
                have ex : some (some (Md.io, x0)) = some (some x) := ex
                cases ex
                exact ⟨_, rfl, ⟨a, rfl, rfl, bd a sa, sa, oa⟩, fun _ => rfl⟩
              | succ i =>
                have ex : (ds'.map fun d => some (Md.sh, d))[i]? = some (some x) := ex
                rw [List.getElem?_map] at ex
                obtain ⟨d1, e1, e2⟩ := map_some ex
                cases e2
                obtain ⟨v, e3, q3⟩ := q.get e1
                exact ⟨v, by rw [List.map_cons, List.getElem?_cons_succ, List.getElem?_map, e3]; rfl, q3, fun z => absurd rfl z⟩
          have low : ∀ (i : Nat) (x : Md × D), (pargs (io f) ds ++ List.replicate (d.ns - d.np) none)[i]? = some (some x) → (pargs (io f) ds)[i]? = some (some x) := fun i x ex => by
            by_cases hi : i < (pargs (io f) ds).length
            · rwa [List.getElem?_append_left hi] at ex
            · rw [List.getElem?_append_right (by omega)] at ex
              exact (rep_get (x := none) ex).elim
          refine ⟨bd, fun a _ => Iff.rfl, Nat.le_refl _, gi, by simp [args_len, hvl], fun i x ex => ?_, fun i j a x y n e1 e2 e3 e4 n1 n2 => ?_⟩
          · obtain ⟨v, e1, q, _⟩ := slot1 i x (low i x ex)
            exact ⟨v, by rw [List.getElem?_append_left (lt_of e1)]; exact e1, q⟩
          · obtain ⟨_, _, _, z1⟩ := slot1 i x (low i x e3)
            obtain ⟨_, _, _, z2⟩ := slot1 j y (low j y e4)
            exact n ((z1 n1).trans (z2 n2).symm)
        have g := pB_ok (F := ⟨h.length, S, m⟩) (call_ok k) N d.body I (cur := none) (pcur := none) trivial
        have ce : callN (gof Γ0) T N (k + 1) f vs h = retOf (evB (gof Γ0 (callN (gof Γ0) T N k)) N none d.body (vs.map some ++ List.replicate (d.ns - d.np) none) h) := by
          unfold callN
          rw [ef]
          simp only
          rw [if_pos (hvl.trans hl)]
        rw [ce]
        have fin : ∀ {σ' : St} {ρ' : PS} {h' : IH} {S' : Nat → Prop} {y : Option D}, Step ⟨h.length, S, m⟩ h S h' S' → PInv ⟨h.length, S, m⟩ (PGof io gl Γ0 (callP (PGof io gl Γ0) io T N k)) σ' ρ' h' S' → pio (io f) ρ' = some y →
            h.length ≤ h'.length ∧ (∀ (b : Nat) (o : MP.IO), h[b]? = some o → m ≠ some b → h'[b]? = some o) ∧ (∀ (a : Nat) (o : MP.IO), h'[a]? = some o → ¬ S' a → h'[a]? = some o ∧ ¬ S a) ∧ IoR (io f) h' S m y := by
          intro σ' ρ' h' S' y st J ey
          have kk : ∀ (a : Nat) (o : MP.IO), h'[a]? = some o → ¬ S' a → h'[a]? = some o ∧ ¬ S a := fun a o e n => ⟨e, fun z => n ((J.base a (bd a z)).mpr z)⟩
          refine ⟨st.len, fun b o e n => st.keep b o e (.inr ⟨lt_of e, n⟩), kk, ?_⟩
          cases hio : io f with
          | false =>
            rw [hio] at ey
            cases ey
            exact rfl
          | true =>
            rw [hio] at ey
            unfold pio at ey
            simp only [if_true] at ey
            split at ey
            · rename_i x ex
              cases ey
              obtain ⟨v, e1, a, ev, em, la, sa, oa⟩ := J.slot 0 _ ex
              exact ⟨a, x, em, rfl, oa.mono kk fun o e => e⟩
            · cases ey
        match hp : pB (PGof io gl Γ0 (callP (PGof io gl Γ0) io T N k)) N none d.body (pargs (io f) ds ++ List.replicate (d.ns - d.np) none), g with
        | none, _ =>
          rw [hp] at e
          cases e
        | some (.nx ρ2), ⟨σ2, h2, S2, e2, st2, J2⟩ =>
          rw [hp] at e
          obtain ⟨y, e3, rfl⟩ := map_some (show (pio (io f) ρ2).map (PC.val .non) = some r from e)
          obtain ⟨f1, f2, f3, f4⟩ := fin st2 J2 e3
          rw [e2]
          exact ⟨.non, h2, rfl, f1, f2, .non, f4⟩
        | some (.rt d2 ρ2), ⟨v, σ2, h2, S2, e2, st2, J2, rv⟩ =>
          rw [hp] at e
          obtain ⟨y, e3, rfl⟩ := map_some (show (pio (io f) ρ2).map (PC.val d2) = some r from e)
          obtain ⟨f1, f2, f3, f4⟩ := fin st2 J2 e3
          rw [e2]
          exact ⟨v, h2, rfl, f1, f2, rv.mono f3, f4⟩
        | some (.bk ρ2), _ =>
          rw [hp] at e
          cases e
        | some (.ct ρ2), _ =>
          rw [hp] at e
          cases e
        | some (.ex C f2 w ρ2), ⟨dd, σ2, h2, S2, e2, st2, J2, X⟩ =>
          rw [hp] at e
          obtain ⟨y, e3, rfl⟩ := map_some (show (pio (io f) ρ2).map (PC.exn C f2 w) = some r from e)
          obtain ⟨f1, f2', f3, f4⟩ := fin st2 J2 e3
          rw [e2]
          exact ⟨dd, h2, rfl, f1, f2', X.mono f3, f4⟩
      · cases e⟩
end MQ
end
section
set_option Elab.async false
set_option linter.all false
set_option maxHeartbeats 1000000
/-! from a run of the pure interpreter to the law's run -/
namespace MQ
open PySem MP
open L2 (V St Hp Key)
theorem reps_ints {h : IH} {S : Nat → Prop} : ∀ ns : List Int, Reps h S (ns.map D.int) (ns.map V.int)
  | [] => .nil
  | _ :: r => .cons .int (reps_ints r)
theorem run_of {io : Nat → Bool} {gl : Nat → Option D} {Γ0 : Gam} {T : Nat → Option FD} {N k fl : Nat} {h0 : IH} {ns : List Int} {y : Option D} (hio : io fl = false)
    (glb : ∀ g d, gl g = some d → ∃ v, Γ0.glob g = some v ∧ Rep h0 (fun _ => False) d v) (cls : ∀ C c, Γ0.clsAt C = some c → Rep h0 (fun _ => False) (.cls C) (.ref c))
    (e : callP (PGof io gl Γ0) io T N k fl [.flst (ns.map D.int)] = some (.val (.bl true) y)) :
    ∃ hE, callN (gof Γ0) T N k fl [.ref h0.length] (h0 ++ [.flst (ns.map V.int)]) = some (.val (.bl true) hE) := by
  have mono : ∀ (a : Nat) (o : MP.IO), h0[a]? = some o → ¬ False → (h0 ++ [MP.IO.flst (ns.map V.int)])[a]? = some o ∧ ¬ False := fun a o q n => ⟨by
    have hl : a < h0.length := (List.getElem?_eq_some_iff.mp q).1
    rw [List.getElem?_append_left hl]; exact q, n⟩
  have r := (call_ok (io := io) (gl := gl) (Γ0 := Γ0) (T := T) (N := N) k).run fl [.flst (ns.map D.int)] (.val (.bl true) y) e (h0 ++ [.flst (ns.map V.int)]) (fun _ => False) [.ref h0.length] none (fun _ z => z.elim)
    ⟨fun g d q => by
      obtain ⟨v, e1, e2⟩ := glb g d q
      exact ⟨v, e1, e2.mono mono⟩, fun C c q => (cls C c q).mono mono⟩ (by
      show ArgR (io fl) _ _ _ _ _
      rw [hio]
      exact ⟨rfl, .cons (.ref (by rw [List.getElem?_append_right (Nat.le_refl _)]; simp) (fun z => z) (.flst (reps_ints ns))) .nil⟩)
  obtain ⟨v, h', e1, _, _, rv, _⟩ := r
  cases rv with
  | bl => exact ⟨h', e1⟩
  | ref _ _ o => cases o
end MQ
end
section
set_option Elab.async false
set_option linter.all false
set_option maxHeartbeats 400000
namespace MP
open PySem L2 PySem.MPX
/-- the names of the text, by lists: defs, classes, constants, built-ins; the own exceptions -/
structure Lst where
  cl : List (Nat × Str)
  kl : List (Nat × Str)
  gl : List (Nat × Str)
  bl : List Str
  xl : List (Nat × String)
structure NZ (k : Nat) (X : Cx) (D : Dat) (L : Lst) (adr : Nat → Addr) : Prop where
  cf : ∀ p ∈ L.cl, X.mg p.2 = some (.ref (adr p.1)) ∧ PySem.W.keepIn X.K (.ref (adr p.1)) = true ∧ FK X.prog X.w X.K X.mg X.base D k p.1 (adr p.1)
  kf : ∀ p ∈ L.kl, X.mg p.2 = some (.ref (D.G.cls p.1)) ∧ PySem.W.keepIn X.K (.ref (D.G.cls p.1)) = true
  kI : ∀ C f, D.Γ.init C = some f → PySem.W.keepIn X.K (.ref (D.G.cls C)) = true
  gf : ∀ p ∈ L.gl, ∃ v v' u, D.Γ.glob p.1 = some v ∧ X.mg p.2 = some u ∧ RelV v' u ∧ RV D.G.pre v v'
  bf : ∀ x ∈ L.bl, X.mg x = none
  xf : XFacts X.K D
  xt : ∀ C f, D.Γ.exf C = some f → f < D.G.M ∧ ∃ qual fI, XT X.K qual (D.G.fld f) (D.G.cls C) fI
  xm : ∀ p ∈ L.kl, ∀ C f, D.Γ.exf C = some f → (p.1 ≠ p.1) ∨ PySem.W.exmOne X.K (.ref (D.G.cls C)) (.ref (D.G.cls p.1)) = some (D.Γ.sub C p.1) ∨ D.Γ.clsAt p.1 ≠ none
  xk : ∀ p ∈ L.kl, ∀ C f, D.Γ.exf C = some f → PySem.W.kitOne X.K (.ref (D.G.cls C)) (.ref (D.G.cls p.1)) = some (D.Γ.sub C p.1) ∨ D.Γ.clsAt p.1 ≠ none
  xb : ∀ p ∈ L.xl, ∀ C f, D.Γ.exf C = some f → PySem.W.kitOne X.K (.ref (D.G.cls C)) (.type p.2) = some (D.Γ.subB C p.1)
structure EZ (k : Nat) (X : Cx) (D : Dat) (W : WX) (L : Lst) (adr : Nat → Addr) : Prop extends EY k X D W, NZ k X D L adr where
  nd : X.N.Nodup
theorem EZ.blk {k : Nat} {X : Cx} {D : Dat} {W : WX} {L : Lst} {adr : Nat → Addr} (q : EZ k X D W L adr) {s : Shared} {H : Hp} {scope : Scope} {cenv : Env} {fp : List Addr} : EZ k (X.blk s H scope cenv fp) D WF L adr where
  K := q.K
  gd := q.gd
  un := q.un
  rm := q.rm
  tk := takes0
  cm := q.cm
  dy := q.dy
  cf := q.cf
  kf := q.kf
  kI := q.kI
  gf := q.gf
  bf := q.bf
  xf := q.xf
  xt := q.xt
  xm := q.xm
  xk := q.xk
  xb := q.xb
  nd := q.nd
theorem EZ.tr {k : Nat} {X : Cx} {D : Dat} {W W' : WX} {L : Lst} {adr : Nat → Addr} (q : EZ k X D W L adr) {pn : List (Addr × Obj)} {xe : Value → Shared → Prop} (tk : Takes (X.tr pn xe) W') : EZ k (X.tr pn xe) D W' L adr where
  K := q.K
  gd := q.gd
  un := q.un
  rm := q.rm
  tk := tk
  cm := q.cm
  dy := q.dy
  cf := q.cf
  kf := q.kf
  kI := q.kI
  gf := q.gf
  bf := q.bf
  xf := q.xf
  xt := q.xt
  xm := q.xm
  xk := q.xk
  xb := q.xb
  nd := q.nd
/-- within an except suite -/
structure ES' (k : Nat) (X : Cx) (D : Dat) (L : Lst) (adr : Nat → Addr) : Prop extends EX X D, NZ k X D L adr where
  nd : X.N.Nodup
theorem EZ.suite {k : Nat} {X : Cx} {D : Dat} {W : WX} {L : Lst} {adr : Nat → Addr} (q : EZ k X D W L adr) {a : Addr} {pn : List (Addr × Obj)} : ES' k (X.suite a pn) D L adr where
  K := q.K
  gd := q.gd
  un := q.un
  cf := q.cf
  kf := q.kf
  kI := q.kI
  gf := q.gf
  bf := q.bf
  xf := q.xf
  xt := q.xt
  xm := q.xm
  xk := q.xk
  xb := q.xb
  nd := q.nd
theorem EZ.sx {k : Nat} {X : Cx} {D : Dat} {W : WX} {L : Lst} {adr : Nat → Addr} (q : EZ k X D W L adr) : ES' k X D L adr := { q.toEX, q.toNZ with nd := q.nd }
section
variable {X : Cx} {D : Dat} {N : Nat} {W : WX} {R : CurR} {L : Lst} {adr : Nat → Addr} {k : Nat} {e a b o : Expr} {m ma mb mo : ME} {pos p p2 apos : Pos} {t : Bool} {es : List Expr} {ms : MA}
theorem z_var {i : Nat} {x : Str} (q : ES' k X D L adr) (hN : X.N[i]? = some x) (hv : Vis X.env.scope x) (ok : okName x = true) : SE X D W R (.Name x pos) (.var i) t := (se_var q.K hN hv ok).any
theorem z_int {i : Int} {j : Nat} (q : ES' k X D L adr) : SE X D W R (.Constant (.int i) j pos) (.cst (.int i)) t := (se_cst q.K pe_int (by intro a z; cases z) (fun _ => rfl) (by intros; intro z; cases z) rfl).any
theorem z_str {i : Str} {j : Nat} (q : ES' k X D L adr) : SE X D W R (.Constant (.str i) j pos) (.cst (.str i)) t := (se_cst q.K pe_str (by intro a z; cases z) (fun _ => rfl) (by intros; intro z; cases z) rfl).any
theorem z_bl {i : Bool} {j : Nat} (q : ES' k X D L adr) : SE X D W R (.Constant (.bool i) j pos) (.cst (.bl i)) t := (se_cst q.K pe_bl (by intro a z; cases z) (fun _ => rfl) (by intros; intro z; cases z) rfl).any
theorem z_non {j : Nat} (q : ES' k X D L adr) : SE X D W R (.Constant .none j pos) (.cst .non) t := (se_cst q.K pe_non (by intro a z; cases z) (fun _ => rfl) (by intros; intro z; cases z) rfl).any
theorem z_glb {g : Nat} {x : Str} (q : ES' k X D L adr) (hx : (g, x) ∈ L.gl) (hg : Gl X x) (hd : (x == ("__debug__" : Str)) = false) : SE X D W R (.Name x pos) (.glb g) t := by
  obtain ⟨v, v', u, e, hm, r, rv⟩ := q.gf _ hx
  exact se_glb q.toEX hg hm r rv e hd
theorem z_bin {op : Operator} (q : ES' k X D L adr) (ha : SE X D W R a ma false) (hb : SE X D W R b mb false) : SE X D W R (.BinOp a op b pos) (.bin op ma mb) t := (se_bin q.K ha.pe hb.pe).any
theorem z_neg (q : ES' k X D L adr) (ha : SE X D W R a ma false) : SE X D W R (.UnaryOp .USub a pos) (.neg ma) t := (se_neg q.K ha.pe).any
theorem z_cmp {op : CmpOp} (q : ES' k X D L adr) (ha : SE X D W R a ma false) (hb : SE X D W R b mb false) (hm : behindInMarks op b = false) : SE X D W R (.Compare a [op] [b] pos) (.cmp op ma mb) t := (se_cmp q.K q.un ha.pe hb.pe hm).any
theorem z_cmp2 {op op' : CmpOp} {c : Expr} {mc : ME} (q : ES' k X D L adr) (ha : SE X D W R a ma false) (hb : SE X D W R b mb false) (hc : SE X D W R c mc false) (hm : behindInMarks op' c = false) : SE X D W R (.Compare a [op, op'] [b, c] pos) (.cmp2 op op' ma mb mc) t := (se_cmp2 q.K q.un ha.pe hb.pe hc.pe hm).any
theorem z_call {f : Nat} {x : Str} (q : EZ k X D W L adr) (hx : (f, x) ∈ L.cl) (hd : (x == ("__debug__" : Str)) = false) (hg : Gl X x) (ha : SA X D W R (e :: es) ms) : SE X D W R (.Call (.Name x p) (e :: es) [] pos) (.call f ms) t := by
  obtain ⟨h1, h2, h3⟩ := q.cf _ hx
  exact se_call q.toEY hd hg h1 h2 h3 ha
theorem z_make {C : Nat} {x : Str} (q : EZ k X D W L adr) (hx : (C, x) ∈ L.kl) (hd : (x == ("__debug__" : Str)) = false) (hg : Gl X x) (ha : SA X D W R (e :: es) ms) : SE X D W R (.Call (.Name x p) (e :: es) [] pos) (.make C ms) t := by
  obtain ⟨h1, h2⟩ := q.kf _ hx
  exact se_make q.toEY hd hg h1 h2 ha
theorem z_biB {B : Bif} {id : String} {x : Str} (q : ES' k X D L adr) (hc : X.calm = true ∨ bifHot B = true) (nb : B ≠ .lenSet ∧ B ≠ .sorted) (hv : bifV B = .builtin id) (hx : x ∈ L.bl) (hg : Gl X x) (hb : bootBuiltins x = some (.builtin id)) (ok : okName x = true) (ha : SA X D W R (e :: es) ms) : SE X D W R (.Call (.Name x p) (e :: es) [] pos) (.bi B ms) t := se_biB q.toEX hc nb hv hg (q.bf _ hx) hb ok ha
theorem z_biT {B : Bif} {id : String} {x : Str} (q : ES' k X D L adr) (hc : X.calm = true ∨ bifHot B = true) (nb : B ≠ .lenSet ∧ B ≠ .sorted) (hv : bifV B = .type id) (hx : x ∈ L.bl) (hg : Gl X x) (hb : bootBuiltins x = some (.type id)) (ok : okName x = true) (ha : SA X D W R (e :: es) ms) : SE X D W R (.Call (.Name x p) (e :: es) [] pos) (.bi B ms) t := se_biT q.toEX hc nb hv hg (q.bf _ hx) hb ok ha
theorem z_lenSet {x y : Str} {q0 : Pos} (q : ES' k X D L adr) (hc : X.calm = true) (hx : x = "len") (hy : y = "set") (b1 : x ∈ L.bl) (b2 : y ∈ L.bl) (hg : Gl X x) (hg2 : Gl X y) (ha : SE X D W R a ma false) :
    SE X D W R (.Call (.Name x p) [.Call (.Name y p2) [a] [] q0] [] pos) (.bi .lenSet (.cons ma .nil)) t := se_lenSet q.toEX hc hx hy hg (q.bf _ b1) hg2 (q.bf _ b2) ha
theorem z_isI {x y : Str} {T : BT} (q : ES' k X D L adr) (hx : x = "isinstance") (b1 : x ∈ L.bl) (hg : Gl X x) (ha : SE X D W R a ma false) (hg2 : Gl X y) (b2 : y ∈ L.bl) (hb : bootBuiltins y = some (.type (btN T))) (ok : okName y = true) : SE X D W R (.Call (.Name x p) [a, .Name y p2] [] pos) (.isI ma (.b T)) t :=
  se_isI q.toEX hx hg (q.bf _ b1) ha (.cons hg2 (q.bf _ b2) hb ok .nil)
theorem z_isI2 {x y z : Str} {T U : BT} {q1 q2 : Pos} {x1 : Nat} (q : ES' k X D L adr) (hx : x = "isinstance") (b1 : x ∈ L.bl) (hg : Gl X x) (ha : SE X D W R a ma false) (hg2 : Gl X y) (b2 : y ∈ L.bl) (hb : bootBuiltins y = some (.type (btN T))) (ok : okName y = true)
    (hg3 : Gl X z) (b3 : z ∈ L.bl) (hb3 : bootBuiltins z = some (.type (btN U))) (ok3 : okName z = true) : SE X D W R (.Call (.Name x p) [a, .Tuple [.Name y q1, .Name z q2] x1 p2] [] pos) (.isIs ma [.b T, .b U]) t :=
  se_isIs (T := T) (ts := [T, U]) q.toEX hx hg (q.bf _ b1) ha (.cons hg2 (q.bf _ b2) hb ok (.cons hg3 (q.bf _ b3) hb3 ok3 .nil)) (by simp)
theorem z_rng1 {x : Str} {tg : Expr} (q : ES' k X D L adr) (hx : x = "range") (b1 : x ∈ L.bl) (hg : Gl X x) (ha : SE X D W R a ma false) : PI X tg (.Call (.Name x p) [a] [] pos) (tI D W R (.rng1 ma)) := si_rng1 hx hg (q.bf _ b1) ha
theorem z_enum {x : Str} {elts : List Expr} {kk : Nat} {tpos : Pos} (q : ES' k X D L adr) (hx : x = "enumerate") (b1 : x ∈ L.bl) (hg : Gl X x) (ha : SE X D W R a ma false) : PI X (.Tuple elts kk tpos) (.Call (.Name x p) [a] [] pos) (tI D W R (.enum ma)) := si_enum q.K hx hg (q.bf _ b1) ha
theorem z_raise {C : Nat} {x : Str} (q : EZ k X D W L adr) (hx : (C, x) ∈ L.kl) (he : (D.Γ.exf C).isSome = true) (hd : (x == ("__debug__" : Str)) = false) (hg : Gl X x) (ha : SE X D W R a ma false) : PS X (.Raise (some (.Call (.Name x p) [a] [] pos)) none p2) (tS D N W R (.rais C ma)) := by
  obtain ⟨f, ef⟩ := Option.isSome_iff_exists.mp he
  obtain ⟨h1, qual, fI, T⟩ := q.xt C f ef
  exact ss_raise (k := k) q.toEX q.rm q.tk q.cm T h1 rfl ef hd hg (q.kf _ hx).1 ha
theorem z_clm {x : Str} {C n : Nat} {mname : Str} {pl : Sem Bool} (q : EZ k X D W L adr) (hx : (C, x) ∈ L.kl) (hd : (x == ("__debug__" : Str)) = false) (hg : Gl X x) (hn : D.G.fld n = mname) (ha : SA X D W R (e :: es) ms)
    (ht : eval (.Call (.Attribute (.Name x p) mname apos) (e :: es) [] pos) X.env = (do
      let ov ← eval (.Name x p) X.env
      standAt apos.atName
      let (q, first) ← holding [ov] (getMethod ov mname pl)
      callWith pos q first (backTo pos (starEach (e :: es) X.env)) (backToKw pos (keywordEach [] X.env)))) : SE X D W R (.Call (.Attribute (.Name x p) mname apos) (e :: es) [] pos) (.clm C n ms) t := se_clm q.toEY hd hg (q.kf _ hx).1 hn ha ht
theorem z_try {x n : Str} {i C : Nat} {body suite : List Stmt} {b₀ : Stmt} {np pos' : Pos} {b1 b2 : MB} (q : EZ k X D W L adr) (hs : X.stack = X.env :: X.outer) (hf : X.env.frame = some X.env.locals) (hi : X.N[i]? = some n) (hln : X.env.kindOf n = some .local) (hx : (C, x) ∈ L.kl) (hC : D.Γ.clsAt C = none) (hd : (x == ("__debug__" : Str)) = false) (hg : Gl X x)
    (hb : ∀ (W' : WX) (pn : List (Addr × Obj)) (xe : Value → Shared → Prop), EZ k (X.tr pn xe) D W' L adr → PassesOwn (model X.prog X.w) X.A X.env xe → PSs (X.tr pn xe) body (tB D N W' none b1))
    (hsu : ∀ (a : Addr) (oe : Obj) (cls : Value) (d : Option Addr) (pn : List (Addr × Obj)), Zc cls d oe → (∃ vs, oe.data = .fields vs) → ES' k (X.suite a ((a, oe) :: pn)) D L adr → PSs (X.suite a ((a, oe) :: pn)) (b₀ :: suite) (tB D N WF (some (some i, a, cls, d)) b2)) :
    PS X (.Try body [.ExceptHandler (some (.Name x np)) (some n) (b₀ :: suite) pos'] [] [] pos) (tS D N W none (.tryS b1 (.cons C (some i) b2 .nil))) :=
  ss_try hs hf q.nd hi hln ⟨hg, hd, .inl (q.kf _ hx).1⟩ q.tk (fun C' f e => ((q.xm _ hx C' f e).resolve_left (fun z => z rfl)).resolve_right (fun z => z hC)) (fun W' pn xe tk hp => hb W' pn xe (q.tr tk) hp) (fun a oe cls d pn hz hf => hsu a oe cls d pn hz hf q.suite)
theorem z_curI {x y nm : Str} {A0 : Addr} {oe : Obj} {cls : Value} {d : Option Addr} {pn : List (Addr × Obj)} {i C : Nat} (q : ES' k (X.suite A0 ((A0, oe) :: pn)) D L adr) (hz : Zc cls d oe) (hf : ∃ vs, oe.data = .fields vs) (hN : X.N[i]? = some x) (hv : Vis X.env.scope x) (ok : okName x = true)
    (hx : nm = "isinstance") (b1 : nm ∈ L.bl) (hg : Gl X nm) (hy : (C, y) ∈ L.kl) (hC : D.Γ.clsAt C = none) (hg2 : Gl X y) (hd : (y == ("__debug__" : Str)) = false) :
    SE (X.suite A0 ((A0, oe) :: pn)) D W (some (some i, A0, cls, d)) (.Call (.Name nm p) [.Name x p2, .Name y apos] [] pos) (.curI C) t :=
  se_curIs (X := X) (fn := fun Γ C' => Γ.sub C' C) (cv := .ref (D.G.cls C)) (cV := .ref (D.G.cls C)) ⟨q.K, q.gd, q.un⟩ q.xf hz hf hN hv ok hx hg (q.bf _ b1) (fun _ _ _ _ _ => by simp only [evE]) (pe_glob hg2 (q.kf _ hy).1 rfl hd) (fun u r => r) (fun C' f e => (q.xk _ hy C' f e).resolve_right fun z => z hC)
theorem z_curF {x nm : Str} {A0 : Addr} {oe : Obj} {cls : Value} {d : Option Addr} {pn : List (Addr × Obj)} {i f : Nat} (q : ES' k (X.suite A0 ((A0, oe) :: pn)) D L adr) (hz : Zc cls d oe) (hf : ∃ vs, oe.data = .fields vs) (hN : X.N[i]? = some x) (hv : Vis X.env.scope x) (ok : okName x = true) (hn : D.G.fld f = nm)
    (hb : attributeBase (.Name x p) nm X.env (eval (.Name x p) X.env) = eval (.Name x p) X.env) : SE (X.suite A0 ((A0, oe) :: pn)) D W (some (some i, A0, cls, d)) (.Attribute (.Name x p) nm pos) (.curF f) t := se_curF (X := X) ⟨q.K, q.gd, q.un⟩ q.xf hz hf hN hv ok hn hb
theorem z_curB {x y nm : Str} {A0 : Addr} {oe : Obj} {cls : Value} {d : Option Addr} {pn : List (Addr × Obj)} {i B : Nat} {T : String} (q : ES' k (X.suite A0 ((A0, oe) :: pn)) D L adr) (hz : Zc cls d oe) (hf : ∃ vs, oe.data = .fields vs) (hN : X.N[i]? = some x) (hv : Vis X.env.scope x) (ok : okName x = true)
    (hx : nm = "isinstance") (b1 : nm ∈ L.bl) (hg : Gl X nm) (b2 : y ∈ L.bl) (hb : bootBuiltins y = some (.type T)) (ok2 : okName y = true) (hg2 : Gl X y) (hk : (B, T) ∈ L.xl) :
    SE (X.suite A0 ((A0, oe) :: pn)) D W (some (some i, A0, cls, d)) (.Call (.Name nm p) [.Name x p2, .Name y apos] [] pos) (.curB B) t := by
  obtain ⟨o1, _, o3⟩ := okName_ok ok2
  exact se_curIs (X := X) (fn := fun Γ C' => Γ.subB C' B) (cv := .type T) (cV := .ty T) ⟨q.K, q.gd, q.un⟩ q.xf hz hf hN hv ok hx hg (q.bf _ b1) (fun _ _ _ _ _ => by simp only [evE]) (pe_bltn hg2 (q.bf _ b2) hb (v := .ty _) rfl o3 o1) (fun u r => r) (q.xb _ hk)
end
end MP
end
section
set_option Elab.async false
set_option linter.all false
set_option maxHeartbeats 400000
namespace MP
open PySem L2 PySem.MPX
mutual
def gT (Kf : PySem.W.Frag) : MT → TG
  | .nm i => gName i
  | .tup ts => gTup Kf (lnTs ts) (gTs Kf ts)
def gTs (Kf : PySem.W.Frag) : MTs → TGs
  | .nil => gNil
  | .cons t r => gCons (gT Kf t) (gTs Kf r)
end
section
variable {X : Cx} {D : Dat} {N : Nat} {W : WX} {R : CurR} {L : Lst} {adr : Nat → Addr} {k : Nat} {e a b o elt iter tg : Expr} {m ma mb mo me melt : ME} {mt : MT} {mi : MI} {mc : MO} {pos p p2 apos spos : Pos} {t : Bool} {es : List Expr} {ms : MA} {g : TG} {b1 b2 : MB}
theorem z_asg {i : Nat} {x : Str} (q : ES' k X D L adr) (hi : X.N[i]? = some x) (hx : Loc X.env.scope x) (hf : X.fn x = true ∨ X.env.scope.names.lookup x = some .local) (he : SE X D W R e me false) (hs : swapsWith e (some (.Name x p)) spos.line X.env = pure false) (hR : RNot R [i]) : PS X (.Assign [.Name x p] e spos) (tS D N W R (.asg (.nm i) me)) :=
  ss_asg (sg_nm (pos := p) q.nd hi hx hf) (ps_set q.nd hi hx he.pe hs hf) (by simpa only [slT] using hR)
theorem z_for {body : List Stmt} (q : EZ k X D W L adr) (hp : PassesOwn (model X.prog X.w) X.A X.env X.xe) (hi : PI X tg iter (tI D W R mi)) (hg : SG X D tg mt (gT X.K mt)) (hb : PSs X body (tB D N W R b1)) (hs : ∀ x, foldedSetIterable iter X.env x = pure x) (hR : RNot R (slT mt)) : PS X (.For tg iter body [] pos) (tS D N W R (.forS mt mi b1)) := ss_for hp q.cm hi hg hb hs hR
def ownOf (Ns : List Str) (ws : List Nat) : List (Str × Nat) := ws.map fun i => (Ns.getD i "", i)
theorem ownOf_ws {Ns : List Str} {ws : List Nat} : (ownOf Ns ws).map (·.2) = ws := by
  unfold ownOf
  rw [List.map_map]
  exact List.map_id _
theorem z_lc {ifs : List Expr} {scope : Scope} {ws : List Nat} (q : EZ k X D W L adr) (hi : PI X tg iter (tI D W R mi)) (ok : blkC X.N X.env.scope scope (ownOf X.N ws) = true)
    (hg : ∀ (s : Shared) (H : Hp) (C : Addr) (cl : List (Str × Addr)) (fp : List Addr), EZ k (X.blk s H scope (compEnvC scope cl C X.env) fp) D WF L adr → SG (X.blk s H scope (compEnvC scope cl C X.env) fp) D tg mt (gT X.K mt))
    (ht : ∀ (s : Shared) (H : Hp) (C : Addr) (cl : List (Str × Addr)) (fp : List Addr), EZ k (X.blk s H scope (compEnvC scope cl C X.env) fp) D WF L adr → PTs (X.blk s H scope (compEnvC scope cl C X.env) fp) ifs (tCo D mc))
    (he : ∀ (s : Shared) (H : Hp) (C : Addr) (cl : List (Str × Addr)) (fp : List Addr), EZ k (X.blk s H scope (compEnvC scope cl C X.env) fp) D WF L adr → SE (X.blk s H scope (compEnvC scope cl C X.env) fp) D WF none elt melt false)
    (hs : ∀ x, foldedSetIterable iter X.env x = pure x) (hws : ∀ j ∈ slT mt, j ∈ ws) : SE X D W R (.ListComp elt [⟨tg, iter, ifs, 0⟩] scope pos) (.lc ws melt mt mi mc) t :=
  se_lc q.toEX q.cm q.nd hi (blkOk_by ok) (fun s H C cl fp => hg s H C cl fp q.blk) (fun s H C cl fp => ht s H C cl fp q.blk) (fun s H C cl fp => he s H C cl fp q.blk) hs ownOf_ws hws
theorem z_sgn {i : Nat} {x : Str} (hN : X.N.Nodup) (hi : X.N[i]? = some x) (hx : Loc X.env.scope x) (hf : X.fn x = true ∨ X.env.scope.names.lookup x = some .local) {Kf : PySem.W.Frag} : SG X D (.Name x pos) (.nm i) (gT Kf (.nm i)) := by
  simp only [gT]
  exact sg_nm hN hi hx hf
theorem z_sgs0 {Kf : PySem.W.Frag} : SGs X D [] .nil (gTs Kf .nil) := by
  simp only [gTs]
  exact sgs_nil
theorem z_sgs {m : MT} {ms : MTs} {Kf : PySem.W.Frag} (h1 : SG X D e m (gT Kf m)) (h2 : SGs X D es ms (gTs Kf ms)) (hs : (assignEach (e :: es) X.env).map (·.2) = assign e X.env :: (assignEach es X.env).map (·.2)) : SGs X D (e :: es) (.cons m ms) (gTs Kf (.cons m ms)) := by
  simp only [gTs]
  exact sgs_cons h1 h2 hs
theorem z_sgt {ms : MTs} {k0 : Nat} (hK : X.K = D.G.K) (hc : X.calm = true) (h : SGs X D es ms (gTs X.K ms)) (hn : (assignEach es X.env).length = es.length) (hst : (assignEach es X.env).findIdx? (·.1) = none) : SG X D (.Tuple es k0 pos) (.tup ms) (gT X.K (.tup ms)) := by
  simp only [gT]
  rw [h.ln]
  exact sg_tup hK hc h hn hst
theorem z_par {i j : Nat} {x y : Str} {px py pt : Pos} {kt k2 : Nat} {pt2 : Pos} (q : EZ k X D W L adr) (hi : X.N[i]? = some x) (hj : X.N[j]? = some y) (hij : i ≠ j)
    (hx : X.env.scope.names.lookup x = some .local) (hy : X.env.scope.names.lookup y = some .local) (ha : SA X D W R [a, b] ms)
    (hw : swappedStores [.Tuple [.Name x px, .Name y py] kt pt] (.Tuple [a, b] k2 pt2) X.env = pure (some [x, y]))
    (hs : swapsWithSole [.Tuple [.Name x px, .Name y py] kt pt] (.Tuple [a, b] k2 pt2) pos.line X.env = pure false) (hR : RNot R [i, j]) :
    PS X (.Assign [.Tuple [.Name x px, .Name y py] kt pt] (.Tuple [a, b] k2 pt2) pos) (tS D N W R (.par (.tup (.cons (.nm i) (.cons (.nm j) .nil))) ms)) := ss_par q.cm q.nd hi hj hij hx hy ha hw hs hR
theorem z_fld {f : Nat} {x : Str} (q : EZ k X D W L adr) (hf : D.G.fld f = x) (ho : SE X D W R o mo false) (he : SE X D W R e me false) (hs : swapsWith e (some (.Attribute o x p)) pos.line X.env = pure false) : PS X (.Assign [.Attribute o x p] e pos) (tS D N W R (.asgA mo f me)) := ss_fld q.dy hf ho he hs
theorem z_callv {x : Str} {i : Nat} (q : EZ k X D W L adr) (hN : X.N[i]? = some x) (hv : Vis X.env.scope x) (ok : okName x = true) (ha : SA X D W R (e :: es) ms) : SE X D W R (.Call (.Name x p) (e :: es) [] pos) (.callv i ms) t := se_callv q.toEY hN hv ok q.kI ha
end
end MP
end
section
set_option Elab.async false
set_option linter.all false
set_option maxHeartbeats 400000
namespace MP
open PySem L2 PySem.MPX
open PyProof.Rows (envOfC)
/-- what the written part says of the names -/
structure SF (Kf : PySem.W.Frag) (mg : Str → Option Value) (G : Stat) (Γ0 : Gam) (L : Lst) (adr : Nat → Addr) (n : Nat → Bool) : Prop where
  eK : G.K = Kf
  cf : ∀ p ∈ L.cl, mg p.2 = some (.ref (adr p.1)) ∧ PySem.W.keepIn Kf (.ref (adr p.1)) = true ∧ n p.1 = true
  kf : ∀ p ∈ L.kl, mg p.2 = some (.ref (G.cls p.1)) ∧ PySem.W.keepIn Kf (.ref (G.cls p.1)) = true
  kI : ∀ C f, Γ0.init C = some f → PySem.W.keepIn Kf (.ref (G.cls C)) = true
  gf : ∀ p ∈ L.gl, ∃ v v' u, Γ0.glob p.1 = some v ∧ mg p.2 = some u ∧ RelV v' u ∧ RV G.pre v v'
  bf : ∀ x ∈ L.bl, mg x = none
  xt : ∀ C f, Γ0.exf C = some f → f < G.M ∧ ExcC Kf (G.cls C) ∧ ∃ qual fI, XT Kf qual (G.fld f) (G.cls C) fI
  xm : ∀ p ∈ L.kl, ∀ C f, Γ0.exf C = some f → PySem.W.exmOne Kf (.ref (G.cls C)) (.ref (G.cls p.1)) = some (Γ0.sub C p.1) ∨ Γ0.clsAt p.1 ≠ none
  xk : ∀ p ∈ L.kl, ∀ C f, Γ0.exf C = some f → PySem.W.kitOne Kf (.ref (G.cls C)) (.ref (G.cls p.1)) = some (Γ0.sub C p.1) ∨ Γ0.clsAt p.1 ≠ none
  xb : ∀ p ∈ L.xl, ∀ C f, Γ0.exf C = some f → PySem.W.kitOne Kf (.ref (G.cls C)) (.type p.2) = some (Γ0.subB C p.1)
theorem SF.ez {P : Program} {w : World} {Kf : PySem.W.Frag} {mg : Str → Option Value} {base : Heap} {G : Stat} {Γ0 : Gam} {nm : Nms} {T : Nat → Option FD} {L : Lst} {adr : Nat → Addr} {n : Nat → Bool} {fu k : Nat} {Ns ps : List Str} {qual : Str} {sc : Scope} {a : Addr} {cdv : Value} {A : Around} {outer : List Env} {s : Shared} {H : Hp} {E : XK}
    (h : SF Kf mg G Γ0 L adr n) (Sc : FnScope Ns ps sc) (tb : ∀ g, n g = true → FK P w Kf mg base (dk G Γ0 nm T fu k) k g (adr g)) (dy : Dyn P w Kf mg base (dk G Γ0 nm T fu k) k) (hg : A.guards = some []) (hr : Room (2 * k + 1) (A.deeper (envOfC qual sc s.heap.objs.size a cdv))) :
    EZ k (cxOf (L2.CX P w) P w Kf mg base Ns qual sc a cdv A outer s H E) (dk G Γ0 nm T fu k) (fun c d _ H' => E c d H') L adr where
  K := h.eK.symm
  gd := hg
  un := hr.units
  rm := hr
  tk := takes_of rfl rfl rfl rfl
  cm := rfl
  dy := dy
  cf := fun p hp => ⟨(h.cf p hp).1, (h.cf p hp).2.1, tb _ (h.cf p hp).2.2⟩
  kf := h.kf
  kI := h.kI
  gf := h.gf
  bf := h.bf
  xf := ⟨fun C f e => ⟨(h.xt C f e).1, (h.xt C f e).2.1, by
    obtain ⟨_, _, qual, fI, T⟩ := h.xt C f e
    exact T.no⟩⟩
  xt := fun C f e => ⟨(h.xt C f e).1, (h.xt C f e).2.2⟩
  xm := fun p hp C f e => .inr (h.xm p hp C f e)
  xk := h.xk
  xb := h.xb
  nd := Sc.nd
theorem exm_of' {K : PySem.W.Frag} {C : Addr} {cls : Value} {b : Bool} (h1 : PySem.W.subIn K (.ref C) (.type "BaseException") = some true) (hdct : PySem.W.hasDictIn K C = true) (ht : PySem.W.typeIn K (.ref C) = some (.type "type")) (h4 : PySem.W.subIn K cls (.ref C) = some b) : PySem.W.exmOne K cls (.ref C) = some b := PySem.W.exm_ref h1 hdct ht h4
theorem kit_ref {K : PySem.W.Frag} {C : Addr} {cls : Value} {b : Bool} (hdct : PySem.W.hasDictIn K C = true) (ht : PySem.W.typeIn K (.ref C) = some (.type "type")) (h4 : PySem.W.subIn K cls (.ref C) = some b) (hs : (cls == .ref C) = true → b = true) : PySem.W.kitOne K cls (.ref C) = some b := by
  obtain ⟨cd, hc, _⟩ := PySem.W.any_some hdct
  unfold PySem.W.kitOne
  split
  · rename_i e
    rw [hs e]
  · have e2 : ((PySem.W.clsIn K C).isSome && PySem.W.typeIn K (.ref C) == some (.type "type")) = true := by rw [hc, ht] <;> rfl
    show (if ((PySem.W.clsIn K C).isSome && PySem.W.typeIn K (.ref C) == some (.type "type")) = true then PySem.W.subIn K cls (.ref C) else none) = some b
    rw [if_pos e2]
    exact h4
theorem tup_pre {G : Stat} {b : Addr} {its : List Value} {n : Nat} {sl : Array (Option Value)} {xs : List V} (hk : G.K.lookup b = some ⟨.type "tuple", none, .seq its.toArray n, sl⟩) (hl : its.length ≤ sizeLine) (r : Vals xs its) (hf : ∀ μ : List Addr, RVs μ xs xs) (μ : List Addr) (H : Hp) : ObjS G μ H b (.tup xs true) :=
  ⟨xs, hf μ, .inr ⟨fun H' => .inr ⟨_, its.toArray, n, hk, rfl, rfl, by rw [List.size_toArray]; exact hl, by simpa using r⟩, fun _ H' => .inr (.inl ⟨rfl, _, hk, rfl, rfl⟩)⟩⟩
end MP
end
section
set_option Elab.async false
set_option linter.all false
set_option maxHeartbeats 1000000
/-! own operators, own methods, isinstance of own classes -/
namespace MP
open PySem L2 PySem.MPX
theorem cmpback {P : Value → Shared → Prop} {z : V} {v : Value} {s' : Shared} (r : RelV z v) (h : P v s') : PySem.W.CmpBack P v s' := by
  cases z with
  | non => cases (show v = Value.none from r); exact h
  | bl b => cases (show v = Value.bool b from r); exact h
  | int i => obtain ⟨t, q⟩ := (show ∃ t, v = Value.int i t from r); cases q; exact h
  | str i => obtain ⟨t, q⟩ := (show ∃ t, v = Value.str i t from r); cases q; exact h
  | byt i => obtain ⟨t, q⟩ := (show ∃ t, v = Value.bytes i t from r); cases q; exact h
  | flt i => obtain ⟨t, q⟩ := (show ∃ t, v = Value.float i t from r); cases q; exact h
  | ref a => cases (show v = Value.ref a from r); exact h
  | ty n => cases (show v = Value.type n from r); exact h
section
variable {X : Cx} {D : Dat} {W : WX} {R : CurR} {e a b o : Expr} {m ma mb mo : ME} {pos p apos : Pos} {t : Bool} {es rest : List Expr} {ms : MA} {k f : Nat} {g : Addr}
theorem ins_at {pins : List (Addr × Obj)} {τ : St} {H : Hp} {s : Shared} {Fr : Hp} {μ : List Addr} {h : IH} {v v' : V} {u : Value} {C : Nat} (I : Inv X pins τ H s) (S : Sim (D.G.wf Fr) μ h H) (rv : RV μ v v') (r : RelV v' u) (e : insOf h v = some C) :
    ∃ (p : Nat) (a : Addr), v = .ref p ∧ v' = .ref a ∧ u = Value.ref a ∧ μ[p]? = some a ∧ ∃ ox od, PySem.W.InstAt s.heap a ox (D.G.cls C) od := by
  unfold insOf at e
  split at e
  · rename_i p
    split at e
    · rename_i C' fs ho
      cases e
      obtain ⟨a, ha, rfl⟩ := rv
      obtain rfl : u = Value.ref a := r
      obtain ⟨dx, gs, rf, oa⟩ := S.obj _ _ _ ho ha
      obtain ⟨mA, O, _, _, _, _⟩ := ins_get I.hok oa
      obtain ⟨od, J, _⟩ := O.look
      exact ⟨p, a, rfl, rfl, rfl, ha, _, _, J⟩
    · cases e
  · cases e
def dnB : Operator → Option Dn
  | .BitAnd => some .and
  | .BitOr => some .or
  | .BitXor => some .xor
  | .Add => some .add
  | _ => none
/-- two operands, then what is done with them -/
theorem two_ev {Fr : Hp} {pins : List (Addr × Obj)} {τ : St} {H : Hp} {s : Shared} {μ : List Addr} {σ : St} {h : IH} {cu : Option (Nat × Nat)} {K2 : V → V → IH → EV V} {f : Value → Value → Sem Value} {Q : VK} (ha : SE X D W R a ma false) (hb : SE X D W R b mb false) (I : Inv X pins τ H s) (rs : RS μ σ τ) (S : Sim (D.G.wf Fr) μ h H) (hc : CurOk D.G μ τ R cu)
    (w : WP (D.G.wf Fr) W τ RV μ (bnd (evE D.Γ cu false ma σ h) fun x h1 => bnd (evE D.Γ cu false mb σ h1) fun y h2 => K2 x y h2) Q)
    (hf : ∀ v u s2 x y x' y' H2 μ2 h2, Inv X pins τ H2 s2 → Sim (D.G.wf Fr) μ2 h2 H2 → RV μ2 x x' → RV μ2 y y' → RelV x' v → RelV y' u → WP (D.G.wf Fr) W τ RV μ2 (K2 x y h2) Q → wpAny (model X.prog X.w) X.A (f v u) (EP X pins τ Q) X.xe s2) :
    wpAny (model X.prog X.w) X.A (eval a X.env) (fun v s₁ => wpAny (model X.prog X.w) X.A (eval b X.env) (fun u s₂ => wpAny (model X.prog X.w) X.A (f v u) (EP X pins τ Q) X.xe s₂) X.xe s₁) X.xe s := by
  refine binT ha.pe hb.pe I (R := fun x' y' H2 => ∃ μ2 x y h2, Sim (D.G.wf Fr) μ2 h2 H2 ∧ RV μ2 x x' ∧ RV μ2 y y' ∧ WP (D.G.wf Fr) W τ RV μ2 (K2 x y h2) Q) ?_ fun v u s2 x' y' H2 I2 rx ry ⟨μ2, x, y, h2, S2, rx2, ry2, w2⟩ => hf v u s2 x y x' y' H2 μ2 h2 I2 S2 rx2 ry2 rx ry w2
  refine ⟨Fr, μ, σ, h, cu, rs, S, hc, WP.imp (WP.bnd (rel := RV) w) fun x' H1 ⟨μ1, x, h1, p1, S1, rx, w1⟩ => ?_⟩
  exact ⟨Fr, μ1, σ, h1, cu, rs.mono p1, S1, hc.mono p1, WP.imp (WP.bnd (rel := RV) w1) fun y' H2 ⟨μ2, y, h2, p2, S2, ry, w2⟩ => ⟨μ2, x, y, h2, S2, rx.mono p2, ry, w2⟩⟩
/-- a & b, a | b, a ^ b, a + b of instances -/
theorem se_dnB {op : Operator} {d : Dn} (E : EY k X D W) (hd : dnB op = some d) (ha : SE X D W R a ma false) (hb : SE X D W R b mb false) : SE X D W R (.BinOp a op b pos) (.dn d ma mb) t := by
  refine pt_fin ⟨fun pins s τ H Q I y => ?_⟩ E.K (fun Γ c σ h => ⟨_, fun t => rfl⟩) (fun _ => rfl) (by intros; intro z; cases z) rfl
  obtain ⟨Fr, μ, σ, h, cu, rs, S, hc, w⟩ := y
  simp only [evE, bnd_fin] at w
  refine wpAny_BinOp (two_ev ha hb I rs S hc w fun v u s2 x y x' y' H2 μ2 h2 I2 S2 rx ry rv ru w2 => ?_)
  have w3 : WP (D.G.wf Fr) W τ RV μ2 (match insOf h2 x with
    | some C => if (insOf h2 y == some C) = true then (match D.Γ.dun C d with
      | some f => D.Γ.call f [x, y] h2
      | none => none) else none
    | none => none) Q := by
    cases op <;> cases hd <;> exact w2
  split at w3
  · rename_i C eC
    split at w3
    · rename_i ey
      have ey := beq_iff_eq.mp ey
      split at w3
      · rename_i f ef
        obtain ⟨p1, a1, rfl, rfl, rfl, m1, ox, od, J⟩ := ins_at I2 S2 rx rv eC
        obtain ⟨p2, a2, rfl, rfl, rfl, m2, ox2, od2, J2⟩ := ins_at I2 S2 ry ru ey
        obtain ⟨ga, c, dn, F⟩ := E.dy.dun C d f ef
        obtain ⟨m, hF⟩ := I2.fr
        have en : PySem.dunder op.info.2 = dnN d := by cases op <;> cases hd <;> rfl
        refine PySem.W.binop_K (op := op) hF I2.ok.mod.kin J J2.type dn.sf (by rw [en]; exact dn.fi) dn.fn ?_
        refine wpAny_mono (callK E F I2 (us := [.ref a1, .ref a2]) (vs := [.ref p1, .ref p2]) (vs' := [.ref a1, .ref a2]) (.cons rfl (.cons rfl .nil)) S2 (.cons ⟨a1, m1, rfl⟩ (.cons ⟨a2, m2, rfl⟩ .nil)) w3) (fun r s' z => ?_) fun _ _ x => x
        obtain ⟨z', H', I', rz, qz⟩ := z
        exact cmpback rz ⟨z', H', I', rz, qz⟩
      · exact w3.elim
    · exact w3.elim
  · exact w3.elim
/-- ~a -/
theorem se_inv (E : EY k X D W) (ha : SE X D W R a ma false) : SE X D W R (.UnaryOp .Invert a pos) (.dn1 .inv ma) t := by
  refine pt_fin ⟨fun pins s τ H Q I y => ?_⟩ E.K (fun Γ c σ h => ⟨_, fun t => rfl⟩) (fun _ => rfl) (by intros; intro z; cases z) rfl
  obtain ⟨Fr, μ, σ, h, cu, rs, S, hc, w⟩ := y
  simp only [evE, bnd_fin] at w
  refine PyProof.Rows.UnaryOp_ (thn (ha.pe.run pins s τ H _ I ⟨Fr, μ, σ, h, cu, rs, S, hc, WP.bnd (rel := RV) w⟩) fun u s1 z => ?_)
  obtain ⟨v', H1, I1, r, μ1, v, h1, p1, S1, rv, w1⟩ := z
  have w2 : WP (D.G.wf Fr) W τ RV μ1 (match (insOf h1 v).bind fun C => D.Γ.dun C .inv with
    | some f => bnd (D.Γ.call f [v] h1) fun r h2 => ret r h2
    | none => none) Q := w1
  split at w2
  · rename_i f ef
    obtain ⟨C, eC, ed⟩ := Option.bind_eq_some_iff.mp ef
    obtain ⟨p, a1, rfl, rfl, rfl, m1, ox, od, J⟩ := ins_at I1 S1 rv r eC
    obtain ⟨ga, c, dn, F⟩ := E.dy.dun C .inv f ed
    obtain ⟨m, hF⟩ := I1.fr
    rw [bnd_ret] at w2
    exact PySem.W.ksp_inv hF I1.ok.mod.kin J dn.fi dn.fn (callK E F I1 (us := [.ref a1]) (vs := [.ref p]) (vs' := [.ref a1]) (.cons rfl .nil) S1 (.cons ⟨a1, m1, rfl⟩ .nil) w2)
  · exact w2.elim
def inB : CmpOp → Option Bool
  | .In => some false
  | .NotIn => some true
  | _ => none
theorem boolV_wp {Fr : Hp} {τ : St} {H : Hp} {μ : List Addr} {neg : Bool} {z z' : V} {h : IH} {Q : VK} (S : Sim (D.G.wf Fr) μ h H) (r : RV μ z z') (w : WP (D.G.wf Fr) W τ RV μ (boolV neg z h) Q) : ∃ b, z = .bl b ∧ z' = .bl b ∧ Q (.bl (neg != b)) H := by
  unfold boolV at w
  split at w
  · rename_i b
    exact ⟨b, rfl, r, w.val S rfl⟩
  · exact w.elim
theorem bool_test {Fr : Hp} {τ : St} {μ : List Addr} {r : EV V} {Q : Bool → Hp → Prop} (hb : ∀ z h, r = some (.val z h) → ∃ b, z = .bl b) (w : WP (D.G.wf Fr) W τ RB μ (bnd r (fin true)) Q) : WP (D.G.wf Fr) W τ RV μ r (fun z H => ∃ k, z = .bl k ∧ Q k H) := by
  match r, hb, w with
  | none, _, w => exact w
  | some (.exn C d h), _, w => exact w
  | some (.val z h), hb, w =>
    obtain ⟨b, rfl⟩ := hb z h rfl
    intro μ' H' v' p S r
    cases r
    exact ⟨b, rfl, w μ' H' b p S rfl⟩
/-- one comparison -/
theorem se_compare {op : CmpOp} {K2 : V → V → IH → EV V} (hk : X.K = D.G.K) (ev : ∀ (t : Bool) (c : Option (Nat × Nat)) (σ : St) (h : IH), evE D.Γ c t m σ h = bnd (evE D.Γ c false ma σ h) fun x h1 => bnd (evE D.Γ c false mb σ h1) fun y h2 => bnd (K2 x y h2) (fin t))
    (hb2 : ∀ x y h z h', K2 x y h = some (.val z h') → ∃ b, z = .bl b) (ha : SE X D W R a ma false) (hb : SE X D W R b mb false) (hm : behindInMarks op b = false)
    (core : ∀ {pins : List (Addr × Obj)} {τ : St} {Fr : Hp} {Q : VK} v u s2 x y x' y' H2 μ2 h2, Inv X pins τ H2 s2 → Sim (D.G.wf Fr) μ2 h2 H2 → RV μ2 x x' → RV μ2 y y' → RelV x' v → RelV y' u → WP (D.G.wf Fr) W τ RV μ2 (K2 x y h2) Q → wpAny (model X.prog X.w) X.A (compareOp op v u) (EP X pins τ Q) X.xe s2) :
    SE X D W R (.Compare a [op] [b] pos) m t := by
  have pe : PE X (.Compare a [op] [b] pos) (tE D W R m) := ⟨fun pins s τ H Q I y => by
    obtain ⟨Fr, μ, σ, h, cu, rs, S, hc, w⟩ := y
    rw [ev] at w
    simp only [bnd_fin] at w
    exact wpAny_Compare1 (two_ev (K2 := K2) ha hb I rs S hc w fun v u s2 x y x' y' H2 μ2 h2 I2 S2 rx ry rv ru w2 => core v u s2 x y x' y' H2 μ2 h2 I2 S2 rx ry rv ru w2) hm⟩
  have pt : PT X (.Compare a [op] [b] pos) (tT D W R m) := ⟨fun pins s τ H Q I y => by
    obtain ⟨Fr, μ, σ, h, cu, rs, S, hc, w⟩ := y
    rw [ev] at w
    refine wpAny_isTrue_Compare1 (thn (ha.pe.run pins s τ H _ I ⟨Fr, μ, σ, h, cu, rs, S, hc, WP.bnd (rel := RV) w⟩) fun v s1 z => ?_) hm
    obtain ⟨x', H1, I1, rv, μ1, x, h1, p1, S1, rx, w1⟩ := z
    refine thn (hb.pe.run pins s1 τ H1 _ I1 ⟨Fr, μ1, σ, h1, cu, rs.mono p1, S1, hc.mono p1, WP.bnd (rel := RV) w1⟩) fun u s2 z => ?_
    obtain ⟨y', H2, I2, ru, μ2, y, h2, p2, S2, ry, w2⟩ := z
    refine thn (core v u s2 x y x' y' H2 μ2 h2 I2 S2 (rx.mono p2) ry rv ru (bool_test (hb2 x y h2) w2)) fun r s3 z => ?_
    obtain ⟨z', H3, I3, rz, b, rfl, q⟩ := z
    cases rz
    exact wpAny_truthy_bool ⟨H3, I3, q⟩⟩
  exact ⟨pe, fun _ => pt, fun _ ⟨_, _, _, z⟩ => (by cases z), rfl⟩
theorem boolV_bl {neg : Bool} {z z2 : V} {h h2 : IH} (e : boolV neg z h = some (.val z2 h2)) : ∃ b, z2 = .bl b := by
  unfold boolV at e
  split at e
  · cases e; exact ⟨_, rfl⟩
  · cases e
theorem bnd_bl {r : EV V} {neg : Bool} {z : V} {h : IH} (e : bnd r (boolV neg) = some (.val z h)) : ∃ b, z = .bl b := by
  match r, e with
  | some (.val a h1), e => exact boolV_bl e
/-- x in o, x not in o, o an instance -/
theorem se_dnIn {op : CmpOp} {neg : Bool} (E : EY k X D W) (hd : inB op = some neg) (ha : SE X D W R a ma false) (hb : SE X D W R b mb false) (hm : behindInMarks op b = false) : SE X D W R (.Compare a [op] [b] pos) (.dn (if neg then .nin else .inn) ma mb) t := by
  refine se_compare (K2 := fun x y h2 => match (insOf h2 y).bind fun C => D.Γ.dun C .inn with
    | some f => bnd (D.Γ.call f [y, x] h2) (boolV neg)
    | none => none) E.K (fun t c σ h => ?_) (fun x y h z h' e => ?_) ha hb hm fun {pins τ Fr Q} v u s2 x y x' y' H2 μ2 h2 I2 S2 rx ry rv ru w3 => ?_
  · simp only [evE, bnd_assoc]
    cases op <;> cases hd <;> rfl
  · split at e
    · exact bnd_bl e
    · cases e
  · split at w3
    · rename_i f ef
      obtain ⟨C, eC, ed⟩ := Option.bind_eq_some_iff.mp ef
      obtain ⟨p, a1, rfl, rfl, rfl, m1, ox, od, J⟩ := ins_at I2 S2 ry ru eC
      obtain ⟨ga, c, dn, F⟩ := E.dy.dun C .inn f ed
      obtain ⟨m, hF⟩ := I2.fr
      have core := callK E F I2 (us := [.ref a1, v]) (vs := [.ref p, x]) (vs' := [.ref a1, x']) (.cons rfl (.cons rv .nil)) S2 (.cons ⟨a1, m1, rfl⟩ (.cons rx .nil)) (WP.bnd (rel := RV) w3)
      have fin : ∀ (r : Value) (s' : Shared), EP X pins τ (fun x' H1 => ∃ μ1 x h1, μ2 <+: μ1 ∧ Sim (D.G.wf Fr) μ1 h1 H1 ∧ RV μ1 x x' ∧ WP (D.G.wf Fr) W τ RV μ1 (boolV neg x h1) Q) r s' → ∃ b, r = Value.bool b ∧ EP X pins τ Q (Value.bool (neg != b)) s' := by
        intro r s' ⟨z', H', I', rz, μ3, z, h3, p3, S3, rz3, w4⟩
        obtain ⟨b, rfl, rfl, q⟩ := boolV_wp S3 rz3 w4
        exact ⟨b, rz, .bl (neg != b), H', I', (rfl : Value.bool (neg != b) = Value.bool (neg != b)), q⟩
      cases op <;> cases hd
      · refine PySem.W.in_K hF I2.ok.mod.kin J dn.fi dn.fn (wpAny_mono core (fun r s' z => ?_) fun _ _ x => x)
        obtain ⟨b, rfl, q⟩ := fin r s' z
        exact wpAny_truthy_bool (by simpa using q)
      · refine PySem.W.notIn_K hF I2.ok.mod.kin J dn.fi dn.fn (wpAny_mono core (fun r s' z => ?_) fun _ _ x => x)
        obtain ⟨b, rfl, q⟩ := fin r s' z
        exact wpAny_truthy_bool (by simpa using q)
    · exact w3.elim
theorem insCls_ne {h : IH} {x y : V} (p : insOf h x = some k) (q : insOf h y = some k) : (insOf h y == some k) = true := by rw [q]; simp
/-- what an own == was asked by != of the same class -/
theorem ne_own {prog : Program} {w : World} {A : Around} {E : Value → Shared → Prop} {s : Shared} {K : PySem.W.Frag} {x C f : Addr} {ox : Obj} {od : Option Obj} {b : Value} {Q : Value → Shared → Prop}
    (hu : A.units + 1 < cLine) (X : K.In s.heap) (I : PySem.W.InstAt s.heap x ox C od) {tb : Value} (hb : PySem.W.Looks (model prog w) s.heap (typeOf b) tb) (hnf : PySem.W.notFirst K C tb = true) (hn : PySem.W.findIn K (.ref C) "__ne__" = some (some (.builtin "object.__ne__"))) (hm : PySem.W.mroIn K C (.type "object") = some true)
    (hs : PySem.W.findIn K (.ref C) "__eq__" = some (some (.ref f))) (hf : PySem.W.isFn K (.ref f) = true)
    (h : wpAny (model prog w) A.in1 (call (.ref f) [.ref x, b]) (fun v s' => ∃ k, v = .bool k ∧ Q (.bool (!k)) s') E s) : wpAny (model prog w) A (compareOp .NotEq (.ref x) b) Q E s := by
  have SN := PySem.F.cmp_object.ne
  have entry : wpAny (model prog w) A.in1 (Builtin.«object.__ne__» ⟨[.ref x, b], []⟩) (fun fin s' => ∃ k, fin = .done (.ret (.bool k)) ∧ Q (.bool k) s') E s := by
    unfold Builtin.«object.__ne__»
    repeat (first
      | with_reducible refine wpAny_cRoomFor (show A.in1.units < cLine from hu) ?_
      | (refine wpAny_bind (m := callSpecialIfBound? (.ref x) (Str.ofString "__eq__") [b])
          (PySem.W.ifBound_K X I hs hf (wpAny_mono h (fun r s' hr => by
            obtain ⟨k, rfl, hq⟩ := hr
            repeat (first | exact ⟨_, rfl, hq⟩ | exact wpAny_pure ⟨_, rfl, hq⟩ | exact wpAny_truthy_bool ⟨_, rfl, hq⟩ | (refine wpAny_bind (m := truthy (.bool _)) (wpAny_truthy_bool ?_)) | wp_step)) fun _ _ e => e)))
      | wp_step)
  have isO : PySem.W.Looks (model prog w) s.heap (isInstance (.ref x) (.type "object")) true := I.type.andThen (PySem.W.looks_mroIn X hm)
  have hcall : wpAny (model prog w) A (call (.builtin "object.__ne__") [.ref x, b]) (fun v s' => ∃ k, v = .bool k ∧ Q (.bool k) s') E s := by
    refine wpAny_call (codeAny_call_builtin SN.plain PySem.F.cmpEntry_ne (@PySem.W.check_slot (model prog w) _ _ s "object.__ne__" "object" "__ne__" (Value.ref x) [b] [] _ PySem.F.cmpKind_ne PySem.F.cmpSplit_ne isO (PySem.F.cmpArgs_ne _ _) ?_))
    exact wpAny_mono entry (fun fin s' z => by obtain ⟨k, rfl, q⟩ := z; exact ⟨k, rfl, q⟩) fun _ _ e => e
  have tc : wpAny (model prog w) A (tryCompare (.ref x) "__ne__" b) (fun r s' => ∃ v, r = some v ∧ Q v s') E s := by
    unfold tryCompare
    refine wpAny_bind ?_
    simp only [callSpecialIfBound?, bindSpecialIfBound?]
    refine wpAny_holding (wpAny_bind (wpAny_bind (wpAny_bind (I.type.here ((PySem.W.looks_findIn X hn).here ?_)))))
    simp only [SN.bind]
    refine wpAny_bind (wpAny_askSetting (wpAny_ite ?_))
    have fin : wpAny (model prog w) A (call (.builtin "object.__ne__") ([.ref x] ++ [b]) >>= fun v => pure (some v)) (fun r s' => wpAny (model prog w) A (match r with | some .notImplemented | none => pure none | some v => pure (some v)) (fun r s' => ∃ v, r = some v ∧ Q v s') E s') E s :=
      wpAny_bind (wpAny_mono hcall (fun v s' z => by obtain ⟨k, rfl, q⟩ := z; exact wpAny_pure (wpAny_pure ⟨_, rfl, q⟩)) fun _ _ h' => h')
    split
    · exact wpAny_bind (wpAny_pure (wpAny_pure fin))
    · exact wpAny_tryCatch (wpAny_bind (wpAny_pure (wpAny_pure fin)))
  show wpAny _ _ (richCompare .NotEq (.ref x) b) _ _ _
  unfold richCompare
  simp only [oneThing_ref]
  refine wpAny_holding (wpAny_bind (wpAny_cRoomFor (Nat.lt_of_succ_lt hu) ?_))
  rw [PySem.cmpInfo_NotEq]
  refine wpAny_bind (I.type.here (wpAny_bind (hb.here ?_)))
  split
  · rename_i q
    have e : PySem.W.subIn K tb (.ref C) = some false := by
      rcases Bool.or_eq_true_iff.mp hnf with e | e
      · rw [beq_iff_eq.mp e] at q; simp at q
      · exact beq_iff_eq.mp e
    refine wpAny_bind ((PySem.W.looks_subIn X e).here ?_)
    simp only [Bool.false_eq_true, if_false]
    refine wpAny_bind (wpAny_mono tc (fun r s' z => ?_) fun _ _ e => e)
    obtain ⟨v, rfl, q⟩ := z
    exact wpAny_pure q
  · refine wpAny_bind (wpAny_pure ?_)
    simp only [Bool.false_eq_true, if_false]
    refine wpAny_bind (wpAny_mono tc (fun r s' z => ?_) fun _ _ e => e)
    obtain ⟨v, rfl, q⟩ := z
    exact wpAny_pure q
def eqB : CmpOp → Option Bool
  | .Eq => some false
  | .NotEq => some true
  | _ => none
theorem Room.in0' {k : Nat} {A : Around} (r : Room (k + 1) A) : Room k A.in1 := r.in1
/-- the call of a def of the text from within a built-in's -/
theorem callK1 {Fr : Hp} (E : EY k X D W) (F : FK X.prog X.w X.K X.mg X.base D k f g) {pins : List (Addr × Obj)} {τ : St} {H : Hp} {s : Shared} {us : List Value} {vs vs' : List V} {μ : List Addr} {h : IH} {Q : VK}
    (I : Inv X pins τ H s) (r : Vals vs' us) (S : Sim (D.G.wf Fr) μ h H) (rv : RVs μ vs vs') (w : WP (D.G.wf Fr) W τ RV μ (D.Γ.call f vs h) Q) : wpAny (model X.prog X.w) X.A.in1 (call (.ref g) us) (EP X pins τ Q) X.xe s := by
  obtain ⟨fd, ps, F, hb⟩ := F.ex
  have q : spI D f vs' H Q (fun c d H' => W c d τ H') := ⟨Fr, μ, h, vs, S, rv, w.at⟩
  have n : (us ++ []).length = ps.length := by rw [List.append_nil, ← r.length]; exact F.len _ _ _ _ q
  have b := hb s us I.kIn n
  rw [List.append_nil] at b
  refine wpAny_call (codeAny_mono (F.run X.A.in1 X.stack s H ⟨us, []⟩ us vs' Q _ E.gd E.rm.in1 I.env0.in1 b r q) fun res s' z => ?_)
  match res, z with
  | .error e, z => exact E.tk e s' (XE.of_call I (fun _ _ _ y => y) z)
  | .ok (.ret u), z => exact I.after z
  | .ok .next, z => exact False.elim z
  | .ok .brk, z => exact False.elim z
  | .ok .cont, z => exact False.elim z
/-- == and != by an own ==, what is done -/
theorem eq_run {op : CmpOp} {neg : Bool} {pins : List (Addr × Obj)} {τ : St} {H2 : Hp} {s2 : Shared} {Fr : Hp} {μ2 : List Addr} {h2 : IH} {y y' : V} {u tb : Value} {Q : VK} {C f p1 : Nat} {a1 : Addr} {ox : Obj} {od : Option Obj} (E : EY k X D W) (hd : eqB op = some neg) (hk : D.Γ.isK C = true) (I2 : Inv X pins τ H2 s2) (S2 : Sim (D.G.wf Fr) μ2 h2 H2)
    (m1 : μ2[p1]? = some a1) (J : PySem.W.InstAt s2.heap a1 ox (D.G.cls C) od) (ry : RV μ2 y y') (ru : RelV y' u) (hb : PySem.W.Looks (model X.prog X.w) s2.heap (typeOf u) tb) (hnf : PySem.W.notFirst X.K (D.G.cls C) tb = true) (ef : D.Γ.dun C .eq = some f)
    (w3 : WP (D.G.wf Fr) W τ RV μ2 (bnd (D.Γ.call f [.ref p1, y] h2) (boolV neg)) Q) : wpAny (model X.prog X.w) X.A (compareOp op (.ref a1) u) (EP X pins τ Q) X.xe s2 := by
  obtain ⟨ga, c, dn, F⟩ := E.dy.dun C .eq f ef
  obtain ⟨isf, _⟩ := E.dy.isK C hk
  obtain ⟨m, hF⟩ := I2.fr
  have fin : ∀ (r : Value) (s' : Shared), EP X pins τ (fun x' H1 => ∃ μ1 x h1, μ2 <+: μ1 ∧ Sim (D.G.wf Fr) μ1 h1 H1 ∧ RV μ1 x x' ∧ WP (D.G.wf Fr) W τ RV μ1 (boolV neg x h1) Q) r s' → ∃ b, r = Value.bool b ∧ EP X pins τ Q (Value.bool (neg != b)) s' := by
    intro r s' ⟨z', H', I', rz, μ3, z, h3, p3, S3, rz3, w4⟩
    obtain ⟨b, rfl, rfl, q⟩ := boolV_wp S3 rz3 w4
    exact ⟨b, rz, .bl (neg != b), H', I', (rfl : Value.bool (neg != b) = Value.bool (neg != b)), q⟩
  cases op <;> cases hd
  · have core := callK E F I2 (us := [.ref a1, u]) (vs := [.ref p1, y]) (vs' := [.ref a1, y']) (.cons rfl (.cons ru .nil)) S2 (.cons ⟨a1, m1, rfl⟩ (.cons ry .nil)) (WP.bnd (rel := RV) w3)
    refine PySem.W.cmp_K (op := .Eq) (tb := tb) E.rm.units0 hF I2.ok.mod.kin J hb hnf dn.fi dn.fn (wpAny_mono core (fun r s' z => ?_) fun _ _ x => x)
    obtain ⟨b, rfl, q⟩ := fin r s' z
    exact (by simpa using q : EP X pins τ Q (Value.bool b) s')
  · have core := callK1 E F I2 (us := [.ref a1, u]) (vs := [.ref p1, y]) (vs' := [.ref a1, y']) (.cons rfl (.cons ru .nil)) S2 (.cons ⟨a1, m1, rfl⟩ (.cons ry .nil)) (WP.bnd (rel := RV) w3)
    refine ne_own (by have := E.rm.un; omega) I2.kIn J hb hnf isf.ne isf.cm dn.fi dn.fn (wpAny_mono core (fun r s' z => ?_) fun _ _ x => x)
    obtain ⟨b, rfl, q⟩ := fin r s' z
    exact ⟨b, rfl, by simpa using q⟩
theorem isBT_ty {h : IH} {y : V} (e : isBT h y = true) : ∃ T : BT, tyOf h y = some (.b T) := by
  unfold isBT at e
  split at e
  · rename_i T q; exact ⟨T, q⟩
  · cases e
/-- x == y, x != y, x an instance -/
theorem se_dnEq {op : CmpOp} {neg : Bool} (E : EY k X D W) (hd : eqB op = some neg) (ha : SE X D W R a ma false) (hb : SE X D W R b mb false) (hm : behindInMarks op b = false) : SE X D W R (.Compare a [op] [b] pos) (.dn (if neg then .ne else .eq) ma mb) t := by
  refine se_compare (K2 := fun x y h2 => match insOf h2 x with
    | some C => if D.Γ.isK C then (if insOf h2 y == some C then (match D.Γ.dun C .eq with
        | some f => bnd (D.Γ.call f [x, y] h2) (boolV neg)
        | none => none)
      else if isBT h2 y && D.Γ.eqg C then ret (.bl neg) h2 else none) else none
    | none => none) E.K (fun t c σ h => ?_) (fun x y h z h' e => ?_) ha hb hm fun {pins τ Fr Q} v u s2 x y x' y' H2 μ2 h2 I2 S2 rx ry rv ru w3 => ?_
  · simp only [evE, bnd_assoc]
    cases op <;> cases hd <;> rfl
  · split at e
    · split at e
      · split at e
        · split at e
          · exact bnd_bl e
          · cases e
        · split at e
          · cases e; exact ⟨_, rfl⟩
          · cases e
      · cases e
    · cases e
  · split at w3
    · rename_i C eC
      obtain ⟨p1, a1, rfl, rfl, rfl, m1, ox, od, J⟩ := ins_at I2 S2 rx rv eC
      split at w3
      · rename_i hk
        split at w3
        · rename_i ey
          split at w3
          · rename_i f ef
            obtain ⟨p2, a2, rfl, rfl, rfl, m2, ox2, od2, J2⟩ := ins_at I2 S2 ry ru (beq_iff_eq.mp ey)
            exact eq_run (y := .ref p2) (y' := .ref a2) E hd hk I2 S2 m1 J ⟨a2, m2, rfl⟩ (rfl : Value.ref a2 = Value.ref a2) J2.type (by simp [PySem.W.notFirst]) ef w3
          · exact w3.elim
        · split at w3
          · rename_i hbt
            rw [Bool.and_eq_true] at hbt
            obtain ⟨T, eT⟩ := isBT_ty hbt.1
            have ty := ty_ok S2 ry eT
            refine E.dy.eqg C hbt.2 X pins τ H2 s2 op a1 ox od u y' T Q rfl rfl rfl rfl rfl E.gd E.rm I2 J ru (by rw [show X.K = (D.G.wf Fr).K from E.K]; exact ty) ?_ ?_
            · cases op <;> cases hd <;> simp
            · have q := w3.val S2 rfl
              cases op <;> cases hd <;> exact q
          · exact w3.elim
      · exact w3.elim
    · exact w3.elim
/-- the receiver of an own method -/
theorem rcv_at {pins : List (Addr × Obj)} {τ : St} {H : Hp} {s : Shared} {Fr : Hp} {μ : List Addr} {h : IH} {v v' : V} {u : Value} {n : Nat} {f : Nat} (E : EY k X D W) (I : Inv X pins τ H s) (S : Sim (D.G.wf Fr) μ h H) (rv : RV μ v v') (r : RelV v' u) (e : methF D.Γ n v h = some f) :
    ∃ (p : Nat) (a C : Addr) (dx : Addr) (gs : List (Str × V)) (ga : Addr), v = .ref p ∧ v' = .ref a ∧ u = Value.ref a ∧ μ[p]? = some a ∧ H a = some (.ins C dx gs) ∧ Cls X.K C ∧ Meth X.K C (D.G.fld n) ga ∧ gs.lookup (D.G.fld n) = none ∧ FK X.prog X.w X.K X.mg X.base D k f ga := by
  unfold methF at e
  split at e
  · rename_i p
    split at e
    · rename_i C fs ho
      split at e
      · rename_i hl
        obtain ⟨a, ha, rfl⟩ := rv
        obtain rfl : u = Value.ref a := r
        obtain ⟨dx, gs, rf, oa⟩ := S.obj _ _ _ ho ha
        obtain ⟨hx, ga, c, m, F⟩ := E.dy.meth C n f e
        exact ⟨p, a, _, dx, gs, ga, rfl, rfl, rfl, ha, oa, c, m, rf.none hx hl, F⟩
      · cases e
    · cases e
  · cases e
/-- o.m(e, ..) -/
theorem se_met {n : Nat} {mname : Str} {pl : Sem Bool} (E : EY k X D W) (hn : D.G.fld n = mname) (ho : SE X D W R o mo false) (ha : SA X D W R (e :: es) ms)
    (ht : eval (.Call (.Attribute o mname apos) (e :: es) [] pos) X.env = (do
      let ov ← eval o X.env
      standAt apos.atName
      let (q, first) ← holding [ov] (getMethod ov mname pl)
      callWith pos q first (backTo pos (starEach (e :: es) X.env)) (backToKw pos (keywordEach [] X.env)))) :
    SE X D W R (.Call (.Attribute o mname apos) (e :: es) [] pos) (.met mo n ms) t := by
  subst hn
  have ns := ha.ns
  rw [List.all_cons, Bool.and_eq_true] at ns
  refine pt_fin ⟨fun pins s τ H Q I y => ?_⟩ E.K (fun Γ c σ h => ⟨_, fun t => rfl⟩) (fun _ => rfl) (by intros; intro z; cases z) rfl
  obtain ⟨Fr, μ, σ, h, cu, rs, S, hc, w⟩ := y
  simp only [evE, bnd_fin] at w
  refine PySem.W.methodCall_KW (pl := pl) (thn (ho.pe.run pins s τ H _ I ⟨Fr, μ, σ, h, cu, rs, S, hc, WP.bnd (rel := RV) w⟩) fun u s1 z => ?_) ht
  obtain ⟨v', H1, I1, r, μ1, v, h1, p1, S1, rv, w1⟩ := z
  split at w1
  · rename_i f ef
    obtain ⟨p, a, C, dx, gs, ga, rfl, rfl, rfl, m1, oa, c, hm, l, F⟩ := rcv_at E I1 S1 rv r ef
    refine getmeth_ok I1 oa c hm l ?_
    refine PySem.W.callWith_K (first := [.ref a]) (h₀ := X.base) I1.ok.mod.kin hm.kp (thn (ha.pa.run pos pins s1 τ H1 _ I1 ⟨Fr, μ1, σ, h1, cu, rs.mono p1, S1, hc.mono p1, WP.bnd (rel := RVs) w1⟩) fun us s2 z => ?_) (star_of ns.1) (backTo_plain ns.2)
    obtain ⟨vs', H2, I2, r2, μ2, vs, h2, p2, S2, rvs, w2⟩ := z
    exact ⟨I2.kIn, callK E F I2 (us := .ref a :: us) (vs := .ref p :: vs) (vs' := .ref a :: vs') (.cons rfl r2) S2 (.cons ⟨a, pre_get p2 m1, rfl⟩ rvs) w2⟩
  · exact w1.elim
/-- o.m() -/
theorem se_met0 {n : Nat} {mname : Str} {pl : Sem Bool} (E : EY k X D W) (hn : D.G.fld n = mname) (ho : SE X D W R o mo false)
    (ht : eval (.Call (.Attribute o mname apos) [] [] pos) X.env = (do
      let ov ← eval o X.env
      standAt apos.atName
      let (q, first) ← holding [ov] (getMethod ov mname pl)
      callWith pos q first (backTo pos (starEach [] X.env)) (backToKw pos (keywordEach [] X.env)))) :
    SE X D W R (.Call (.Attribute o mname apos) [] [] pos) (.met mo n .nil) t := by
  subst hn
  refine pt_fin ⟨fun pins s τ H Q I y => ?_⟩ E.K (fun Γ c σ h => ⟨_, fun t => rfl⟩) (fun _ => rfl) (by intros; intro z; cases z) rfl
  obtain ⟨Fr, μ, σ, h, cu, rs, S, hc, w⟩ := y
  simp only [evE, evA, bnd_fin] at w
  refine PySem.W.methodCall_KW (pl := pl) (thn (ho.pe.run pins s τ H _ I ⟨Fr, μ, σ, h, cu, rs, S, hc, WP.bnd (rel := RV) w⟩) fun u s1 z => ?_) ht
  obtain ⟨v', H1, I1, r, μ1, v, h1, p1, S1, rv, w1⟩ := z
  split at w1
  · rename_i f ef
    obtain ⟨p, a, C, dx, gs, ga, rfl, rfl, rfl, m1, oa, c, hm, l, F⟩ := rcv_at E I1 S1 rv r ef
    refine getmeth_ok I1 oa c hm l ?_
    exact PySem.W.callWith_K0 (first := [.ref a]) I1.kIn hm.kp (callK E F I1 (us := [.ref a]) (vs := [.ref p]) (vs' := [.ref a]) (.cons rfl .nil) S1 (.cons ⟨a, m1, rfl⟩ .nil) w1)
  · exact w1.elim
/-- C.f, a class constant -/
theorem se_con {x f : Str} {C n : Nat} (E : EY k X D W) (hd : (x == ("__debug__" : Str)) = false) (hg : Gl X x) (hm : X.mg x = some (.ref (D.G.cls C))) (hn : D.G.fld n = f) (hb : attributeBase (.Name x p) f X.env (eval (.Name x p) X.env) = eval (.Name x p) X.env) : SE X D W R (.Attribute (.Name x p) f pos) (.con C n) t := by
  subst hn
  refine pt_fin ⟨fun pins s τ H Q I y => ?_⟩ E.K (fun Γ c σ h => ⟨_, fun t => rfl⟩) (fun _ => rfl) (by intros; intro z; cases z) rfl
  obtain ⟨Fr, μ, σ, h, cu, rs, S, hc, w⟩ := y
  simp only [evE, bnd_fin] at w
  unfold optV at w
  split at w
  · rename_i v hy
    obtain ⟨mc, v', u, cr, cv, ry⟩ := E.dy.con C n v hy
    refine attr_of hb (ld_glob I hg hm ?_ hd)
    exact ClX.getcval_ok I cr cv fun s2 I2 => ⟨v', H, I2, cv.rel, w.val S (ry.mono S.pre)⟩
  · exact w.elim
theorem ins_ty {h : IH} {y : V} {C : Nat} (e : tyOf h y = some (.c C)) : ∃ p fs, y = .ref p ∧ h[p]? = some (.ins C fs) := by
  unfold tyOf at e
  split at e
  · cases e
  · cases e
  · cases e
  · cases e
  · rename_i a
    split at e
    · cases e
    · cases e
    · cases e
    · cases e
    · rename_i C' fs ho; cases e; exact ⟨a, fs, rfl, ho⟩
    · cases e
  · cases e
/-- isinstance(a, C), C an own class -/
theorem se_isC {x y : Str} {C : Nat} {p2 : Pos} (E : EY k X D W) (hx : x = "isinstance") (hg : Gl X x) (hm : X.mg x = none) (ha : SE X D W R a ma false) (hd : (y == ("__debug__" : Str)) = false) (hg2 : Gl X y) (hm2 : X.mg y = some (.ref (D.G.cls C))) : SE X D W R (.Call (.Name x p) [a, .Name y p2] [] pos) (.isC ma C) t := by
  subst hx
  have pg : PE X (.Name y p2) (tC (.ref (D.G.cls C))) := pe_glob hg2 hm2 rfl hd
  refine pt_fin ((pe_callB call_isi hg hm (by decide +kernel) (pa_cons ha.pe (pa_cons pg pa_nil (star_of rfl)) (star_of ha.ns)) (by decide) (by decide) (star_of ha.ns) (by rw [star_of (e := Expr.Name y p2) rfl]; rfl)).imp fun τ H Q ⟨F, μ, σ, h, c, rs, S, hcu, w⟩ => ?_) E.K
    (fun Γ c σ h => ⟨bnd (evE Γ c false ma σ h) fun x h1 => match isCV Γ C h1 x with
      | some b => ret (.bl b) h1
      | none => none, fun t => by
      simp only [evE, bnd_assoc]
      congr 1
      funext x h1
      cases isCV Γ C h1 x with
      | none => rfl
      | some b => cases t <;> rfl⟩) (fun _ => rfl) (by intros; intro z; cases z) rfl
  simp only [evE] at w
  refine ⟨F, μ, σ, h, c, rs, S, hcu, WP.imp (WP.bnd (rel := RV) w) fun v' H1 ⟨μ1, v, h1, p1, S1, rv, w1⟩ => ?_⟩
  unfold isCV at w1
  cases hk : D.Γ.isK C with
  | false => rw [hk] at w1; exact w1.elim
  | true =>
    rw [hk] at w1
    obtain ⟨isf, sub⟩ := E.dy.isK C hk
    simp only [if_true] at w1
    cases ht : tyOf h1 v with
    | none => rw [ht] at w1; exact w1.elim
    | some ty =>
      rw [ht] at w1
      cases ty with
      | b T =>
        have tx := ty_ok S1 rv ht
        rw [show X.K = (D.G.wf F).K from E.K] at isf ⊢
        exact ⟨v', .ref (D.G.cls C), _, _, _, rfl, .own _, tx, isf.kb T, w1.val S1 rfl⟩
      | c C' =>
        simp only at w1
        split at w1
        · rename_i b eb
          split at eb
          · rename_i hk2
            cases eb
            obtain ⟨isf2, _⟩ := E.dy.isK C' hk2
            obtain ⟨q, fs, rfl, ho⟩ := ins_ty ht
            obtain ⟨a2, ha2, rfl⟩ := rv
            obtain ⟨dx, gs, rf, oa⟩ := S1.obj _ _ _ ho ha2
            exact ⟨.ref a2, .ref (D.G.cls C), .ref (D.G.cls C'), _, _, rfl, .own _, .base (.ins oa isf2.cl isf2.cc isf2.cg isf2.ct isf2.cm), sub C' hk2, w1.val S1 rfl⟩
          · cases eb
        · exact w1.elim
/-- return NotImplemented, never reached -/
theorem ss_fail {N : Nat} {st : Stmt} : PS X st (tS D N W R .fail) := ⟨fun pins s τ H Dn I y => by
  obtain ⟨Fr, μ, σ, h, cu, rs, S, hc, w⟩ := y
  simp only [evS] at w
  exact w.elim⟩
end
end MP
end
section
set_option Elab.async false
set_option linter.all false
set_option maxHeartbeats 1000000
/-! exceptions as values; x[i] = v -/
namespace MP
open PySem L2 PySem.MPX
section
variable {X : Cx} {D : Dat} {N : Nat} {W : WX} {R : CurR} {e a b o : Expr} {m ma mb mo me mk2 : ME} {pos p apos pos2 : Pos} {t : Bool} {es rest : List Expr} {ms : MA} {k f : Nat} {g : Addr}
theorem plen {α β : Type} {F : α → β → Prop} : ∀ {l₁ : List α} {l₂ : List β}, Paired F l₁ l₂ → l₁.length = l₂.length
  | _, _, .nil => rfl
  | _, _, .cons _ t => congrArg (· + 1) (plen t)
/-- the made object is tracked -/
theorem mkx_inv {C f : Nat} {fI : Addr} {qual : Str} {pins : List (Addr × Obj)} {τ : St} {H1 : Hp} {s1 : Shared} {Fr : Hp} {μ1 : List Addr} {h1 : IH} {v v' : V} {u : Value} {Q : VK} {as : Args} (E : EY k X D W) (T : XT X.K qual (D.G.fld f) (D.G.cls C) fI) (hM : f < D.G.M) (he : D.Γ.exf C = some f)
    (I1 : Inv X pins τ H1 s1) (S1 : Sim (D.G.wf Fr) μ1 h1 H1) (rv : RV μ1 v v') (ru : RelV v' u) (has : as = ⟨[u], []⟩ ∨ as = ⟨[], [(D.G.fld f, u)]⟩)
    (w : WP (D.G.wf Fr) W τ RV μ1 (mkxV D.Γ C v h1) Q) : codeAny (model X.prog X.w) X.A (.call (.ref (D.G.cls C)) as) (fun r s' => match r with | .ok (.ret z) => EP X pins τ Q z s' | .ok _ => False | .error e => X.xe e s') s1 := by
  have lim := I1.nolimit
  obtain ⟨hp, gs, dr, t0, os⟩ := s1
  refine x_made T I1.kIn lim (by have := E.rm.dp; omega) has fun h' tk' x d M => ?_
  show EP X pins τ Q (.ref x) ⟨h', gs, dr, tk', os⟩
  obtain ⟨oe, fv, hoe, hcl, hdi, hdat, hn1⟩ := M.obj
  have hns := M.ns
  obtain ⟨G', g1, g2⟩ := restrict h' fun c => decide (c ≠ x)
  have gk : ∀ c, c ≠ x → G'.get? c = h'.get? c := fun c hc => g1 c (decide_eq_true hc)
  have gx : G'.get? x = none := g2 x (by simp)
  have old : ∀ c o, hp.get? c = some o → G'.get? c = some o := fun c o q => (gk c (Nat.ne_of_lt (Nat.lt_of_lt_of_le (Heap.lt_size q) M.new))).trans (M.keep c o q)
  have hd : H1 d = none := I1.hok.fresh M.big
  have hx : H1 x = none := I1.hok.fresh M.new
  have obd : ObjOk X.prog X.w (upd H1 d (.xd [(D.G.fld f, v')])) G' d (.xd [(D.G.fld f, v')]) := ⟨_, hns.at (fun o q => (gk d M.ne).trans q), fun n => relO_v ru n⟩
  have J : Inv X pins τ (upd H1 d (.xd [(D.G.fld f, v')])) ⟨G', gs, dr, tk', os⟩ := I1.laid (t' := tk') old M.big obd
  have hx2 : upd H1 d (.xd [(D.G.fld f, v')]) x = none := by rw [upd_ne (Ne.symm M.ne)]; exact hx
  have back : ∀ c o, G'.get? c = some o → h'.get? c = some o := fun c o q => by
    by_cases hc : c = x
    · rw [hc, gx] at q; cases q
    · exact (gk c hc).symm.trans q
  have J2 : Inv X pins τ (upd (upd H1 d (.xd [(D.G.fld f, v')])) x (ExoO (D.G.cls C) d x)) ⟨h', gs, dr, tk', os⟩ := J.laidN (t' := tk') back gx hx2 (exoO_ok hoe hcl hdi hdat)
  unfold mkxV at w
  rw [he] at w
  have S2 : Sim (D.G.wf Fr) (μ1 ++ [d]) (h1 ++ [.xd f v]) (upd H1 d (.xd [(D.G.fld f, v')])) := S1.alloc hd ⟨hM, v', rv.mono len_pre, upd_same⟩
  have md : (μ1 ++ [d])[h1.length]? = some d := by rw [S1.len, List.getElem?_append_right (Nat.le_refl _)]; simp
  have S3 := S2.alloc (p := x) (u := ExoO (D.G.cls C) d x) (o := .exo C h1.length) hx2 ⟨d, pre_get len_pre md, upd_same⟩
  refine ⟨.ref x, _, J2, rfl, w _ _ _ ((len_pre (μ := μ1) (p := d)).trans len_pre) S3 ⟨x, ?_, rfl⟩⟩
  rw [List.getElem?_append_right (by simp [S1.len])]
  simp [S1.len]
/-- C(v), C an own exception class, as a value -/
theorem se_mkx {C f : Nat} {fI : Addr} {x qual : Str} (E : EY k X D W) (T : XT X.K qual (D.G.fld f) (D.G.cls C) fI) (hM : f < D.G.M) (he : D.Γ.exf C = some f) (hd : (x == ("__debug__" : Str)) = false) (hg : Gl X x) (hm : X.mg x = some (.ref (D.G.cls C))) (ha : SE X D W R a ma false) :
    SE X D W R (.Call (.Name x p) [a] [] pos) (.mkx C ma) t := by
  refine pt_fin ⟨fun pins s τ H Q I y => ?_⟩ E.K (fun Γ c σ h => ⟨_, fun t => rfl⟩) (fun _ => rfl) (by intros; intro z; cases z) rfl
  obtain ⟨Fr, μ, σ, h, cu, rs, S, hc, w⟩ := y
  simp only [evE, bnd_fin] at w
  refine wpAny_Call_Name_kw (ld_glob I hg hm ?_ hd)
  refine PySem.W.callWith_K (h₀ := X.base) I.ok.mod.kin T.kp (PyProof.Rows.args_cons (thn (ha.pe.run pins s τ H _ I ⟨Fr, μ, σ, h, cu, rs, S, hc, WP.bnd (rel := RV) w⟩) fun u s1 hh => PyProof.Rows.args_nil ?_) (star_of ha.ns)) (star_of ha.ns) rfl
  obtain ⟨v', H1, I1, ru, μ1, v, h1, p1, S1, rv, w1⟩ := hh
  refine ⟨I1.kIn, ?_⟩
  show wpAny _ _ (call (.ref (D.G.cls C)) [u]) _ _ _
  refine wpAny_call (codeAny_mono (mkx_inv E T hM he I1 S1 rv ru (.inl rfl) w1) fun r s' z => ?_)
  match r, z with
  | .error e, z => exact z
  | .ok (.ret u), z => exact z
  | .ok .next, z => exact False.elim z
  | .ok .brk, z => exact False.elim z
  | .ok .cont, z => exact False.elim z
/-- C(f = v) -/
theorem se_mkxK {C f : Nat} {fI : Addr} {x y qual : Str} {kp : Pos} (E : EY k X D W) (T : XT X.K qual (D.G.fld f) (D.G.cls C) fI) (hM : f < D.G.M) (he : D.Γ.exf C = some f) (hf : D.G.fld f = y) (hd : (x == ("__debug__" : Str)) = false) (hg : Gl X x) (hm : X.mg x = some (.ref (D.G.cls C))) (ha : SE X D W R a ma false) :
    SE X D W R (.Call (.Name x p) [] [⟨some y, a, kp⟩] pos) (.mkx C ma) t := by
  subst hf
  refine pt_fin ⟨fun pins s τ H Q I y => ?_⟩ E.K (fun Γ c σ h => ⟨_, fun t => rfl⟩) (fun _ => rfl) (by intros; intro z; cases z) rfl
  obtain ⟨Fr, μ, σ, h, cu, rs, S, hc, w⟩ := y
  simp only [evE, bnd_fin] at w
  refine wpAny_Call_Name_kw (ld_glob I hg hm ?_ hd)
  refine PySem.W.callWith_KW0 (h₀ := X.base) I.ok.mod.kin T.kp rfl ?_ rfl
  show wpAny _ _ (evalAll [do let v ← eval a X.env; standAt pos; pure v]) _ _ _
  refine wpAny_mono (Q := fun ks s2 => ∃ u, ks = [u] ∧ EP X pins τ (fun v' H1 => ∃ μ1 v h1, μ <+: μ1 ∧ Sim (D.G.wf Fr) μ1 h1 H1 ∧ RV μ1 v v' ∧ WP (D.G.wf Fr) W τ RV μ1 (mkxV D.Γ C v h1) Q) u s2) ?_ (fun ks s2 z => ?_) fun _ _ e => e
  · exact PyProof.Rows.evalAll_cons (wpAny_bind (wpAny_mono (ha.pe.run pins s τ H _ I ⟨Fr, μ, σ, h, cu, rs, S, hc, WP.bnd (rel := RV) w⟩) (fun u s1 hh => wpAny_bind (wpAny_standAt (wpAny_pure (PyProof.Rows.evalAll_nil ⟨u, rfl, hh⟩)))) fun _ _ e => e))
  · obtain ⟨u, rfl, v', H1, I1, ru, μ1, v, h1, p1, S1, rv, w1⟩ := z
    refine ⟨I1.kIn, ?_⟩
    show wpAny _ _ (call (.ref (D.G.cls C)) [] [(D.G.fld f, u)]) _ _ _
    refine wpAny_call (codeAny_mono (mkx_inv E T hM he I1 S1 rv ru (.inr rfl) w1) fun r s' z => ?_)
    match r, z with
    | .error e, z => exact z
    | .ok (.ret u), z => exact z
    | .ok .next, z => exact False.elim z
    | .ok .brk, z => exact False.elim z
    | .ok .cont, z => exact False.elim z
/-- isinstance(a, c) of an exception object -/
def rIsE (D : Dat) (fn : Nat → Bool) (cV : V) : List V → Hp → VK → Prop := fun xs H Q => ∃ Fr μ h v x b, xs = [x, cV] ∧ Sim (D.G.wf Fr) μ h H ∧ RV μ v x ∧ isEV D.Γ fn v h = some (.val (.bl b) h) ∧ Q (.bl b) H
theorem call_isE2 {cV : V} {cv : Value} {fn : Nat → Bool} (E : EY k X D W) (hcv : ∀ u, RelV cV u → u = cv) (hkit : ∀ C f, D.Γ.exf C = some f → PySem.W.kitOne X.K (.ref (D.G.cls C)) cv = some (fn C)) : CallR X (.builtin "isinstance") (rIsE D fn cV) := by
  intro pins s σ H xs us Q I r z
  obtain ⟨Fr, μ, h, v, x, b, rfl, S, rv, w, q⟩ := z
  obtain ⟨u1, u2, rfl, r1, r2⟩ := vals2 r
  have ec2 := hcv _ r2
  subst ec2
  unfold isEV exOf at w
  split at w
  · rename_i C eC
    split at eC
    · rename_i p0
      split at eC
      · rename_i C' d ho
        split at eC
        · rename_i g y hxd
          split at eC
          · rename_i hs
            cases eC
            obtain rfl : fn C = b := by cases w; rfl
            obtain ⟨f, ef⟩ := Option.isSome_iff_exists.mp hs
            obtain ⟨_, ec, no⟩ := E.dy.xo C f ef
            obtain ⟨ad, had, rfl⟩ := rv
            obtain rfl : u1 = Value.ref ad := r1
            obtain ⟨d', hd', oa⟩ := S.obj _ _ _ ho had
            obtain ⟨_, y', ry, od⟩ := S.obj _ _ _ hxd hd'
            obtain ⟨⟨oe, vs, e1, e2, e3, e4⟩, _, _⟩ := (show ObjOk X.prog X.w H s.heap ad (ExoO (D.G.cls C) d' ad) from I.hok ad _ oa)
            obtain ⟨mA, hns, hr⟩ := (show ObjOk X.prog X.w H s.heap d' (.xd [(D.G.fld g, y')]) from I.hok d' _ od)
            obtain ⟨odd, hodd, hl⟩ := lookIn_ns hns
            have J : PySem.W.InstAt s.heap ad oe (D.G.cls C) (some odd) := ⟨e1, e2, by unfold PySem.W.notCls; rw [e4] <;> rfl, by rw [e3]; exact hodd⟩
            exact PySem.W.kia_one (PySem.W.mp_kit ec) I.kIn ⟨odd, J⟩ (hkit C f ef) (fun z => nomatch z) fun tk => ⟨.bl (fn C), H, I.kept (t' := tk) fun _ _ z => z, rfl, q⟩
          · cases eC
        · cases eC
      · cases eC
    · cases eC
  · cases w
theorem isEV_inv {Γ : Gam} {fn : Nat → Bool} {v : V} {h : IH} : (∃ b, isEV Γ fn v h = some (.val (.bl b) h)) ∨ isEV Γ fn v h = none := by
  unfold isEV
  split
  · exact .inl ⟨_, rfl⟩
  · exact .inr rfl
theorem se_isEg {x y : Str} {cV : V} {cv : Value} {fn : Gam → Nat → Bool} {p2 : Pos} {mm : ME} (E : EY k X D W) (hx : x = "isinstance") (hg : Gl X x) (hm : X.mg x = none) (ha : SE X D W R a ma false)
    (hev : ∀ Γ c t σ h, evE Γ c t mm σ h = bnd (evE Γ c false ma σ h) (isEV Γ (fn Γ))) (hcl : PE X (.Name y p2) (tC cV)) (hcv : ∀ u, RelV cV u → u = cv) (hkit : ∀ C f, D.Γ.exf C = some f → PySem.W.kitOne X.K (.ref (D.G.cls C)) cv = some (fn D.Γ C)) :
    SE X D W R (.Call (.Name x p) [a, .Name y p2] [] pos) mm t := by
  subst hx
  refine pt_fin ((pe_callB (call_isE2 (fn := fn D.Γ) E hcv hkit) hg hm (by decide +kernel) (pa_cons ha.pe (pa_cons hcl pa_nil (star_of rfl)) (star_of ha.ns)) (by decide) (by decide) (star_of ha.ns) (by rw [star_of (e := Expr.Name y p2) rfl]; rfl)).imp fun τ H Q ⟨F, μ, σ, h, c, rs, S, hcu, w⟩ => ?_) E.K
    (fun Γ c σ h => ⟨bnd (evE Γ c false ma σ h) (isEV Γ (fn Γ)), fun t => by
      rw [hev, bnd_assoc]
      congr 1
      funext x h1
      rcases isEV_inv (Γ := Γ) (fn := fn Γ) (v := x) (h := h1) with ⟨b, e⟩ | e
      · rw [e]; cases t <;> rfl
      · rw [e]; rfl⟩) (fun _ => rfl) (by intros; intro z; cases z) rfl
  rw [hev] at w
  refine ⟨F, μ, σ, h, c, rs, S, hcu, WP.imp (WP.bnd (rel := RV) w) fun v' H1 ⟨μ1, v, h1, p1, S1, rv, w1⟩ => ?_⟩
  rcases isEV_inv (Γ := D.Γ) (fn := fn D.Γ) (v := v) (h := h1) with ⟨b, e⟩ | e
  · rw [e] at w1
    exact ⟨F, μ1, h1, v, v', b, rfl, S1, rv, e, w1.val S1 rfl⟩
  · rw [e] at w1
    exact w1.elim
/-- o[i] = e -/
theorem ss_asgS {oe ie : Expr} {mi : ME} {p' : Pos} (hk : X.K = D.G.K) (ho : SE X D W R oe mo false) (hi : SE X D W R ie mi false) (he : SE X D W R e me false)
    (ha : ∀ v, assign (.Subscript oe ie p') X.env v = (do
      let ov ← holding [v] (eval oe X.env)
      let iv ← holding [v, ov] (eval ie X.env)
      standAt p'
      holding [v, ov, iv] (setItem ov iv v)
      release [v, ov, iv] []))
    (hs : swapsWithSole [.Subscript oe ie p'] e pos.line X.env = pure false) (hw : swappedStores [.Subscript oe ie p'] e X.env = pure none) (h1 : (assignEach [.Subscript oe ie p'] X.env).map (·.2) = [assign (.Subscript oe ie p') X.env]) :
    PS X (.Assign [.Subscript oe ie p'] e pos) (tS D N W R (.asgS mo mi me)) :=
  (ps_asg he.pe (pg_sub ho.pe hi.pe set_list ha) hs hw h1).imp fun Dn τ H ⟨F, μ, σ, h, c, rs, S, hc, w⟩ => by
    simp only [evS] at w
    refine ⟨F, μ, σ, h, c, rs, S, hc, WP.imp (WPS.bE (rel := RV) w rs) fun v' H1 ⟨μ1, v, h1, p1, S1, rv, w1⟩ => ?_⟩
    refine ⟨F, μ1, σ, h1, c, rs.mono p1, S1, hc.mono p1, WP.imp (WPS.bE (rel := RV) w1 (rs.mono p1)) fun x' H2 ⟨μ2, x, h2, p2, S2, rx, w2⟩ => ?_⟩
    refine ⟨F, μ2, σ, h2, c, (rs.mono p1).mono p2, S2, (hc.mono p1).mono p2, WP.imp (WPS.bE (rel := RV) w2 ((rs.mono p1).mono p2)) fun i' H3 ⟨μ3, i, h3, p3, S3, ri, w3⟩ => ?_⟩
    unfold setS at w3
    split at w3
    · rename_i q j zz
      obtain ⟨ad, had, rfl⟩ := rx.mono p3
      obtain rfl : i' = .int j := ri
      split at w3
      · rename_i xs hob
        obtain ⟨ys, r, oa⟩ := S3.obj _ _ _ hob had
        split at w3
        · rename_i n en
          refine ⟨ad, ys, j, n, rfl, rfl, oa, by rw [← plen r]; exact en, ?_⟩
          exact w3 μ3 τ _ (List.prefix_refl _) (((rs.mono p1).mono p2).mono p3) (S3.write hob had rfl rfl ⟨_, Paired.setP ((rv.mono p2).mono p3) n r, upd_same⟩) (CurOk.wf.mpr (((hc.mono p1).mono p2).mono p3))
        · exact w3.elim
      · exact w3.elim
    · exact w3.elim
end
section
variable {X : Cx} {D : Dat} {N : Nat} {W : WX} {R : CurR} {L : Lst} {adr : Nat → Addr} {k : Nat} {e a b o : Expr} {m ma mb mo me mi : ME} {pos p p2 p3 apos : Pos} {t : Bool}
theorem z_mkx {C : Nat} {x : Str} (q : EZ k X D W L adr) (hx : (C, x) ∈ L.kl) (he : (D.Γ.exf C).isSome = true) (hd : (x == ("__debug__" : Str)) = false) (hg : Gl X x) (ha : SE X D W R a ma false) : SE X D W R (.Call (.Name x p) [a] [] pos) (.mkx C ma) t := by
  obtain ⟨f, ef⟩ := Option.isSome_iff_exists.mp he
  obtain ⟨h1, qual, fI, T⟩ := q.xt C f ef
  exact se_mkx q.toEY T h1 ef hd hg (q.kf _ hx).1 ha
theorem z_mkxK {C f : Nat} {x y : Str} {kp : Pos} (q : EZ k X D W L adr) (hx : (C, x) ∈ L.kl) (he : D.Γ.exf C = some f) (hf : D.G.fld f = y) (hd : (x == ("__debug__" : Str)) = false) (hg : Gl X x) (ha : SE X D W R a ma false) : SE X D W R (.Call (.Name x p) [] [⟨some y, a, kp⟩] pos) (.mkx C ma) t := by
  obtain ⟨h1, qual, fI, T⟩ := q.xt C f he
  exact se_mkxK q.toEY T h1 he hf hd hg (q.kf _ hx).1 ha
theorem z_isE {x y : Str} {C : Nat} (q : EZ k X D W L adr) (hx : x = "isinstance") (b1 : x ∈ L.bl) (hg : Gl X x) (ha : SE X D W R a ma false) (hy : (C, y) ∈ L.kl) (hC : D.Γ.clsAt C = none) (hg2 : Gl X y) (hd : (y == ("__debug__" : Str)) = false) :
    SE X D W R (.Call (.Name x p) [a, .Name y p2] [] pos) (.isE ma C) t :=
  se_isEg (fn := fun Γ C' => Γ.sub C' C) (cv := .ref (D.G.cls C)) (cV := .ref (D.G.cls C)) q.toEY hx hg (q.bf _ b1) ha (fun _ _ t _ _ => by simp only [evE]; first | done | (cases t <;> rfl)) (pe_glob hg2 (q.kf _ hy).1 rfl hd) (fun u r => r) (fun C' f e => (q.xk _ hy C' f e).resolve_right fun z => z hC)
theorem z_isX {x y : Str} {B : Nat} {T : String} (q : EZ k X D W L adr) (hx : x = "isinstance") (b1 : x ∈ L.bl) (hg : Gl X x) (ha : SE X D W R a ma false) (b2 : y ∈ L.bl) (hb : bootBuiltins y = some (.type T)) (ok2 : okName y = true) (hg2 : Gl X y) (hk : (B, T) ∈ L.xl) :
    SE X D W R (.Call (.Name x p) [a, .Name y p2] [] pos) (.isX ma B) t := by
  obtain ⟨o1, _, o3⟩ := okName_ok ok2
  exact se_isEg (fn := fun Γ C' => Γ.subB C' B) (cv := .type T) (cV := .ty T) q.toEY hx hg (q.bf _ b1) ha (fun _ _ t _ _ => by simp only [evE]; first | done | (cases t <;> rfl)) (pe_bltn hg2 (q.bf _ b2) hb (v := .ty _) rfl o3 o1) (fun u r => r) (q.xb _ hk)
theorem z_asgS {oe ie : Expr} {p' : Pos} (q : EZ k X D W L adr) (ho : SE X D W R oe mo false) (hi : SE X D W R ie mi false) (he : SE X D W R e me false)
    (ha : ∀ v, assign (.Subscript oe ie p') X.env v = (do
      let ov ← holding [v] (eval oe X.env)
      let iv ← holding [v, ov] (eval ie X.env)
      standAt p'
      holding [v, ov, iv] (setItem ov iv v)
      release [v, ov, iv] []))
    (hs : swapsWithSole [.Subscript oe ie p'] e pos.line X.env = pure false) (hw : swappedStores [.Subscript oe ie p'] e X.env = pure none) (h1 : (assignEach [.Subscript oe ie p'] X.env).map (·.2) = [assign (.Subscript oe ie p') X.env]) :
    PS X (.Assign [.Subscript oe ie p'] e pos) (tS D N W R (.asgS mo mi me)) := ss_asgS q.K ho hi he ha hs hw h1
end
end MP
end
section
set_option Elab.async false
set_option linter.all false
set_option maxRecDepth 20000
namespace K63
open PySem L2 MP MQ
/-- InvalidStatement.__init__: self value -/
def f0 : FD := ⟨2, 2, (.cons (.asgA (.var 0) 0 (.var 1))
      .nil)⟩
/-- InvalidExpression.__init__: self value -/
def f1 : FD := ⟨2, 2, (.cons (.asgA (.var 0) 0 (.var 1))
      .nil)⟩
/-- InvalidSource.__init__: self value -/
def f2 : FD := ⟨2, 2, (.cons (.asgA (.var 0) 0 (.var 1))
      .nil)⟩
/-- InvalidLine.__init__: self value -/
def f3 : FD := ⟨2, 2, (.cons (.asgA (.var 0) 0 (.var 1))
      .nil)⟩
/-- InvalidRule.__init__: self place -/
def f4 : FD := ⟨2, 2, (.cons (.asgA (.var 0) 1 (.var 1))
      .nil)⟩
/-- InvalidDeed.__init__: self value -/
def f5 : FD := ⟨2, 2, (.cons (.asgA (.var 0) 0 (.var 1))
      .nil)⟩
/-- InvalidFacts.__init__: self value -/
def f6 : FD := ⟨2, 2, (.cons (.asgA (.var 0) 0 (.var 1))
      .nil)⟩
/-- InvalidText.__init__: self place -/
def f7 : FD := ⟨2, 2, (.cons (.asgA (.var 0) 1 (.var 1))
      .nil)⟩
/-- InvalidCommand.__init__: self word -/
def f8 : FD := ⟨2, 2, (.cons (.asgA (.var 0) 2 (.var 1))
      .nil)⟩
/-- InvalidNumber.__init__: self value -/
def f9 : FD := ⟨2, 2, (.cons (.asgA (.var 0) 0 (.var 1))
      .nil)⟩
/-- LimitExceeded.__init__: self limit -/
def f10 : FD := ⟨2, 2, (.cons (.asgA (.var 0) 3 (.var 1))
      .nil)⟩
/-- UnknownName.__init__: self name -/
def f11 : FD := ⟨2, 2, (.cons (.asgA (.var 0) 4 (.var 1))
      .nil)⟩
/-- CircularName.__init__: self name -/
def f12 : FD := ⟨2, 2, (.cons (.asgA (.var 0) 4 (.var 1))
      .nil)⟩
/-- NoWay.__init__: self value -/
def f13 : FD := ⟨2, 2, (.cons (.asgA (.var 0) 0 (.var 1))
      .nil)⟩
/-- Clash.__init__: self identity -/
def f14 : FD := ⟨2, 2, (.cons (.asgA (.var 0) 5 (.var 1))
      .nil)⟩
/-- _law_numbers: _law_cell _law_salt _law_sizes _law_number _law_left _law_result _law_k _law_one -/
def f15 : FD := ⟨3, 8, (.cons (.asg (.nm 3) (.bi .max2 (.cons (.var 0) (.cons (.bin .Sub (.neg (.cst (.int 1))) (.var 0)) .nil))))
      (.cons (.asg (.nm 4) (.var 3))
      (.cons (.asg (.nm 5) (.lst .nil))
      (.cons (.forS (.nm 6) (.rng1 (.bi .len (.cons (.var 2) .nil))) (.cons (.ifS (.andE (.cmp .GtE (.var 3) (.bin .Pow (.cst (.int 10)) (.cst (.int 18)))) (.cmp .Gt (.var 4) (.cst (.int 0)))) (.cons (.ex (.bm .append (.var 5) (.cons (.bin .Mod (.var 4) (.ix (.var 2) (.var 6))) .nil)))
      (.cons (.asg (.nm 4) (.bin .FloorDiv (.var 4) (.ix (.var 2) (.var 6))))
      .nil)) (.cons (.asg (.nm 7) (.bin .Mod (.bin .Pow (.bin .Add (.bin .Add (.bin .Mod (.var 3) (.cst (.int 2147483629))) (.bin .Mult (.cst (.int 7919)) (.var 1))) (.cst (.int 1))) (.cst (.int 3))) (.cst (.int 2147483647))))
      (.cons (.asg (.nm 7) (.bin .Mod (.bin .Mult (.bin .Add (.var 7) (.bin .Mult (.cst (.int 104729)) (.bin .Add (.var 6) (.cst (.int 1))))) (.bin .Add (.var 6) (.cst (.int 3)))) (.cst (.int 2147483629))))
      (.cons (.asg (.nm 7) (.bin .Mod (.bin .Mult (.bin .Mod (.bin .Pow (.var 7) (.cst (.int 5))) (.cst (.int 2147483647))) (.cst (.int 48271))) (.cst (.int 2147483629))))
      (.cons (.ex (.bm .append (.var 5) (.cons (.bin .Mod (.bin .FloorDiv (.var 7) (.cst (.int 16))) (.ix (.var 2) (.var 6))) .nil)))
      .nil)))))
      .nil))
      (.cons (.ret (.var 5))
      .nil)))))⟩
/-- _law_draw: _law_state _law_many _law_at -/
def f16 : FD := ⟨2, 3, (.cons (.asg (.nm 2) (.ix (.var 0) (.cst (.int 1))))
      (.cons (.asgS (.var 0) (.cst (.int 1)) (.bin .Add (.var 2) (.cst (.int 1))))
      (.cons (.ret (.ife (.cmp .Lt (.var 2) (.bi .len (.cons (.ix (.var 0) (.cst (.int 0))) .nil))) (.bin .Mod (.ix (.ix (.var 0) (.cst (.int 0))) (.var 2)) (.var 1)) (.cst (.int 0))))
      .nil)))⟩
/-- _law_kinds: _law_e _law_some -/
def f17 : FD := ⟨1, 2, (.cons (.asg (.nm 1) (.lst (.cons (.isE (.var 0) 1) (.cons (.isE (.var 0) 2) (.cons (.isE (.var 0) 3) .nil)))))
      (.cons (.asg (.nm 1) (.bin .Add (.var 1) (.lst (.cons (.isE (.var 0) 4) (.cons (.isE (.var 0) 5) (.cons (.isE (.var 0) 6) .nil))))))
      (.cons (.asg (.nm 1) (.bin .Add (.var 1) (.lst (.cons (.isE (.var 0) 7) (.cons (.isE (.var 0) 8) (.cons (.isE (.var 0) 9) .nil))))))
      (.cons (.asg (.nm 1) (.bin .Add (.var 1) (.lst (.cons (.isE (.var 0) 10) (.cons (.isE (.var 0) 11) (.cons (.isE (.var 0) 12) .nil))))))
      (.cons (.ret (.bin .Add (.var 1) (.lst (.cons (.isE (.var 0) 13) (.cons (.isE (.var 0) 14) (.cons (.isE (.var 0) 15) .nil))))))
      .nil)))))⟩
/-- _law_bases: _law_e _law_some -/
def f18 : FD := ⟨1, 2, (.cons (.asg (.nm 1) (.lst (.cons (.isE (.var 0) 0) (.cons (.isX (.var 0) 0) (.cons (.isX (.var 0) 1) .nil)))))
      (.cons (.ret (.bin .Add (.var 1) (.lst (.cons (.isX (.var 0) 2) (.cons (.isX (.var 0) 3) .nil)))))
      .nil))⟩
/-- _law_made: _law_one _law_some -/
def f19 : FD := ⟨1, 2, (.cons (.asg (.nm 1) (.lst (.cons (.mkx 1 (.var 0)) (.cons (.mkx 2 (.var 0)) (.cons (.mkx 3 (.var 0)) (.cons (.mkx 4 (.var 0)) (.cons (.mkx 5 (.var 0)) .nil)))))))
      (.cons (.asg (.nm 1) (.bin .Add (.var 1) (.lst (.cons (.mkx 6 (.var 0)) (.cons (.mkx 7 (.var 0)) (.cons (.mkx 8 (.var 0)) (.cons (.mkx 9 (.var 0)) (.cons (.mkx 10 (.var 0)) .nil))))))))
      (.cons (.ret (.bin .Add (.var 1) (.lst (.cons (.mkx 11 (.var 0)) (.cons (.mkx 12 (.var 0)) (.cons (.mkx 13 (.var 0)) (.cons (.mkx 14 (.var 0)) (.cons (.mkx 15 (.var 0)) .nil))))))))
      .nil)))⟩
/-- _law_named: _law_one _law_some -/
def f20 : FD := ⟨1, 2, (.cons (.asg (.nm 1) (.lst (.cons (.mkx 1 (.var 0)) (.cons (.mkx 2 (.var 0)) (.cons (.mkx 3 (.var 0)) (.cons (.mkx 4 (.var 0)) .nil))))))
      (.cons (.asg (.nm 1) (.bin .Add (.var 1) (.lst (.cons (.mkx 5 (.var 0)) (.cons (.mkx 6 (.var 0)) (.cons (.mkx 7 (.var 0)) (.cons (.mkx 8 (.var 0)) .nil)))))))
      (.cons (.asg (.nm 1) (.bin .Add (.var 1) (.lst (.cons (.mkx 9 (.var 0)) (.cons (.mkx 10 (.var 0)) (.cons (.mkx 11 (.var 0)) (.cons (.mkx 12 (.var 0)) .nil)))))))
      (.cons (.ret (.bin .Add (.var 1) (.lst (.cons (.mkx 13 (.var 0)) (.cons (.mkx 14 (.var 0)) (.cons (.mkx 15 (.var 0)) .nil))))))
      .nil))))⟩
/-- _law_fields: _law_some _law_shown -/
def f21 : FD := ⟨1, 2, (.cons (.asg (.nm 1) (.lst (.cons (.att (.ix (.var 0) (.cst (.int 0))) 0) (.cons (.att (.ix (.var 0) (.cst (.int 1))) 0) (.cons (.att (.ix (.var 0) (.cst (.int 2))) 0) (.cons (.att (.ix (.var 0) (.cst (.int 3))) 0) (.cons (.att (.ix (.var 0) (.cst (.int 4))) 1) (.cons (.att (.ix (.var 0) (.cst (.int 5))) 0) (.cons (.att (.ix (.var 0) (.cst (.int 6))) 0) .nil)))))))))
      (.cons (.asg (.nm 1) (.bin .Add (.var 1) (.lst (.cons (.att (.ix (.var 0) (.cst (.int 7))) 1) (.cons (.att (.ix (.var 0) (.cst (.int 8))) 2) (.cons (.att (.ix (.var 0) (.cst (.int 9))) 0) (.cons (.att (.ix (.var 0) (.cst (.int 10))) 3) (.cons (.att (.ix (.var 0) (.cst (.int 11))) 4) (.cons (.att (.ix (.var 0) (.cst (.int 12))) 4) .nil)))))))))
      (.cons (.ret (.bin .Add (.var 1) (.lst (.cons (.att (.ix (.var 0) (.cst (.int 13))) 0) (.cons (.att (.ix (.var 0) (.cst (.int 14))) 5) .nil)))))
      .nil)))⟩
/-- _law_raised: _law_one _law_e -/
def f22 : FD := ⟨1, 2, (.cons (.tryS (.cons (.rais 8 (.var 0))
      .nil) (.cons 0 (some 1) (.cons (.ret (.bi .repr (.cons (.curF 1) .nil)))
      .nil) .nil))
      .nil)⟩
/-- law: _law_script _law_k _law_cell _law_state _law_one _law_some _law_at _law_error _law_field _law_other -/
def f23 : FD := ⟨1, 10, (.cons (.forS (.tup (.cons (.nm 1) (.cons (.nm 2) .nil))) (.enum (.bin .Add (.sl (.var 0) .none (.some (.cst (.int 6)))) (.bin .Mult (.lst (.cons (.cst (.int 7)) .nil)) (.bi .int (.cons (.cmp .Eq (.var 0) (.lst .nil)) .nil))))) (.cons (.asg (.nm 3) (.lst (.cons (.call 15 (.cons (.var 2) (.cons (.bin .Add (.cst (.int 6300)) (.var 1)) (.cons (.bin .Mult (.lst (.cons (.cst (.int 420)) .nil)) (.cst (.int 3))) .nil)))) (.cons (.cst (.int 0)) .nil))))
      (.cons (.asg (.nm 4) (.ix (.lst (.cons (.cst .non) (.cons (.bin .Pow (.call 16 (.cons (.var 3) (.cons (.cst (.int 420)) .nil))) (.cst (.int 20))) (.cons (.cst (.str "a")) (.cons (.tup (.cons (.cst (.str "a")) (.cons (.cst (.int 1)) .nil))) (.cons (.lst (.cons (.cst (.int 1)) .nil)) (.cons (.neg (.cst (.int 1))) (.cons (.cst (.str "")) (.cons (.cst (.bl true)) .nil))))))))) (.call 16 (.cons (.var 3) (.cons (.cst (.int 8)) .nil)))))
      (.cons (.asg (.nm 5) (.call 19 (.cons (.var 4) .nil)))
      (.cons (.forS (.tup (.cons (.nm 6) (.cons (.nm 7) .nil))) (.enum (.var 5)) (.cons (.ifS (.cmp .NotEq (.call 17 (.cons (.var 7) .nil)) (.lc [9] (.cmp .Eq (.var 6) (.var 9)) (.nm 9) (.rng1 (.cst (.int 15))) .none)) (.cons (.ret (.cst (.bl false)))
      .nil) .nil)
      (.cons (.ifS (.cmp .NotEq (.call 18 (.cons (.var 7) .nil)) (.lst (.cons (.cmp .Lt (.var 6) (.cst (.int 9))) (.cons (.cmp .Eq (.var 6) (.cst (.int 9))) (.cons (.cmp .Eq (.var 6) (.cst (.int 10))) (.cons (.cmp .Eq (.var 6) (.cst (.int 11))) (.cons (.cmp .Gt (.var 6) (.cst (.int 11))) .nil))))))) (.cons (.ret (.cst (.bl false)))
      .nil) .nil)
      .nil)))
      (.cons (.ifS (.cmp .NotEq (.lc [8] (.bi .repr (.cons (.var 8) .nil)) (.nm 8) (.ev (.bin .Add (.call 21 (.cons (.var 5) .nil)) (.call 21 (.cons (.call 20 (.cons (.var 4) .nil)) .nil)))) .none) (.bin .Mult (.lst (.cons (.bi .repr (.cons (.var 4) .nil)) .nil)) (.cst (.int 30)))) (.cons (.ret (.cst (.bl false)))
      .nil) .nil)
      (.cons (.ifS (.cmp .NotEq (.call 22 (.cons (.var 4) .nil)) (.bi .repr (.cons (.var 4) .nil))) (.cons (.ret (.cst (.bl false)))
      .nil) .nil)
      .nil)))))))
      (.cons (.ret (.cst (.bl true)))
      .nil))⟩
def T : Nat → Option FD
  | 0 => some f0
  | 1 => some f1
  | 2 => some f2
  | 3 => some f3
  | 4 => some f4
  | 5 => some f5
  | 6 => some f6
  | 7 => some f7
  | 8 => some f8
  | 9 => some f9
  | 10 => some f10
  | 11 => some f11
  | 12 => some f12
  | 13 => some f13
  | 14 => some f14
  | 15 => some f15
  | 16 => some f16
  | 17 => some f17
  | 18 => some f18
  | 19 => some f19
  | 20 => some f20
  | 21 => some f21
  | 22 => some f22
  | 23 => some f23
  | _ => none
def exfI : Nat → Option Nat := fun C => [none, some 0, some 0, some 0, some 0, some 1, some 0, some 0, some 1, some 2, some 0, some 3, some 4, some 4, some 0, some 5].getD C none
def Γ0 : Gam where
  call := fun _ _ _ => none
  glob := fun _ => none
  init := fun _ => none
  meth := fun _ _ => none
  prop := fun _ _ => none
  con := fun _ _ => none
  cmeth := fun _ _ => none
  callm := fun _ => none
  exf := exfI
  sub := fun C D => C == D || (D == 0 && decide (C < 10))
  clsAt := fun _ => none
  isF := fun _ _ => false
  subB := fun C b => match b with | 0 => C == 10 | 1 => C == 11 | 2 => C == 12 | 3 => decide (12 < C) && decide (C < 16) | _ => false
def h0 : IH := []
def gl : Nat → Option D := fun _ => none
def io : Nat → Bool := fun f => f == 16
abbrev P (k f : Nat) (ds : List D) : Option PC := callP (PGof io gl Γ0) io T 0 k f ds
def isT : Option PC → Bool
  | some (.val (.bl true) _) => true
  | _ => false
end K63
end
section
set_option Elab.async false
set_option linter.all false
set_option maxRecDepth 100000
set_option maxHeartbeats 4000000
namespace K63
open PySem L2 MP
def top (i : Nat) : Stmt := PySem.Challenge.pw_truthrings_k63_error_classes.main.body.getD i (.Pass ⟨0, 0, 0, 0⟩)
def fldN : Nat → Str
  | 0 => "value" | 1 => "place" | 2 => "word" | 3 => "limit" | 4 => "name" | 5 => "identity" | _ => ""
theorem fok : ∀ i j, i < 6 → j < 6 → fldN i = fldN j → i = j := by
  have h : ∀ i : Fin 6, ∀ j : Fin 6, fldN i.val = fldN j.val → i = j := by decide +kernel
  exact fun i j hi hj e => congrArg Fin.val (h ⟨i, hi⟩ ⟨j, hj⟩ e)
def GG (Kf : PySem.W.Frag) (cls : Nat → Addr) (pre : List Addr) : Stat := ⟨Kf, fun _ => none, cls, fldN, 6, fok, pre, fun _ => none⟩
def LL : Lst := ⟨[(15, "_law_numbers"), (16, "_law_draw"), (17, "_law_kinds"), (18, "_law_bases"), (19, "_law_made"), (20, "_law_named"), (21, "_law_fields"), (22, "_law_raised"), (23, "law")], [(0, "RingError"), (1, "InvalidStatement"), (2, "InvalidExpression"), (3, "InvalidSource"), (4, "InvalidLine"), (5, "InvalidRule"), (6, "InvalidDeed"), (7, "InvalidFacts"), (8, "InvalidText"), (9, "InvalidCommand"), (10, "InvalidNumber"), (11, "LimitExceeded"), (12, "UnknownName"), (13, "CircularName"), (14, "NoWay"), (15, "Clash")], [], ["len", "max", "int", "repr", "isinstance", "range", "enumerate", "ValueError", "OverflowError", "KeyError", "RuntimeError"], [(0, "ValueError"), (1, "OverflowError"), (2, "KeyError"), (3, "RuntimeError")]⟩
def nm0 : Nms := ⟨fun _ => "", fun _ => "", fun _ => "", fun _ => ""⟩
abbrev s15 : Stmt := top 18
abbrev n15 : List Str := ["_law_cell", "_law_salt", "_law_sizes", "_law_number", "_law_left", "_law_result", "_law_k", "_law_one"]
abbrev p15 : List Str := ["_law_cell", "_law_salt", "_law_sizes"]
theorem sc15 : FnScope n15 p15 (defScope s15) := ⟨rfl, rfl, rfl, by decide +kernel, rfl, by decide +kernel, by decide +kernel⟩
abbrev s16 : Stmt := top 19
abbrev n16 : List Str := ["_law_state", "_law_many", "_law_at"]
abbrev p16 : List Str := ["_law_state", "_law_many"]
theorem sc16 : FnScope n16 p16 (defScope s16) := ⟨rfl, rfl, rfl, by decide +kernel, rfl, by decide +kernel, by decide +kernel⟩
abbrev s17 : Stmt := top 20
abbrev n17 : List Str := ["_law_e", "_law_some"]
abbrev p17 : List Str := ["_law_e"]
theorem sc17 : FnScope n17 p17 (defScope s17) := ⟨rfl, rfl, rfl, by decide +kernel, rfl, by decide +kernel, by decide +kernel⟩
abbrev s18 : Stmt := top 21
abbrev n18 : List Str := ["_law_e", "_law_some"]
abbrev p18 : List Str := ["_law_e"]
theorem sc18 : FnScope n18 p18 (defScope s18) := ⟨rfl, rfl, rfl, by decide +kernel, rfl, by decide +kernel, by decide +kernel⟩
abbrev s19 : Stmt := top 22
abbrev n19 : List Str := ["_law_one", "_law_some"]
abbrev p19 : List Str := ["_law_one"]
theorem sc19 : FnScope n19 p19 (defScope s19) := ⟨rfl, rfl, rfl, by decide +kernel, rfl, by decide +kernel, by decide +kernel⟩
abbrev s20 : Stmt := top 23
abbrev n20 : List Str := ["_law_one", "_law_some"]
abbrev p20 : List Str := ["_law_one"]
theorem sc20 : FnScope n20 p20 (defScope s20) := ⟨rfl, rfl, rfl, by decide +kernel, rfl, by decide +kernel, by decide +kernel⟩
abbrev s21 : Stmt := top 24
abbrev n21 : List Str := ["_law_some", "_law_shown"]
abbrev p21 : List Str := ["_law_some"]
theorem sc21 : FnScope n21 p21 (defScope s21) := ⟨rfl, rfl, rfl, by decide +kernel, rfl, by decide +kernel, by decide +kernel⟩
abbrev s22 : Stmt := top 25
abbrev n22 : List Str := ["_law_one", "_law_e"]
abbrev p22 : List Str := ["_law_one"]
theorem sc22 : FnScope n22 p22 (defScope s22) := ⟨rfl, rfl, rfl, by decide +kernel, rfl, by decide +kernel, by decide +kernel⟩
abbrev s23 : Stmt := top 26
abbrev n23 : List Str := ["_law_script", "_law_k", "_law_cell", "_law_state", "_law_one", "_law_some", "_law_at", "_law_error", "_law_field", "_law_other"]
abbrev p23 : List Str := ["_law_script"]
theorem sc23 : FnScope n23 p23 (defScope s23) := ⟨rfl, rfl, rfl, by decide +kernel, rfl, by decide +kernel, by decide +kernel⟩
end K63
end
section
set_option Elab.async false
set_option linter.all false
set_option maxRecDepth 100000
set_option maxHeartbeats 2000000
namespace K63
open PySem L2 MP
theorem b15 {P : Program} {w : World} {Kf : PySem.W.Frag} {mg : Str → Option Value} {base : Heap} {cls : Nat → Addr} {pre : List Addr} {adr : Nat → Addr} {k : Nat} {a : Addr} {cdv : Value} {A : Around} {outer : List Env} {s : Shared} {H : Hp} {E : XK}
    (q : EZ k (cxOf (L2.CX P w) P w Kf mg base n15 "_law_numbers" (defScope s15) a cdv A outer s H E) (dk (GG Kf cls pre) Γ0 nm0 T 0 k) (fun c d _ H' => E c d H') LL adr) :
    PSs (cxOf (L2.CX P w) P w Kf mg base n15 "_law_numbers" (defScope s15) a cdv A outer s H E) (defBody s15) (tB (dk (GG Kf cls pre) Γ0 nm0 T 0 k) 0 (fun c d _ H' => E c d H') none f15.body) := by
  repeat' (first
  | exact sb_nil | refine sb_cons ?_ ?_
  | exact sa_nil | refine sa_cons ?_ ?_
  | exact z_var (by (first | assumption | exact EZ.sx (by assumption))) (by rfl) (by (first | exact Or.inl rfl | exact Or.inr (Or.inl rfl) | exact Or.inr (Or.inr rfl))) (by decide +kernel)
  | exact z_int (by (first | assumption | exact EZ.sx (by assumption))) | exact z_str (by (first | assumption | exact EZ.sx (by assumption))) | exact z_bl (by (first | assumption | exact EZ.sx (by assumption))) | exact z_non (by (first | assumption | exact EZ.sx (by assumption)))
  | refine z_bin (by (first | assumption | exact EZ.sx (by assumption))) ?_ ?_
  | refine z_neg (by (first | assumption | exact EZ.sx (by assumption))) ?_
  | refine z_cmp (by (first | assumption | exact EZ.sx (by assumption))) ?_ ?_ (by rfl)
  | refine z_cmp2 (by (first | assumption | exact EZ.sx (by assumption))) ?_ ?_ ?_ (by rfl)
  | refine se_and ?_ ?_ | refine se_or ?_ ?_ | refine se_not ?_ | refine se_one ?_
  | refine SE.val (t := true) (se_and ?_ ?_)
  | refine se_ife ?_ ?_ ?_
  | refine se_lst (ES'.toEX (by (first | assumption | exact EZ.sx (by assumption)))) ?_ | refine se_tup (ES'.toEX (by (first | assumption | exact EZ.sx (by assumption)))) ?_
  | refine se_ix (ES'.toEX (by (first | assumption | exact EZ.sx (by assumption)))) ?_ ?_ (by intro _ _; rfl)
  | refine se_sl (ES'.toEX (by (first | assumption | exact EZ.sx (by assumption)))) ?_ ?_ ?_ | exact so_none | refine so_some ?_
  | refine z_curF (by (first | assumption | exact EZ.sx (by assumption))) (by assumption) (by assumption) (by rfl) (by (first | exact Or.inl rfl | exact Or.inr (Or.inl rfl) | exact Or.inr (Or.inr rfl))) (by decide +kernel) (by rfl) (by rfl)
  | refine z_curI (by (first | assumption | exact EZ.sx (by assumption))) (by assumption) (by assumption) (by rfl) (by (first | exact Or.inl rfl | exact Or.inr (Or.inl rfl) | exact Or.inr (Or.inr rfl))) (by decide +kernel) (by rfl) (by decide +kernel) (by rfl) (by decide +kernel) (by rfl) (by rfl) (by decide +kernel)
  | refine z_curB (by (first | assumption | exact EZ.sx (by assumption))) (by assumption) (by assumption) (by rfl) (by (first | exact Or.inl rfl | exact Or.inr (Or.inl rfl) | exact Or.inr (Or.inr rfl))) (by decide +kernel) (by rfl) (by decide +kernel) (by rfl) (by decide +kernel) (by (first | rfl | decide +kernel)) (by decide +kernel) (by rfl) (by decide +kernel)
  | refine z_glb (by (first | assumption | exact EZ.sx (by assumption))) (by decide +kernel) (by rfl) (by decide +kernel)
  | refine z_call (by (first | assumption | exact EZ.blk (by assumption))) (by decide +kernel) (by decide +kernel) (by rfl) ?_
  | refine z_mkxK (by (first | assumption | exact EZ.blk (by assumption))) (by decide +kernel) (by rfl) (by rfl) (by decide +kernel) (by rfl) ?_
  | refine z_mkx (by (first | assumption | exact EZ.blk (by assumption))) (by decide +kernel) (by rfl) (by decide +kernel) (by rfl) ?_
  | refine z_isE (by (first | assumption | exact EZ.blk (by assumption))) (by rfl) (by decide +kernel) (by rfl) ?_ (by decide +kernel) (by rfl) (by rfl) (by decide +kernel)
  | refine z_isX (by (first | assumption | exact EZ.blk (by assumption))) (by rfl) (by decide +kernel) (by rfl) ?_ (by decide +kernel) (by (first | rfl | decide +kernel)) (by decide +kernel) (by rfl) (by decide +kernel)
  | refine z_make (by (first | assumption | exact EZ.blk (by assumption))) (by decide +kernel) (by decide +kernel) (by rfl) ?_
  | refine z_lenSet (by (first | assumption | exact EZ.sx (by assumption))) (by rfl) (by rfl) (by rfl) (by decide +kernel) (by decide +kernel) (by rfl) (by rfl) ?_
  | refine z_biB (by (first | assumption | exact EZ.sx (by assumption))) (by (first | exact Or.inl rfl | exact Or.inr rfl)) (by decide) (by rfl) (by decide +kernel) (by rfl) (by (first | rfl | decide +kernel)) (by decide +kernel) ?_
  | refine z_biT (by (first | assumption | exact EZ.sx (by assumption))) (by (first | exact Or.inl rfl | exact Or.inr rfl)) (by decide) (by rfl) (by decide +kernel) (by rfl) (by (first | rfl | decide +kernel)) (by decide +kernel) ?_
  | refine z_isI (by (first | assumption | exact EZ.sx (by assumption))) (by rfl) (by decide +kernel) (by rfl) ?_ (by rfl) (by decide +kernel) (by (first | rfl | decide +kernel)) (by decide +kernel)
  | refine z_isI2 (by (first | assumption | exact EZ.sx (by assumption))) (by rfl) (by decide +kernel) (by rfl) ?_ (by rfl) (by decide +kernel) (by (first | rfl | decide +kernel)) (by decide +kernel) (by rfl) (by decide +kernel) (by (first | rfl | decide +kernel)) (by decide +kernel)
  | refine z_callv (by (first | assumption | exact EZ.blk (by assumption))) (by rfl) (by (first | exact Or.inl rfl | exact Or.inr (Or.inl rfl) | exact Or.inr (Or.inr rfl))) (by decide +kernel) ?_
  | refine z_clm (by (first | assumption | exact EZ.blk (by assumption))) (by decide +kernel) (by decide +kernel) (by rfl) (by rfl) ?_ (by rfl)
  | refine se_join (by rfl) (ES'.toEX (by (first | assumption | exact EZ.sx (by assumption)))) ?_ ?_ (by rfl) (by rfl) (by rfl)
  | refine se_count (by rfl) (ES'.toEX (by (first | assumption | exact EZ.sx (by assumption)))) ?_ ?_ (by rfl) (by rfl) (by rfl)
  | refine se_append (by rfl) (ES'.toEX (by (first | assumption | exact EZ.sx (by assumption)))) ?_ ?_ (by rfl) (by rfl) (by rfl)
  | refine se_index (by rfl) (ES'.toEX (by (first | assumption | exact EZ.sx (by assumption)))) ?_ ?_ (by rfl) (by rfl) (by rfl)
  | refine se_att (EZ.toEY (by (first | assumption | exact EZ.blk (by assumption)))) (by rfl) ?_ (by rfl)
  | exact se_dct0 (ES'.toEX (by (first | assumption | exact EZ.sx (by assumption))))
  | exact se_dct (ES'.toEX (by (first | assumption | exact EZ.sx (by assumption)))) (.cons pe_int pe_int (by intro a z; cases z) .nil) (by rfl) (by rfl) (by intro z; cases z) (by decide) (by decide)
  | refine z_lc (by (first | assumption | exact EZ.blk (by assumption))) ?_ (by rfl) (fun s H C cl fp q => ?_) (fun s H C cl fp q => ?_) (fun s H C cl fp q => ?_) (by intro _; rfl) (by (intro j hj; simpa [slT, slTs] using hj))
  | exact sc_none | refine sc_one ?_
  | exact z_sgn (EZ.nd (by (first | assumption | exact EZ.blk (by assumption)))) (by rfl) (by (first | exact Or.inl rfl | exact Or.inr rfl)) (by (first | exact Or.inl rfl | exact Or.inr rfl))
  | refine z_sgt (EX.K (EY.toEX (EZ.toEY (by (first | assumption | exact EZ.blk (by assumption)))))) (EY.cm (EZ.toEY (by (first | assumption | exact EZ.blk (by assumption))))) ?_ (by rfl) (by rfl)
  | exact z_sgs0 | refine z_sgs ?_ ?_ (by rfl)
  | refine z_rng1 (by (first | assumption | exact EZ.sx (by assumption))) (by rfl) (by decide +kernel) (by rfl) ?_
  | refine z_enum (by (first | assumption | exact EZ.sx (by assumption))) (by rfl) (by decide +kernel) (by rfl) ?_
  | refine si_ev (EX.K (ES'.toEX (by (first | assumption | exact EZ.sx (by assumption))))) ?_
  | refine ss_ret ?_ | exact ss_retN
  | refine ss_if ?_ ?_ ?_
  | refine z_asg (by (first | assumption | exact EZ.sx (by assumption))) (by rfl) (by (first | exact Or.inl rfl | exact Or.inr rfl)) (by (first | exact Or.inl rfl | exact Or.inr rfl)) ?_ (by rfl) (by (first | (intro _ _ _ _ z; cases z; done) | (intro _ _ _ _ z; cases z; simp [slT, slTs])))
  | refine z_par (by (first | assumption | exact EZ.blk (by assumption))) (by rfl) (by rfl) (by decide) (by rfl) (by rfl) ?_ (by rfl) (by rfl) (by (first | (intro _ _ _ _ z; cases z; done) | (intro _ _ _ _ z; cases z; simp [slT, slTs])))
  | refine z_asgS (by (first | assumption | exact EZ.blk (by assumption))) ?_ ?_ ?_ (by intro _; rfl) (by rfl) (by rfl) (by rfl)
  | refine z_fld (by (first | assumption | exact EZ.blk (by assumption))) (by rfl) ?_ ?_ (by rfl)
  | refine ss_expr ?_ (by rfl)
  | refine z_for (by (first | assumption | exact EZ.blk (by assumption))) (by first | assumption | exact passes_of rfl) ?_ ?_ ?_ (by intro _; rfl) (by (first | (intro _ _ _ _ z; cases z; done) | (intro _ _ _ _ z; cases z; simp [slT, slTs])))
  | refine z_raise (by (first | assumption | exact EZ.blk (by assumption))) (by decide +kernel) (by rfl) (by decide +kernel) (by rfl) ?_
  | refine z_try (by (first | assumption | exact EZ.blk (by assumption))) (by rfl) (by rfl) (by rfl) (by rfl) (by decide +kernel) (by rfl) (by decide +kernel) (by rfl) (fun W' pn xe q hp => ?_) (fun a oe cls d pn hz hf q => ?_)
  | exact ss_pass | exact ss_brk | exact ss_cnt)
end K63
end
section
set_option Elab.async false
set_option linter.all false
set_option maxRecDepth 100000
set_option maxHeartbeats 2000000
namespace K63
open PySem L2 MP
theorem b16 {P : Program} {w : World} {Kf : PySem.W.Frag} {mg : Str → Option Value} {base : Heap} {cls : Nat → Addr} {pre : List Addr} {adr : Nat → Addr} {k : Nat} {a : Addr} {cdv : Value} {A : Around} {outer : List Env} {s : Shared} {H : Hp} {E : XK}
    (q : EZ k (cxOf (L2.CX P w) P w Kf mg base n16 "_law_draw" (defScope s16) a cdv A outer s H E) (dk (GG Kf cls pre) Γ0 nm0 T 0 k) (fun c d _ H' => E c d H') LL adr) :
    PSs (cxOf (L2.CX P w) P w Kf mg base n16 "_law_draw" (defScope s16) a cdv A outer s H E) (defBody s16) (tB (dk (GG Kf cls pre) Γ0 nm0 T 0 k) 0 (fun c d _ H' => E c d H') none f16.body) := by
  repeat' (first
  | exact sb_nil | refine sb_cons ?_ ?_
  | exact sa_nil | refine sa_cons ?_ ?_
  | exact z_var (by (first | assumption | exact EZ.sx (by assumption))) (by rfl) (by (first | exact Or.inl rfl | exact Or.inr (Or.inl rfl) | exact Or.inr (Or.inr rfl))) (by decide +kernel)
  | exact z_int (by (first | assumption | exact EZ.sx (by assumption))) | exact z_str (by (first | assumption | exact EZ.sx (by assumption))) | exact z_bl (by (first | assumption | exact EZ.sx (by assumption))) | exact z_non (by (first | assumption | exact EZ.sx (by assumption)))
  | refine z_bin (by (first | assumption | exact EZ.sx (by assumption))) ?_ ?_
  | refine z_neg (by (first | assumption | exact EZ.sx (by assumption))) ?_
  | refine z_cmp (by (first | assumption | exact EZ.sx (by assumption))) ?_ ?_ (by rfl)
  | refine z_cmp2 (by (first | assumption | exact EZ.sx (by assumption))) ?_ ?_ ?_ (by rfl)
  | refine se_and ?_ ?_ | refine se_or ?_ ?_ | refine se_not ?_ | refine se_one ?_
  | refine SE.val (t := true) (se_and ?_ ?_)
  | refine se_ife ?_ ?_ ?_
  | refine se_lst (ES'.toEX (by (first | assumption | exact EZ.sx (by assumption)))) ?_ | refine se_tup (ES'.toEX (by (first | assumption | exact EZ.sx (by assumption)))) ?_
  | refine se_ix (ES'.toEX (by (first | assumption | exact EZ.sx (by assumption)))) ?_ ?_ (by intro _ _; rfl)
  | refine se_sl (ES'.toEX (by (first | assumption | exact EZ.sx (by assumption)))) ?_ ?_ ?_ | exact so_none | refine so_some ?_
  | refine z_curF (by (first | assumption | exact EZ.sx (by assumption))) (by assumption) (by assumption) (by rfl) (by (first | exact Or.inl rfl | exact Or.inr (Or.inl rfl) | exact Or.inr (Or.inr rfl))) (by decide +kernel) (by rfl) (by rfl)
  | refine z_curI (by (first | assumption | exact EZ.sx (by assumption))) (by assumption) (by assumption) (by rfl) (by (first | exact Or.inl rfl | exact Or.inr (Or.inl rfl) | exact Or.inr (Or.inr rfl))) (by decide +kernel) (by rfl) (by decide +kernel) (by rfl) (by decide +kernel) (by rfl) (by rfl) (by decide +kernel)
  | refine z_curB (by (first | assumption | exact EZ.sx (by assumption))) (by assumption) (by assumption) (by rfl) (by (first | exact Or.inl rfl | exact Or.inr (Or.inl rfl) | exact Or.inr (Or.inr rfl))) (by decide +kernel) (by rfl) (by decide +kernel) (by rfl) (by decide +kernel) (by (first | rfl | decide +kernel)) (by decide +kernel) (by rfl) (by decide +kernel)
  | refine z_glb (by (first | assumption | exact EZ.sx (by assumption))) (by decide +kernel) (by rfl) (by decide +kernel)
  | refine z_call (by (first | assumption | exact EZ.blk (by assumption))) (by decide +kernel) (by decide +kernel) (by rfl) ?_
  | refine z_mkxK (by (first | assumption | exact EZ.blk (by assumption))) (by decide +kernel) (by rfl) (by rfl) (by decide +kernel) (by rfl) ?_
  | refine z_mkx (by (first | assumption | exact EZ.blk (by assumption))) (by decide +kernel) (by rfl) (by decide +kernel) (by rfl) ?_
  | refine z_isE (by (first | assumption | exact EZ.blk (by assumption))) (by rfl) (by decide +kernel) (by rfl) ?_ (by decide +kernel) (by rfl) (by rfl) (by decide +kernel)
  | refine z_isX (by (first | assumption | exact EZ.blk (by assumption))) (by rfl) (by decide +kernel) (by rfl) ?_ (by decide +kernel) (by (first | rfl | decide +kernel)) (by decide +kernel) (by rfl) (by decide +kernel)
  | refine z_make (by (first | assumption | exact EZ.blk (by assumption))) (by decide +kernel) (by decide +kernel) (by rfl) ?_
  | refine z_lenSet (by (first | assumption | exact EZ.sx (by assumption))) (by rfl) (by rfl) (by rfl) (by decide +kernel) (by decide +kernel) (by rfl) (by rfl) ?_
  | refine z_biB (by (first | assumption | exact EZ.sx (by assumption))) (by (first | exact Or.inl rfl | exact Or.inr rfl)) (by decide) (by rfl) (by decide +kernel) (by rfl) (by (first | rfl | decide +kernel)) (by decide +kernel) ?_
  | refine z_biT (by (first | assumption | exact EZ.sx (by assumption))) (by (first | exact Or.inl rfl | exact Or.inr rfl)) (by decide) (by rfl) (by decide +kernel) (by rfl) (by (first | rfl | decide +kernel)) (by decide +kernel) ?_
  | refine z_isI (by (first | assumption | exact EZ.sx (by assumption))) (by rfl) (by decide +kernel) (by rfl) ?_ (by rfl) (by decide +kernel) (by (first | rfl | decide +kernel)) (by decide +kernel)
  | refine z_isI2 (by (first | assumption | exact EZ.sx (by assumption))) (by rfl) (by decide +kernel) (by rfl) ?_ (by rfl) (by decide +kernel) (by (first | rfl | decide +kernel)) (by decide +kernel) (by rfl) (by decide +kernel) (by (first | rfl | decide +kernel)) (by decide +kernel)
  | refine z_callv (by (first | assumption | exact EZ.blk (by assumption))) (by rfl) (by (first | exact Or.inl rfl | exact Or.inr (Or.inl rfl) | exact Or.inr (Or.inr rfl))) (by decide +kernel) ?_
  | refine z_clm (by (first | assumption | exact EZ.blk (by assumption))) (by decide +kernel) (by decide +kernel) (by rfl) (by rfl) ?_ (by rfl)
  | refine se_join (by rfl) (ES'.toEX (by (first | assumption | exact EZ.sx (by assumption)))) ?_ ?_ (by rfl) (by rfl) (by rfl)
  | refine se_count (by rfl) (ES'.toEX (by (first | assumption | exact EZ.sx (by assumption)))) ?_ ?_ (by rfl) (by rfl) (by rfl)
  | refine se_append (by rfl) (ES'.toEX (by (first | assumption | exact EZ.sx (by assumption)))) ?_ ?_ (by rfl) (by rfl) (by rfl)
  | refine se_index (by rfl) (ES'.toEX (by (first | assumption | exact EZ.sx (by assumption)))) ?_ ?_ (by rfl) (by rfl) (by rfl)
  | refine se_att (EZ.toEY (by (first | assumption | exact EZ.blk (by assumption)))) (by rfl) ?_ (by rfl)
  | exact se_dct0 (ES'.toEX (by (first | assumption | exact EZ.sx (by assumption))))
  | exact se_dct (ES'.toEX (by (first | assumption | exact EZ.sx (by assumption)))) (.cons pe_int pe_int (by intro a z; cases z) .nil) (by rfl) (by rfl) (by intro z; cases z) (by decide) (by decide)
  | refine z_lc (by (first | assumption | exact EZ.blk (by assumption))) ?_ (by rfl) (fun s H C cl fp q => ?_) (fun s H C cl fp q => ?_) (fun s H C cl fp q => ?_) (by intro _; rfl) (by (intro j hj; simpa [slT, slTs] using hj))
  | exact sc_none | refine sc_one ?_
  | exact z_sgn (EZ.nd (by (first | assumption | exact EZ.blk (by assumption)))) (by rfl) (by (first | exact Or.inl rfl | exact Or.inr rfl)) (by (first | exact Or.inl rfl | exact Or.inr rfl))
  | refine z_sgt (EX.K (EY.toEX (EZ.toEY (by (first | assumption | exact EZ.blk (by assumption)))))) (EY.cm (EZ.toEY (by (first | assumption | exact EZ.blk (by assumption))))) ?_ (by rfl) (by rfl)
  | exact z_sgs0 | refine z_sgs ?_ ?_ (by rfl)
  | refine z_rng1 (by (first | assumption | exact EZ.sx (by assumption))) (by rfl) (by decide +kernel) (by rfl) ?_
  | refine z_enum (by (first | assumption | exact EZ.sx (by assumption))) (by rfl) (by decide +kernel) (by rfl) ?_
  | refine si_ev (EX.K (ES'.toEX (by (first | assumption | exact EZ.sx (by assumption))))) ?_
  | refine ss_ret ?_ | exact ss_retN
  | refine ss_if ?_ ?_ ?_
  | refine z_asg (by (first | assumption | exact EZ.sx (by assumption))) (by rfl) (by (first | exact Or.inl rfl | exact Or.inr rfl)) (by (first | exact Or.inl rfl | exact Or.inr rfl)) ?_ (by rfl) (by (first | (intro _ _ _ _ z; cases z; done) | (intro _ _ _ _ z; cases z; simp [slT, slTs])))
  | refine z_par (by (first | assumption | exact EZ.blk (by assumption))) (by rfl) (by rfl) (by decide) (by rfl) (by rfl) ?_ (by rfl) (by rfl) (by (first | (intro _ _ _ _ z; cases z; done) | (intro _ _ _ _ z; cases z; simp [slT, slTs])))
  | refine z_asgS (by (first | assumption | exact EZ.blk (by assumption))) ?_ ?_ ?_ (by intro _; rfl) (by rfl) (by rfl) (by rfl)
  | refine z_fld (by (first | assumption | exact EZ.blk (by assumption))) (by rfl) ?_ ?_ (by rfl)
  | refine ss_expr ?_ (by rfl)
  | refine z_for (by (first | assumption | exact EZ.blk (by assumption))) (by first | assumption | exact passes_of rfl) ?_ ?_ ?_ (by intro _; rfl) (by (first | (intro _ _ _ _ z; cases z; done) | (intro _ _ _ _ z; cases z; simp [slT, slTs])))
  | refine z_raise (by (first | assumption | exact EZ.blk (by assumption))) (by decide +kernel) (by rfl) (by decide +kernel) (by rfl) ?_
  | refine z_try (by (first | assumption | exact EZ.blk (by assumption))) (by rfl) (by rfl) (by rfl) (by rfl) (by decide +kernel) (by rfl) (by decide +kernel) (by rfl) (fun W' pn xe q hp => ?_) (fun a oe cls d pn hz hf q => ?_)
  | exact ss_pass | exact ss_brk | exact ss_cnt)
end K63
end
section
set_option Elab.async false
set_option linter.all false
set_option maxRecDepth 100000
set_option maxHeartbeats 2000000
namespace K63
open PySem L2 MP
theorem b17 {P : Program} {w : World} {Kf : PySem.W.Frag} {mg : Str → Option Value} {base : Heap} {cls : Nat → Addr} {pre : List Addr} {adr : Nat → Addr} {k : Nat} {a : Addr} {cdv : Value} {A : Around} {outer : List Env} {s : Shared} {H : Hp} {E : XK}
    (q : EZ k (cxOf (L2.CX P w) P w Kf mg base n17 "_law_kinds" (defScope s17) a cdv A outer s H E) (dk (GG Kf cls pre) Γ0 nm0 T 0 k) (fun c d _ H' => E c d H') LL adr) :
    PSs (cxOf (L2.CX P w) P w Kf mg base n17 "_law_kinds" (defScope s17) a cdv A outer s H E) (defBody s17) (tB (dk (GG Kf cls pre) Γ0 nm0 T 0 k) 0 (fun c d _ H' => E c d H') none f17.body) := by
  repeat' (first
  | exact sb_nil | refine sb_cons ?_ ?_
  | exact sa_nil | refine sa_cons ?_ ?_
  | exact z_var (by (first | assumption | exact EZ.sx (by assumption))) (by rfl) (by (first | exact Or.inl rfl | exact Or.inr (Or.inl rfl) | exact Or.inr (Or.inr rfl))) (by decide +kernel)
  | exact z_int (by (first | assumption | exact EZ.sx (by assumption))) | exact z_str (by (first | assumption | exact EZ.sx (by assumption))) | exact z_bl (by (first | assumption | exact EZ.sx (by assumption))) | exact z_non (by (first | assumption | exact EZ.sx (by assumption)))
  | refine z_bin (by (first | assumption | exact EZ.sx (by assumption))) ?_ ?_
  | refine z_neg (by (first | assumption | exact EZ.sx (by assumption))) ?_
  | refine z_cmp (by (first | assumption | exact EZ.sx (by assumption))) ?_ ?_ (by rfl)
  | refine z_cmp2 (by (first | assumption | exact EZ.sx (by assumption))) ?_ ?_ ?_ (by rfl)
  | refine se_and ?_ ?_ | refine se_or ?_ ?_ | refine se_not ?_ | refine se_one ?_
  | refine SE.val (t := true) (se_and ?_ ?_)
  | refine se_ife ?_ ?_ ?_
  | refine se_lst (ES'.toEX (by (first | assumption | exact EZ.sx (by assumption)))) ?_ | refine se_tup (ES'.toEX (by (first | assumption | exact EZ.sx (by assumption)))) ?_
  | refine se_ix (ES'.toEX (by (first | assumption | exact EZ.sx (by assumption)))) ?_ ?_ (by intro _ _; rfl)
  | refine se_sl (ES'.toEX (by (first | assumption | exact EZ.sx (by assumption)))) ?_ ?_ ?_ | exact so_none | refine so_some ?_
  | refine z_curF (by (first | assumption | exact EZ.sx (by assumption))) (by assumption) (by assumption) (by rfl) (by (first | exact Or.inl rfl | exact Or.inr (Or.inl rfl) | exact Or.inr (Or.inr rfl))) (by decide +kernel) (by rfl) (by rfl)
  | refine z_curI (by (first | assumption | exact EZ.sx (by assumption))) (by assumption) (by assumption) (by rfl) (by (first | exact Or.inl rfl | exact Or.inr (Or.inl rfl) | exact Or.inr (Or.inr rfl))) (by decide +kernel) (by rfl) (by decide +kernel) (by rfl) (by decide +kernel) (by rfl) (by rfl) (by decide +kernel)
  | refine z_curB (by (first | assumption | exact EZ.sx (by assumption))) (by assumption) (by assumption) (by rfl) (by (first | exact Or.inl rfl | exact Or.inr (Or.inl rfl) | exact Or.inr (Or.inr rfl))) (by decide +kernel) (by rfl) (by decide +kernel) (by rfl) (by decide +kernel) (by (first | rfl | decide +kernel)) (by decide +kernel) (by rfl) (by decide +kernel)
  | refine z_glb (by (first | assumption | exact EZ.sx (by assumption))) (by decide +kernel) (by rfl) (by decide +kernel)
  | refine z_call (by (first | assumption | exact EZ.blk (by assumption))) (by decide +kernel) (by decide +kernel) (by rfl) ?_
  | refine z_mkxK (by (first | assumption | exact EZ.blk (by assumption))) (by decide +kernel) (by rfl) (by rfl) (by decide +kernel) (by rfl) ?_
  | refine z_mkx (by (first | assumption | exact EZ.blk (by assumption))) (by decide +kernel) (by rfl) (by decide +kernel) (by rfl) ?_
  | refine z_isE (by (first | assumption | exact EZ.blk (by assumption))) (by rfl) (by decide +kernel) (by rfl) ?_ (by decide +kernel) (by rfl) (by rfl) (by decide +kernel)
  | refine z_isX (by (first | assumption | exact EZ.blk (by assumption))) (by rfl) (by decide +kernel) (by rfl) ?_ (by decide +kernel) (by (first | rfl | decide +kernel)) (by decide +kernel) (by rfl) (by decide +kernel)
  | refine z_make (by (first | assumption | exact EZ.blk (by assumption))) (by decide +kernel) (by decide +kernel) (by rfl) ?_
  | refine z_lenSet (by (first | assumption | exact EZ.sx (by assumption))) (by rfl) (by rfl) (by rfl) (by decide +kernel) (by decide +kernel) (by rfl) (by rfl) ?_
  | refine z_biB (by (first | assumption | exact EZ.sx (by assumption))) (by (first | exact Or.inl rfl | exact Or.inr rfl)) (by decide) (by rfl) (by decide +kernel) (by rfl) (by (first | rfl | decide +kernel)) (by decide +kernel) ?_
  | refine z_biT (by (first | assumption | exact EZ.sx (by assumption))) (by (first | exact Or.inl rfl | exact Or.inr rfl)) (by decide) (by rfl) (by decide +kernel) (by rfl) (by (first | rfl | decide +kernel)) (by decide +kernel) ?_
  | refine z_isI (by (first | assumption | exact EZ.sx (by assumption))) (by rfl) (by decide +kernel) (by rfl) ?_ (by rfl) (by decide +kernel) (by (first | rfl | decide +kernel)) (by decide +kernel)
  | refine z_isI2 (by (first | assumption | exact EZ.sx (by assumption))) (by rfl) (by decide +kernel) (by rfl) ?_ (by rfl) (by decide +kernel) (by (first | rfl | decide +kernel)) (by decide +kernel) (by rfl) (by decide +kernel) (by (first | rfl | decide +kernel)) (by decide +kernel)
  | refine z_callv (by (first | assumption | exact EZ.blk (by assumption))) (by rfl) (by (first | exact Or.inl rfl | exact Or.inr (Or.inl rfl) | exact Or.inr (Or.inr rfl))) (by decide +kernel) ?_
  | refine z_clm (by (first | assumption | exact EZ.blk (by assumption))) (by decide +kernel) (by decide +kernel) (by rfl) (by rfl) ?_ (by rfl)
  | refine se_join (by rfl) (ES'.toEX (by (first | assumption | exact EZ.sx (by assumption)))) ?_ ?_ (by rfl) (by rfl) (by rfl)
  | refine se_count (by rfl) (ES'.toEX (by (first | assumption | exact EZ.sx (by assumption)))) ?_ ?_ (by rfl) (by rfl) (by rfl)
  | refine se_append (by rfl) (ES'.toEX (by (first | assumption | exact EZ.sx (by assumption)))) ?_ ?_ (by rfl) (by rfl) (by rfl)
  | refine se_index (by rfl) (ES'.toEX (by (first | assumption | exact EZ.sx (by assumption)))) ?_ ?_ (by rfl) (by rfl) (by rfl)
  | refine se_att (EZ.toEY (by (first | assumption | exact EZ.blk (by assumption)))) (by rfl) ?_ (by rfl)
  | exact se_dct0 (ES'.toEX (by (first | assumption | exact EZ.sx (by assumption))))
  | exact se_dct (ES'.toEX (by (first | assumption | exact EZ.sx (by assumption)))) (.cons pe_int pe_int (by intro a z; cases z) .nil) (by rfl) (by rfl) (by intro z; cases z) (by decide) (by decide)
  | refine z_lc (by (first | assumption | exact EZ.blk (by assumption))) ?_ (by rfl) (fun s H C cl fp q => ?_) (fun s H C cl fp q => ?_) (fun s H C cl fp q => ?_) (by intro _; rfl) (by (intro j hj; simpa [slT, slTs] using hj))
  | exact sc_none | refine sc_one ?_
  | exact z_sgn (EZ.nd (by (first | assumption | exact EZ.blk (by assumption)))) (by rfl) (by (first | exact Or.inl rfl | exact Or.inr rfl)) (by (first | exact Or.inl rfl | exact Or.inr rfl))
  | refine z_sgt (EX.K (EY.toEX (EZ.toEY (by (first | assumption | exact EZ.blk (by assumption)))))) (EY.cm (EZ.toEY (by (first | assumption | exact EZ.blk (by assumption))))) ?_ (by rfl) (by rfl)
  | exact z_sgs0 | refine z_sgs ?_ ?_ (by rfl)
  | refine z_rng1 (by (first | assumption | exact EZ.sx (by assumption))) (by rfl) (by decide +kernel) (by rfl) ?_
  | refine z_enum (by (first | assumption | exact EZ.sx (by assumption))) (by rfl) (by decide +kernel) (by rfl) ?_
  | refine si_ev (EX.K (ES'.toEX (by (first | assumption | exact EZ.sx (by assumption))))) ?_
  | refine ss_ret ?_ | exact ss_retN
  | refine ss_if ?_ ?_ ?_
  | refine z_asg (by (first | assumption | exact EZ.sx (by assumption))) (by rfl) (by (first | exact Or.inl rfl | exact Or.inr rfl)) (by (first | exact Or.inl rfl | exact Or.inr rfl)) ?_ (by rfl) (by (first | (intro _ _ _ _ z; cases z; done) | (intro _ _ _ _ z; cases z; simp [slT, slTs])))
  | refine z_par (by (first | assumption | exact EZ.blk (by assumption))) (by rfl) (by rfl) (by decide) (by rfl) (by rfl) ?_ (by rfl) (by rfl) (by (first | (intro _ _ _ _ z; cases z; done) | (intro _ _ _ _ z; cases z; simp [slT, slTs])))
  | refine z_asgS (by (first | assumption | exact EZ.blk (by assumption))) ?_ ?_ ?_ (by intro _; rfl) (by rfl) (by rfl) (by rfl)
  | refine z_fld (by (first | assumption | exact EZ.blk (by assumption))) (by rfl) ?_ ?_ (by rfl)
  | refine ss_expr ?_ (by rfl)
  | refine z_for (by (first | assumption | exact EZ.blk (by assumption))) (by first | assumption | exact passes_of rfl) ?_ ?_ ?_ (by intro _; rfl) (by (first | (intro _ _ _ _ z; cases z; done) | (intro _ _ _ _ z; cases z; simp [slT, slTs])))
  | refine z_raise (by (first | assumption | exact EZ.blk (by assumption))) (by decide +kernel) (by rfl) (by decide +kernel) (by rfl) ?_
  | refine z_try (by (first | assumption | exact EZ.blk (by assumption))) (by rfl) (by rfl) (by rfl) (by rfl) (by decide +kernel) (by rfl) (by decide +kernel) (by rfl) (fun W' pn xe q hp => ?_) (fun a oe cls d pn hz hf q => ?_)
  | exact ss_pass | exact ss_brk | exact ss_cnt)
end K63
end
section
set_option Elab.async false
set_option linter.all false
set_option maxRecDepth 100000
set_option maxHeartbeats 2000000
namespace K63
open PySem L2 MP
theorem b18 {P : Program} {w : World} {Kf : PySem.W.Frag} {mg : Str → Option Value} {base : Heap} {cls : Nat → Addr} {pre : List Addr} {adr : Nat → Addr} {k : Nat} {a : Addr} {cdv : Value} {A : Around} {outer : List Env} {s : Shared} {H : Hp} {E : XK}
    (q : EZ k (cxOf (L2.CX P w) P w Kf mg base n18 "_law_bases" (defScope s18) a cdv A outer s H E) (dk (GG Kf cls pre) Γ0 nm0 T 0 k) (fun c d _ H' => E c d H') LL adr) :
    PSs (cxOf (L2.CX P w) P w Kf mg base n18 "_law_bases" (defScope s18) a cdv A outer s H E) (defBody s18) (tB (dk (GG Kf cls pre) Γ0 nm0 T 0 k) 0 (fun c d _ H' => E c d H') none f18.body) := by
  repeat' (first
  | exact sb_nil | refine sb_cons ?_ ?_
  | exact sa_nil | refine sa_cons ?_ ?_
  | exact z_var (by (first | assumption | exact EZ.sx (by assumption))) (by rfl) (by (first | exact Or.inl rfl | exact Or.inr (Or.inl rfl) | exact Or.inr (Or.inr rfl))) (by decide +kernel)
  | exact z_int (by (first | assumption | exact EZ.sx (by assumption))) | exact z_str (by (first | assumption | exact EZ.sx (by assumption))) | exact z_bl (by (first | assumption | exact EZ.sx (by assumption))) | exact z_non (by (first | assumption | exact EZ.sx (by assumption)))
  | refine z_bin (by (first | assumption | exact EZ.sx (by assumption))) ?_ ?_
  | refine z_neg (by (first | assumption | exact EZ.sx (by assumption))) ?_
  | refine z_cmp (by (first | assumption | exact EZ.sx (by assumption))) ?_ ?_ (by rfl)
  | refine z_cmp2 (by (first | assumption | exact EZ.sx (by assumption))) ?_ ?_ ?_ (by rfl)
  | refine se_and ?_ ?_ | refine se_or ?_ ?_ | refine se_not ?_ | refine se_one ?_
  | refine SE.val (t := true) (se_and ?_ ?_)
  | refine se_ife ?_ ?_ ?_
  | refine se_lst (ES'.toEX (by (first | assumption | exact EZ.sx (by assumption)))) ?_ | refine se_tup (ES'.toEX (by (first | assumption | exact EZ.sx (by assumption)))) ?_
  | refine se_ix (ES'.toEX (by (first | assumption | exact EZ.sx (by assumption)))) ?_ ?_ (by intro _ _; rfl)
  | refine se_sl (ES'.toEX (by (first | assumption | exact EZ.sx (by assumption)))) ?_ ?_ ?_ | exact so_none | refine so_some ?_
  | refine z_curF (by (first | assumption | exact EZ.sx (by assumption))) (by assumption) (by assumption) (by rfl) (by (first | exact Or.inl rfl | exact Or.inr (Or.inl rfl) | exact Or.inr (Or.inr rfl))) (by decide +kernel) (by rfl) (by rfl)
  | refine z_curI (by (first | assumption | exact EZ.sx (by assumption))) (by assumption) (by assumption) (by rfl) (by (first | exact Or.inl rfl | exact Or.inr (Or.inl rfl) | exact Or.inr (Or.inr rfl))) (by decide +kernel) (by rfl) (by decide +kernel) (by rfl) (by decide +kernel) (by rfl) (by rfl) (by decide +kernel)
  | refine z_curB (by (first | assumption | exact EZ.sx (by assumption))) (by assumption) (by assumption) (by rfl) (by (first | exact Or.inl rfl | exact Or.inr (Or.inl rfl) | exact Or.inr (Or.inr rfl))) (by decide +kernel) (by rfl) (by decide +kernel) (by rfl) (by decide +kernel) (by (first | rfl | decide +kernel)) (by decide +kernel) (by rfl) (by decide +kernel)
  | refine z_glb (by (first | assumption | exact EZ.sx (by assumption))) (by decide +kernel) (by rfl) (by decide +kernel)
  | refine z_call (by (first | assumption | exact EZ.blk (by assumption))) (by decide +kernel) (by decide +kernel) (by rfl) ?_
  | refine z_mkxK (by (first | assumption | exact EZ.blk (by assumption))) (by decide +kernel) (by rfl) (by rfl) (by decide +kernel) (by rfl) ?_
  | refine z_mkx (by (first | assumption | exact EZ.blk (by assumption))) (by decide +kernel) (by rfl) (by decide +kernel) (by rfl) ?_
  | refine z_isE (by (first | assumption | exact EZ.blk (by assumption))) (by rfl) (by decide +kernel) (by rfl) ?_ (by decide +kernel) (by rfl) (by rfl) (by decide +kernel)
  | refine z_isX (by (first | assumption | exact EZ.blk (by assumption))) (by rfl) (by decide +kernel) (by rfl) ?_ (by decide +kernel) (by (first | rfl | decide +kernel)) (by decide +kernel) (by rfl) (by decide +kernel)
  | refine z_make (by (first | assumption | exact EZ.blk (by assumption))) (by decide +kernel) (by decide +kernel) (by rfl) ?_
  | refine z_lenSet (by (first | assumption | exact EZ.sx (by assumption))) (by rfl) (by rfl) (by rfl) (by decide +kernel) (by decide +kernel) (by rfl) (by rfl) ?_
  | refine z_biB (by (first | assumption | exact EZ.sx (by assumption))) (by (first | exact Or.inl rfl | exact Or.inr rfl)) (by decide) (by rfl) (by decide +kernel) (by rfl) (by (first | rfl | decide +kernel)) (by decide +kernel) ?_
  | refine z_biT (by (first | assumption | exact EZ.sx (by assumption))) (by (first | exact Or.inl rfl | exact Or.inr rfl)) (by decide) (by rfl) (by decide +kernel) (by rfl) (by (first | rfl | decide +kernel)) (by decide +kernel) ?_
  | refine z_isI (by (first | assumption | exact EZ.sx (by assumption))) (by rfl) (by decide +kernel) (by rfl) ?_ (by rfl) (by decide +kernel) (by (first | rfl | decide +kernel)) (by decide +kernel)
  | refine z_isI2 (by (first | assumption | exact EZ.sx (by assumption))) (by rfl) (by decide +kernel) (by rfl) ?_ (by rfl) (by decide +kernel) (by (first | rfl | decide +kernel)) (by decide +kernel) (by rfl) (by decide +kernel) (by (first | rfl | decide +kernel)) (by decide +kernel)
  | refine z_callv (by (first | assumption | exact EZ.blk (by assumption))) (by rfl) (by (first | exact Or.inl rfl | exact Or.inr (Or.inl rfl) | exact Or.inr (Or.inr rfl))) (by decide +kernel) ?_
  | refine z_clm (by (first | assumption | exact EZ.blk (by assumption))) (by decide +kernel) (by decide +kernel) (by rfl) (by rfl) ?_ (by rfl)
  | refine se_join (by rfl) (ES'.toEX (by (first | assumption | exact EZ.sx (by assumption)))) ?_ ?_ (by rfl) (by rfl) (by rfl)
  | refine se_count (by rfl) (ES'.toEX (by (first | assumption | exact EZ.sx (by assumption)))) ?_ ?_ (by rfl) (by rfl) (by rfl)
  | refine se_append (by rfl) (ES'.toEX (by (first | assumption | exact EZ.sx (by assumption)))) ?_ ?_ (by rfl) (by rfl) (by rfl)
  | refine se_index (by rfl) (ES'.toEX (by (first | assumption | exact EZ.sx (by assumption)))) ?_ ?_ (by rfl) (by rfl) (by rfl)
  | refine se_att (EZ.toEY (by (first | assumption | exact EZ.blk (by assumption)))) (by rfl) ?_ (by rfl)
  | exact se_dct0 (ES'.toEX (by (first | assumption | exact EZ.sx (by assumption))))
  | exact se_dct (ES'.toEX (by (first | assumption | exact EZ.sx (by assumption)))) (.cons pe_int pe_int (by intro a z; cases z) .nil) (by rfl) (by rfl) (by intro z; cases z) (by decide) (by decide)
  | refine z_lc (by (first | assumption | exact EZ.blk (by assumption))) ?_ (by rfl) (fun s H C cl fp q => ?_) (fun s H C cl fp q => ?_) (fun s H C cl fp q => ?_) (by intro _; rfl) (by (intro j hj; simpa [slT, slTs] using hj))
  | exact sc_none | refine sc_one ?_
  | exact z_sgn (EZ.nd (by (first | assumption | exact EZ.blk (by assumption)))) (by rfl) (by (first | exact Or.inl rfl | exact Or.inr rfl)) (by (first | exact Or.inl rfl | exact Or.inr rfl))
  | refine z_sgt (EX.K (EY.toEX (EZ.toEY (by (first | assumption | exact EZ.blk (by assumption)))))) (EY.cm (EZ.toEY (by (first | assumption | exact EZ.blk (by assumption))))) ?_ (by rfl) (by rfl)
  | exact z_sgs0 | refine z_sgs ?_ ?_ (by rfl)
  | refine z_rng1 (by (first | assumption | exact EZ.sx (by assumption))) (by rfl) (by decide +kernel) (by rfl) ?_
  | refine z_enum (by (first | assumption | exact EZ.sx (by assumption))) (by rfl) (by decide +kernel) (by rfl) ?_
  | refine si_ev (EX.K (ES'.toEX (by (first | assumption | exact EZ.sx (by assumption))))) ?_
  | refine ss_ret ?_ | exact ss_retN
  | refine ss_if ?_ ?_ ?_
  | refine z_asg (by (first | assumption | exact EZ.sx (by assumption))) (by rfl) (by (first | exact Or.inl rfl | exact Or.inr rfl)) (by (first | exact Or.inl rfl | exact Or.inr rfl)) ?_ (by rfl) (by (first | (intro _ _ _ _ z; cases z; done) | (intro _ _ _ _ z; cases z; simp [slT, slTs])))
  | refine z_par (by (first | assumption | exact EZ.blk (by assumption))) (by rfl) (by rfl) (by decide) (by rfl) (by rfl) ?_ (by rfl) (by rfl) (by (first | (intro _ _ _ _ z; cases z; done) | (intro _ _ _ _ z; cases z; simp [slT, slTs])))
  | refine z_asgS (by (first | assumption | exact EZ.blk (by assumption))) ?_ ?_ ?_ (by intro _; rfl) (by rfl) (by rfl) (by rfl)
  | refine z_fld (by (first | assumption | exact EZ.blk (by assumption))) (by rfl) ?_ ?_ (by rfl)
  | refine ss_expr ?_ (by rfl)
  | refine z_for (by (first | assumption | exact EZ.blk (by assumption))) (by first | assumption | exact passes_of rfl) ?_ ?_ ?_ (by intro _; rfl) (by (first | (intro _ _ _ _ z; cases z; done) | (intro _ _ _ _ z; cases z; simp [slT, slTs])))
  | refine z_raise (by (first | assumption | exact EZ.blk (by assumption))) (by decide +kernel) (by rfl) (by decide +kernel) (by rfl) ?_
  | refine z_try (by (first | assumption | exact EZ.blk (by assumption))) (by rfl) (by rfl) (by rfl) (by rfl) (by decide +kernel) (by rfl) (by decide +kernel) (by rfl) (fun W' pn xe q hp => ?_) (fun a oe cls d pn hz hf q => ?_)
  | exact ss_pass | exact ss_brk | exact ss_cnt)
end K63
end
section
set_option Elab.async false
set_option linter.all false
set_option maxRecDepth 100000
set_option maxHeartbeats 2000000
namespace K63
open PySem L2 MP
theorem b19 {P : Program} {w : World} {Kf : PySem.W.Frag} {mg : Str → Option Value} {base : Heap} {cls : Nat → Addr} {pre : List Addr} {adr : Nat → Addr} {k : Nat} {a : Addr} {cdv : Value} {A : Around} {outer : List Env} {s : Shared} {H : Hp} {E : XK}
    (q : EZ k (cxOf (L2.CX P w) P w Kf mg base n19 "_law_made" (defScope s19) a cdv A outer s H E) (dk (GG Kf cls pre) Γ0 nm0 T 0 k) (fun c d _ H' => E c d H') LL adr) :
    PSs (cxOf (L2.CX P w) P w Kf mg base n19 "_law_made" (defScope s19) a cdv A outer s H E) (defBody s19) (tB (dk (GG Kf cls pre) Γ0 nm0 T 0 k) 0 (fun c d _ H' => E c d H') none f19.body) := by
  repeat' (first
  | exact sb_nil | refine sb_cons ?_ ?_
  | exact sa_nil | refine sa_cons ?_ ?_
  | exact z_var (by (first | assumption | exact EZ.sx (by assumption))) (by rfl) (by (first | exact Or.inl rfl | exact Or.inr (Or.inl rfl) | exact Or.inr (Or.inr rfl))) (by decide +kernel)
  | exact z_int (by (first | assumption | exact EZ.sx (by assumption))) | exact z_str (by (first | assumption | exact EZ.sx (by assumption))) | exact z_bl (by (first | assumption | exact EZ.sx (by assumption))) | exact z_non (by (first | assumption | exact EZ.sx (by assumption)))
  | refine z_bin (by (first | assumption | exact EZ.sx (by assumption))) ?_ ?_
  | refine z_neg (by (first | assumption | exact EZ.sx (by assumption))) ?_
  | refine z_cmp (by (first | assumption | exact EZ.sx (by assumption))) ?_ ?_ (by rfl)
  | refine z_cmp2 (by (first | assumption | exact EZ.sx (by assumption))) ?_ ?_ ?_ (by rfl)
  | refine se_and ?_ ?_ | refine se_or ?_ ?_ | refine se_not ?_ | refine se_one ?_
  | refine SE.val (t := true) (se_and ?_ ?_)
  | refine se_ife ?_ ?_ ?_
  | refine se_lst (ES'.toEX (by (first | assumption | exact EZ.sx (by assumption)))) ?_ | refine se_tup (ES'.toEX (by (first | assumption | exact EZ.sx (by assumption)))) ?_
  | refine se_ix (ES'.toEX (by (first | assumption | exact EZ.sx (by assumption)))) ?_ ?_ (by intro _ _; rfl)
  | refine se_sl (ES'.toEX (by (first | assumption | exact EZ.sx (by assumption)))) ?_ ?_ ?_ | exact so_none | refine so_some ?_
  | refine z_curF (by (first | assumption | exact EZ.sx (by assumption))) (by assumption) (by assumption) (by rfl) (by (first | exact Or.inl rfl | exact Or.inr (Or.inl rfl) | exact Or.inr (Or.inr rfl))) (by decide +kernel) (by rfl) (by rfl)
  | refine z_curI (by (first | assumption | exact EZ.sx (by assumption))) (by assumption) (by assumption) (by rfl) (by (first | exact Or.inl rfl | exact Or.inr (Or.inl rfl) | exact Or.inr (Or.inr rfl))) (by decide +kernel) (by rfl) (by decide +kernel) (by rfl) (by decide +kernel) (by rfl) (by rfl) (by decide +kernel)
  | refine z_curB (by (first | assumption | exact EZ.sx (by assumption))) (by assumption) (by assumption) (by rfl) (by (first | exact Or.inl rfl | exact Or.inr (Or.inl rfl) | exact Or.inr (Or.inr rfl))) (by decide +kernel) (by rfl) (by decide +kernel) (by rfl) (by decide +kernel) (by (first | rfl | decide +kernel)) (by decide +kernel) (by rfl) (by decide +kernel)
  | refine z_glb (by (first | assumption | exact EZ.sx (by assumption))) (by decide +kernel) (by rfl) (by decide +kernel)
  | refine z_call (by (first | assumption | exact EZ.blk (by assumption))) (by decide +kernel) (by decide +kernel) (by rfl) ?_
  | refine z_mkxK (by (first | assumption | exact EZ.blk (by assumption))) (by decide +kernel) (by rfl) (by rfl) (by decide +kernel) (by rfl) ?_
  | refine z_mkx (by (first | assumption | exact EZ.blk (by assumption))) (by decide +kernel) (by rfl) (by decide +kernel) (by rfl) ?_
  | refine z_isE (by (first | assumption | exact EZ.blk (by assumption))) (by rfl) (by decide +kernel) (by rfl) ?_ (by decide +kernel) (by rfl) (by rfl) (by decide +kernel)
  | refine z_isX (by (first | assumption | exact EZ.blk (by assumption))) (by rfl) (by decide +kernel) (by rfl) ?_ (by decide +kernel) (by (first | rfl | decide +kernel)) (by decide +kernel) (by rfl) (by decide +kernel)
  | refine z_make (by (first | assumption | exact EZ.blk (by assumption))) (by decide +kernel) (by decide +kernel) (by rfl) ?_
  | refine z_lenSet (by (first | assumption | exact EZ.sx (by assumption))) (by rfl) (by rfl) (by rfl) (by decide +kernel) (by decide +kernel) (by rfl) (by rfl) ?_
  | refine z_biB (by (first | assumption | exact EZ.sx (by assumption))) (by (first | exact Or.inl rfl | exact Or.inr rfl)) (by decide) (by rfl) (by decide +kernel) (by rfl) (by (first | rfl | decide +kernel)) (by decide +kernel) ?_
  | refine z_biT (by (first | assumption | exact EZ.sx (by assumption))) (by (first | exact Or.inl rfl | exact Or.inr rfl)) (by decide) (by rfl) (by decide +kernel) (by rfl) (by (first | rfl | decide +kernel)) (by decide +kernel) ?_
  | refine z_isI (by (first | assumption | exact EZ.sx (by assumption))) (by rfl) (by decide +kernel) (by rfl) ?_ (by rfl) (by decide +kernel) (by (first | rfl | decide +kernel)) (by decide +kernel)
  | refine z_isI2 (by (first | assumption | exact EZ.sx (by assumption))) (by rfl) (by decide +kernel) (by rfl) ?_ (by rfl) (by decide +kernel) (by (first | rfl | decide +kernel)) (by decide +kernel) (by rfl) (by decide +kernel) (by (first | rfl | decide +kernel)) (by decide +kernel)
  | refine z_callv (by (first | assumption | exact EZ.blk (by assumption))) (by rfl) (by (first | exact Or.inl rfl | exact Or.inr (Or.inl rfl) | exact Or.inr (Or.inr rfl))) (by decide +kernel) ?_
  | refine z_clm (by (first | assumption | exact EZ.blk (by assumption))) (by decide +kernel) (by decide +kernel) (by rfl) (by rfl) ?_ (by rfl)
  | refine se_join (by rfl) (ES'.toEX (by (first | assumption | exact EZ.sx (by assumption)))) ?_ ?_ (by rfl) (by rfl) (by rfl)
  | refine se_count (by rfl) (ES'.toEX (by (first | assumption | exact EZ.sx (by assumption)))) ?_ ?_ (by rfl) (by rfl) (by rfl)
  | refine se_append (by rfl) (ES'.toEX (by (first | assumption | exact EZ.sx (by assumption)))) ?_ ?_ (by rfl) (by rfl) (by rfl)
  | refine se_index (by rfl) (ES'.toEX (by (first | assumption | exact EZ.sx (by assumption)))) ?_ ?_ (by rfl) (by rfl) (by rfl)
  | refine se_att (EZ.toEY (by (first | assumption | exact EZ.blk (by assumption)))) (by rfl) ?_ (by rfl)
  | exact se_dct0 (ES'.toEX (by (first | assumption | exact EZ.sx (by assumption))))
  | exact se_dct (ES'.toEX (by (first | assumption | exact EZ.sx (by assumption)))) (.cons pe_int pe_int (by intro a z; cases z) .nil) (by rfl) (by rfl) (by intro z; cases z) (by decide) (by decide)
  | refine z_lc (by (first | assumption | exact EZ.blk (by assumption))) ?_ (by rfl) (fun s H C cl fp q => ?_) (fun s H C cl fp q => ?_) (fun s H C cl fp q => ?_) (by intro _; rfl) (by (intro j hj; simpa [slT, slTs] using hj))
  | exact sc_none | refine sc_one ?_
  | exact z_sgn (EZ.nd (by (first | assumption | exact EZ.blk (by assumption)))) (by rfl) (by (first | exact Or.inl rfl | exact Or.inr rfl)) (by (first | exact Or.inl rfl | exact Or.inr rfl))
  | refine z_sgt (EX.K (EY.toEX (EZ.toEY (by (first | assumption | exact EZ.blk (by assumption)))))) (EY.cm (EZ.toEY (by (first | assumption | exact EZ.blk (by assumption))))) ?_ (by rfl) (by rfl)
  | exact z_sgs0 | refine z_sgs ?_ ?_ (by rfl)
  | refine z_rng1 (by (first | assumption | exact EZ.sx (by assumption))) (by rfl) (by decide +kernel) (by rfl) ?_
  | refine z_enum (by (first | assumption | exact EZ.sx (by assumption))) (by rfl) (by decide +kernel) (by rfl) ?_
  | refine si_ev (EX.K (ES'.toEX (by (first | assumption | exact EZ.sx (by assumption))))) ?_
  | refine ss_ret ?_ | exact ss_retN
  | refine ss_if ?_ ?_ ?_
  | refine z_asg (by (first | assumption | exact EZ.sx (by assumption))) (by rfl) (by (first | exact Or.inl rfl | exact Or.inr rfl)) (by (first | exact Or.inl rfl | exact Or.inr rfl)) ?_ (by rfl) (by (first | (intro _ _ _ _ z; cases z; done) | (intro _ _ _ _ z; cases z; simp [slT, slTs])))
  | refine z_par (by (first | assumption | exact EZ.blk (by assumption))) (by rfl) (by rfl) (by decide) (by rfl) (by rfl) ?_ (by rfl) (by rfl) (by (first | (intro _ _ _ _ z; cases z; done) | (intro _ _ _ _ z; cases z; simp [slT, slTs])))
  | refine z_asgS (by (first | assumption | exact EZ.blk (by assumption))) ?_ ?_ ?_ (by intro _; rfl) (by rfl) (by rfl) (by rfl)
  | refine z_fld (by (first | assumption | exact EZ.blk (by assumption))) (by rfl) ?_ ?_ (by rfl)
  | refine ss_expr ?_ (by rfl)
  | refine z_for (by (first | assumption | exact EZ.blk (by assumption))) (by first | assumption | exact passes_of rfl) ?_ ?_ ?_ (by intro _; rfl) (by (first | (intro _ _ _ _ z; cases z; done) | (intro _ _ _ _ z; cases z; simp [slT, slTs])))
  | refine z_raise (by (first | assumption | exact EZ.blk (by assumption))) (by decide +kernel) (by rfl) (by decide +kernel) (by rfl) ?_
  | refine z_try (by (first | assumption | exact EZ.blk (by assumption))) (by rfl) (by rfl) (by rfl) (by rfl) (by decide +kernel) (by rfl) (by decide +kernel) (by rfl) (fun W' pn xe q hp => ?_) (fun a oe cls d pn hz hf q => ?_)
  | exact ss_pass | exact ss_brk | exact ss_cnt)
end K63
end
section
set_option Elab.async false
set_option linter.all false
set_option maxRecDepth 100000
set_option maxHeartbeats 2000000
namespace K63
open PySem L2 MP
theorem b20 {P : Program} {w : World} {Kf : PySem.W.Frag} {mg : Str → Option Value} {base : Heap} {cls : Nat → Addr} {pre : List Addr} {adr : Nat → Addr} {k : Nat} {a : Addr} {cdv : Value} {A : Around} {outer : List Env} {s : Shared} {H : Hp} {E : XK}
    (q : EZ k (cxOf (L2.CX P w) P w Kf mg base n20 "_law_named" (defScope s20) a cdv A outer s H E) (dk (GG Kf cls pre) Γ0 nm0 T 0 k) (fun c d _ H' => E c d H') LL adr) :
    PSs (cxOf (L2.CX P w) P w Kf mg base n20 "_law_named" (defScope s20) a cdv A outer s H E) (defBody s20) (tB (dk (GG Kf cls pre) Γ0 nm0 T 0 k) 0 (fun c d _ H' => E c d H') none f20.body) := by
  repeat' (first
  | exact sb_nil | refine sb_cons ?_ ?_
  | exact sa_nil | refine sa_cons ?_ ?_
  | exact z_var (by (first | assumption | exact EZ.sx (by assumption))) (by rfl) (by (first | exact Or.inl rfl | exact Or.inr (Or.inl rfl) | exact Or.inr (Or.inr rfl))) (by decide +kernel)
  | exact z_int (by (first | assumption | exact EZ.sx (by assumption))) | exact z_str (by (first | assumption | exact EZ.sx (by assumption))) | exact z_bl (by (first | assumption | exact EZ.sx (by assumption))) | exact z_non (by (first | assumption | exact EZ.sx (by assumption)))
  | refine z_bin (by (first | assumption | exact EZ.sx (by assumption))) ?_ ?_
  | refine z_neg (by (first | assumption | exact EZ.sx (by assumption))) ?_
  | refine z_cmp (by (first | assumption | exact EZ.sx (by assumption))) ?_ ?_ (by rfl)
  | refine z_cmp2 (by (first | assumption | exact EZ.sx (by assumption))) ?_ ?_ ?_ (by rfl)
  | refine se_and ?_ ?_ | refine se_or ?_ ?_ | refine se_not ?_ | refine se_one ?_
  | refine SE.val (t := true) (se_and ?_ ?_)
  | refine se_ife ?_ ?_ ?_
  | refine se_lst (ES'.toEX (by (first | assumption | exact EZ.sx (by assumption)))) ?_ | refine se_tup (ES'.toEX (by (first | assumption | exact EZ.sx (by assumption)))) ?_
  | refine se_ix (ES'.toEX (by (first | assumption | exact EZ.sx (by assumption)))) ?_ ?_ (by intro _ _; rfl)
  | refine se_sl (ES'.toEX (by (first | assumption | exact EZ.sx (by assumption)))) ?_ ?_ ?_ | exact so_none | refine so_some ?_
  | refine z_curF (by (first | assumption | exact EZ.sx (by assumption))) (by assumption) (by assumption) (by rfl) (by (first | exact Or.inl rfl | exact Or.inr (Or.inl rfl) | exact Or.inr (Or.inr rfl))) (by decide +kernel) (by rfl) (by rfl)
  | refine z_curI (by (first | assumption | exact EZ.sx (by assumption))) (by assumption) (by assumption) (by rfl) (by (first | exact Or.inl rfl | exact Or.inr (Or.inl rfl) | exact Or.inr (Or.inr rfl))) (by decide +kernel) (by rfl) (by decide +kernel) (by rfl) (by decide +kernel) (by rfl) (by rfl) (by decide +kernel)
  | refine z_curB (by (first | assumption | exact EZ.sx (by assumption))) (by assumption) (by assumption) (by rfl) (by (first | exact Or.inl rfl | exact Or.inr (Or.inl rfl) | exact Or.inr (Or.inr rfl))) (by decide +kernel) (by rfl) (by decide +kernel) (by rfl) (by decide +kernel) (by (first | rfl | decide +kernel)) (by decide +kernel) (by rfl) (by decide +kernel)
  | refine z_glb (by (first | assumption | exact EZ.sx (by assumption))) (by decide +kernel) (by rfl) (by decide +kernel)
  | refine z_call (by (first | assumption | exact EZ.blk (by assumption))) (by decide +kernel) (by decide +kernel) (by rfl) ?_
  | refine z_mkxK (by (first | assumption | exact EZ.blk (by assumption))) (by decide +kernel) (by rfl) (by rfl) (by decide +kernel) (by rfl) ?_
  | refine z_mkx (by (first | assumption | exact EZ.blk (by assumption))) (by decide +kernel) (by rfl) (by decide +kernel) (by rfl) ?_
  | refine z_isE (by (first | assumption | exact EZ.blk (by assumption))) (by rfl) (by decide +kernel) (by rfl) ?_ (by decide +kernel) (by rfl) (by rfl) (by decide +kernel)
  | refine z_isX (by (first | assumption | exact EZ.blk (by assumption))) (by rfl) (by decide +kernel) (by rfl) ?_ (by decide +kernel) (by (first | rfl | decide +kernel)) (by decide +kernel) (by rfl) (by decide +kernel)
  | refine z_make (by (first | assumption | exact EZ.blk (by assumption))) (by decide +kernel) (by decide +kernel) (by rfl) ?_
  | refine z_lenSet (by (first | assumption | exact EZ.sx (by assumption))) (by rfl) (by rfl) (by rfl) (by decide +kernel) (by decide +kernel) (by rfl) (by rfl) ?_
  | refine z_biB (by (first | assumption | exact EZ.sx (by assumption))) (by (first | exact Or.inl rfl | exact Or.inr rfl)) (by decide) (by rfl) (by decide +kernel) (by rfl) (by (first | rfl | decide +kernel)) (by decide +kernel) ?_
  | refine z_biT (by (first | assumption | exact EZ.sx (by assumption))) (by (first | exact Or.inl rfl | exact Or.inr rfl)) (by decide) (by rfl) (by decide +kernel) (by rfl) (by (first | rfl | decide +kernel)) (by decide +kernel) ?_
  | refine z_isI (by (first | assumption | exact EZ.sx (by assumption))) (by rfl) (by decide +kernel) (by rfl) ?_ (by rfl) (by decide +kernel) (by (first | rfl | decide +kernel)) (by decide +kernel)
  | refine z_isI2 (by (first | assumption | exact EZ.sx (by assumption))) (by rfl) (by decide +kernel) (by rfl) ?_ (by rfl) (by decide +kernel) (by (first | rfl | decide +kernel)) (by decide +kernel) (by rfl) (by decide +kernel) (by (first | rfl | decide +kernel)) (by decide +kernel)
  | refine z_callv (by (first | assumption | exact EZ.blk (by assumption))) (by rfl) (by (first | exact Or.inl rfl | exact Or.inr (Or.inl rfl) | exact Or.inr (Or.inr rfl))) (by decide +kernel) ?_
  | refine z_clm (by (first | assumption | exact EZ.blk (by assumption))) (by decide +kernel) (by decide +kernel) (by rfl) (by rfl) ?_ (by rfl)
  | refine se_join (by rfl) (ES'.toEX (by (first | assumption | exact EZ.sx (by assumption)))) ?_ ?_ (by rfl) (by rfl) (by rfl)
  | refine se_count (by rfl) (ES'.toEX (by (first | assumption | exact EZ.sx (by assumption)))) ?_ ?_ (by rfl) (by rfl) (by rfl)
  | refine se_append (by rfl) (ES'.toEX (by (first | assumption | exact EZ.sx (by assumption)))) ?_ ?_ (by rfl) (by rfl) (by rfl)
  | refine se_index (by rfl) (ES'.toEX (by (first | assumption | exact EZ.sx (by assumption)))) ?_ ?_ (by rfl) (by rfl) (by rfl)
  | refine se_att (EZ.toEY (by (first | assumption | exact EZ.blk (by assumption)))) (by rfl) ?_ (by rfl)
  | exact se_dct0 (ES'.toEX (by (first | assumption | exact EZ.sx (by assumption))))
  | exact se_dct (ES'.toEX (by (first | assumption | exact EZ.sx (by assumption)))) (.cons pe_int pe_int (by intro a z; cases z) .nil) (by rfl) (by rfl) (by intro z; cases z) (by decide) (by decide)
  | refine z_lc (by (first | assumption | exact EZ.blk (by assumption))) ?_ (by rfl) (fun s H C cl fp q => ?_) (fun s H C cl fp q => ?_) (fun s H C cl fp q => ?_) (by intro _; rfl) (by (intro j hj; simpa [slT, slTs] using hj))
  | exact sc_none | refine sc_one ?_
  | exact z_sgn (EZ.nd (by (first | assumption | exact EZ.blk (by assumption)))) (by rfl) (by (first | exact Or.inl rfl | exact Or.inr rfl)) (by (first | exact Or.inl rfl | exact Or.inr rfl))
  | refine z_sgt (EX.K (EY.toEX (EZ.toEY (by (first | assumption | exact EZ.blk (by assumption)))))) (EY.cm (EZ.toEY (by (first | assumption | exact EZ.blk (by assumption))))) ?_ (by rfl) (by rfl)
  | exact z_sgs0 | refine z_sgs ?_ ?_ (by rfl)
  | refine z_rng1 (by (first | assumption | exact EZ.sx (by assumption))) (by rfl) (by decide +kernel) (by rfl) ?_
  | refine z_enum (by (first | assumption | exact EZ.sx (by assumption))) (by rfl) (by decide +kernel) (by rfl) ?_
  | refine si_ev (EX.K (ES'.toEX (by (first | assumption | exact EZ.sx (by assumption))))) ?_
  | refine ss_ret ?_ | exact ss_retN
  | refine ss_if ?_ ?_ ?_
  | refine z_asg (by (first | assumption | exact EZ.sx (by assumption))) (by rfl) (by (first | exact Or.inl rfl | exact Or.inr rfl)) (by (first | exact Or.inl rfl | exact Or.inr rfl)) ?_ (by rfl) (by (first | (intro _ _ _ _ z; cases z; done) | (intro _ _ _ _ z; cases z; simp [slT, slTs])))
  | refine z_par (by (first | assumption | exact EZ.blk (by assumption))) (by rfl) (by rfl) (by decide) (by rfl) (by rfl) ?_ (by rfl) (by rfl) (by (first | (intro _ _ _ _ z; cases z; done) | (intro _ _ _ _ z; cases z; simp [slT, slTs])))
  | refine z_asgS (by (first | assumption | exact EZ.blk (by assumption))) ?_ ?_ ?_ (by intro _; rfl) (by rfl) (by rfl) (by rfl)
  | refine z_fld (by (first | assumption | exact EZ.blk (by assumption))) (by rfl) ?_ ?_ (by rfl)
  | refine ss_expr ?_ (by rfl)
  | refine z_for (by (first | assumption | exact EZ.blk (by assumption))) (by first | assumption | exact passes_of rfl) ?_ ?_ ?_ (by intro _; rfl) (by (first | (intro _ _ _ _ z; cases z; done) | (intro _ _ _ _ z; cases z; simp [slT, slTs])))
  | refine z_raise (by (first | assumption | exact EZ.blk (by assumption))) (by decide +kernel) (by rfl) (by decide +kernel) (by rfl) ?_
  | refine z_try (by (first | assumption | exact EZ.blk (by assumption))) (by rfl) (by rfl) (by rfl) (by rfl) (by decide +kernel) (by rfl) (by decide +kernel) (by rfl) (fun W' pn xe q hp => ?_) (fun a oe cls d pn hz hf q => ?_)
  | exact ss_pass | exact ss_brk | exact ss_cnt)
end K63
end
section
set_option Elab.async false
set_option linter.all false
set_option maxRecDepth 100000
set_option maxHeartbeats 2000000
namespace K63
open PySem L2 MP
theorem b21 {P : Program} {w : World} {Kf : PySem.W.Frag} {mg : Str → Option Value} {base : Heap} {cls : Nat → Addr} {pre : List Addr} {adr : Nat → Addr} {k : Nat} {a : Addr} {cdv : Value} {A : Around} {outer : List Env} {s : Shared} {H : Hp} {E : XK}
    (q : EZ k (cxOf (L2.CX P w) P w Kf mg base n21 "_law_fields" (defScope s21) a cdv A outer s H E) (dk (GG Kf cls pre) Γ0 nm0 T 0 k) (fun c d _ H' => E c d H') LL adr) :
    PSs (cxOf (L2.CX P w) P w Kf mg base n21 "_law_fields" (defScope s21) a cdv A outer s H E) (defBody s21) (tB (dk (GG Kf cls pre) Γ0 nm0 T 0 k) 0 (fun c d _ H' => E c d H') none f21.body) := by
  repeat' (first
  | exact sb_nil | refine sb_cons ?_ ?_
  | exact sa_nil | refine sa_cons ?_ ?_
  | exact z_var (by (first | assumption | exact EZ.sx (by assumption))) (by rfl) (by (first | exact Or.inl rfl | exact Or.inr (Or.inl rfl) | exact Or.inr (Or.inr rfl))) (by decide +kernel)
  | exact z_int (by (first | assumption | exact EZ.sx (by assumption))) | exact z_str (by (first | assumption | exact EZ.sx (by assumption))) | exact z_bl (by (first | assumption | exact EZ.sx (by assumption))) | exact z_non (by (first | assumption | exact EZ.sx (by assumption)))
  | refine z_bin (by (first | assumption | exact EZ.sx (by assumption))) ?_ ?_
  | refine z_neg (by (first | assumption | exact EZ.sx (by assumption))) ?_
  | refine z_cmp (by (first | assumption | exact EZ.sx (by assumption))) ?_ ?_ (by rfl)
  | refine z_cmp2 (by (first | assumption | exact EZ.sx (by assumption))) ?_ ?_ ?_ (by rfl)
  | refine se_and ?_ ?_ | refine se_or ?_ ?_ | refine se_not ?_ | refine se_one ?_
  | refine SE.val (t := true) (se_and ?_ ?_)
  | refine se_ife ?_ ?_ ?_
  | refine se_lst (ES'.toEX (by (first | assumption | exact EZ.sx (by assumption)))) ?_ | refine se_tup (ES'.toEX (by (first | assumption | exact EZ.sx (by assumption)))) ?_
  | refine se_ix (ES'.toEX (by (first | assumption | exact EZ.sx (by assumption)))) ?_ ?_ (by intro _ _; rfl)
  | refine se_sl (ES'.toEX (by (first | assumption | exact EZ.sx (by assumption)))) ?_ ?_ ?_ | exact so_none | refine so_some ?_
  | refine z_curF (by (first | assumption | exact EZ.sx (by assumption))) (by assumption) (by assumption) (by rfl) (by (first | exact Or.inl rfl | exact Or.inr (Or.inl rfl) | exact Or.inr (Or.inr rfl))) (by decide +kernel) (by rfl) (by rfl)
  | refine z_curI (by (first | assumption | exact EZ.sx (by assumption))) (by assumption) (by assumption) (by rfl) (by (first | exact Or.inl rfl | exact Or.inr (Or.inl rfl) | exact Or.inr (Or.inr rfl))) (by decide +kernel) (by rfl) (by decide +kernel) (by rfl) (by decide +kernel) (by rfl) (by rfl) (by decide +kernel)
  | refine z_curB (by (first | assumption | exact EZ.sx (by assumption))) (by assumption) (by assumption) (by rfl) (by (first | exact Or.inl rfl | exact Or.inr (Or.inl rfl) | exact Or.inr (Or.inr rfl))) (by decide +kernel) (by rfl) (by decide +kernel) (by rfl) (by decide +kernel) (by (first | rfl | decide +kernel)) (by decide +kernel) (by rfl) (by decide +kernel)
  | refine z_glb (by (first | assumption | exact EZ.sx (by assumption))) (by decide +kernel) (by rfl) (by decide +kernel)
  | refine z_call (by (first | assumption | exact EZ.blk (by assumption))) (by decide +kernel) (by decide +kernel) (by rfl) ?_
  | refine z_mkxK (by (first | assumption | exact EZ.blk (by assumption))) (by decide +kernel) (by rfl) (by rfl) (by decide +kernel) (by rfl) ?_
  | refine z_mkx (by (first | assumption | exact EZ.blk (by assumption))) (by decide +kernel) (by rfl) (by decide +kernel) (by rfl) ?_
  | refine z_isE (by (first | assumption | exact EZ.blk (by assumption))) (by rfl) (by decide +kernel) (by rfl) ?_ (by decide +kernel) (by rfl) (by rfl) (by decide +kernel)
  | refine z_isX (by (first | assumption | exact EZ.blk (by assumption))) (by rfl) (by decide +kernel) (by rfl) ?_ (by decide +kernel) (by (first | rfl | decide +kernel)) (by decide +kernel) (by rfl) (by decide +kernel)
  | refine z_make (by (first | assumption | exact EZ.blk (by assumption))) (by decide +kernel) (by decide +kernel) (by rfl) ?_
  | refine z_lenSet (by (first | assumption | exact EZ.sx (by assumption))) (by rfl) (by rfl) (by rfl) (by decide +kernel) (by decide +kernel) (by rfl) (by rfl) ?_
  | refine z_biB (by (first | assumption | exact EZ.sx (by assumption))) (by (first | exact Or.inl rfl | exact Or.inr rfl)) (by decide) (by rfl) (by decide +kernel) (by rfl) (by (first | rfl | decide +kernel)) (by decide +kernel) ?_
  | refine z_biT (by (first | assumption | exact EZ.sx (by assumption))) (by (first | exact Or.inl rfl | exact Or.inr rfl)) (by decide) (by rfl) (by decide +kernel) (by rfl) (by (first | rfl | decide +kernel)) (by decide +kernel) ?_
  | refine z_isI (by (first | assumption | exact EZ.sx (by assumption))) (by rfl) (by decide +kernel) (by rfl) ?_ (by rfl) (by decide +kernel) (by (first | rfl | decide +kernel)) (by decide +kernel)
  | refine z_isI2 (by (first | assumption | exact EZ.sx (by assumption))) (by rfl) (by decide +kernel) (by rfl) ?_ (by rfl) (by decide +kernel) (by (first | rfl | decide +kernel)) (by decide +kernel) (by rfl) (by decide +kernel) (by (first | rfl | decide +kernel)) (by decide +kernel)
  | refine z_callv (by (first | assumption | exact EZ.blk (by assumption))) (by rfl) (by (first | exact Or.inl rfl | exact Or.inr (Or.inl rfl) | exact Or.inr (Or.inr rfl))) (by decide +kernel) ?_
  | refine z_clm (by (first | assumption | exact EZ.blk (by assumption))) (by decide +kernel) (by decide +kernel) (by rfl) (by rfl) ?_ (by rfl)
  | refine se_join (by rfl) (ES'.toEX (by (first | assumption | exact EZ.sx (by assumption)))) ?_ ?_ (by rfl) (by rfl) (by rfl)
  | refine se_count (by rfl) (ES'.toEX (by (first | assumption | exact EZ.sx (by assumption)))) ?_ ?_ (by rfl) (by rfl) (by rfl)
  | refine se_append (by rfl) (ES'.toEX (by (first | assumption | exact EZ.sx (by assumption)))) ?_ ?_ (by rfl) (by rfl) (by rfl)
  | refine se_index (by rfl) (ES'.toEX (by (first | assumption | exact EZ.sx (by assumption)))) ?_ ?_ (by rfl) (by rfl) (by rfl)
  | refine se_att (EZ.toEY (by (first | assumption | exact EZ.blk (by assumption)))) (by rfl) ?_ (by rfl)
  | exact se_dct0 (ES'.toEX (by (first | assumption | exact EZ.sx (by assumption))))
  | exact se_dct (ES'.toEX (by (first | assumption | exact EZ.sx (by assumption)))) (.cons pe_int pe_int (by intro a z; cases z) .nil) (by rfl) (by rfl) (by intro z; cases z) (by decide) (by decide)
  | refine z_lc (by (first | assumption | exact EZ.blk (by assumption))) ?_ (by rfl) (fun s H C cl fp q => ?_) (fun s H C cl fp q => ?_) (fun s H C cl fp q => ?_) (by intro _; rfl) (by (intro j hj; simpa [slT, slTs] using hj))
  | exact sc_none | refine sc_one ?_
  | exact z_sgn (EZ.nd (by (first | assumption | exact EZ.blk (by assumption)))) (by rfl) (by (first | exact Or.inl rfl | exact Or.inr rfl)) (by (first | exact Or.inl rfl | exact Or.inr rfl))
  | refine z_sgt (EX.K (EY.toEX (EZ.toEY (by (first | assumption | exact EZ.blk (by assumption)))))) (EY.cm (EZ.toEY (by (first | assumption | exact EZ.blk (by assumption))))) ?_ (by rfl) (by rfl)
  | exact z_sgs0 | refine z_sgs ?_ ?_ (by rfl)
  | refine z_rng1 (by (first | assumption | exact EZ.sx (by assumption))) (by rfl) (by decide +kernel) (by rfl) ?_
  | refine z_enum (by (first | assumption | exact EZ.sx (by assumption))) (by rfl) (by decide +kernel) (by rfl) ?_
  | refine si_ev (EX.K (ES'.toEX (by (first | assumption | exact EZ.sx (by assumption))))) ?_
  | refine ss_ret ?_ | exact ss_retN
  | refine ss_if ?_ ?_ ?_
  | refine z_asg (by (first | assumption | exact EZ.sx (by assumption))) (by rfl) (by (first | exact Or.inl rfl | exact Or.inr rfl)) (by (first | exact Or.inl rfl | exact Or.inr rfl)) ?_ (by rfl) (by (first | (intro _ _ _ _ z; cases z; done) | (intro _ _ _ _ z; cases z; simp [slT, slTs])))
  | refine z_par (by (first | assumption | exact EZ.blk (by assumption))) (by rfl) (by rfl) (by decide) (by rfl) (by rfl) ?_ (by rfl) (by rfl) (by (first | (intro _ _ _ _ z; cases z; done) | (intro _ _ _ _ z; cases z; simp [slT, slTs])))
  | refine z_asgS (by (first | assumption | exact EZ.blk (by assumption))) ?_ ?_ ?_ (by intro _; rfl) (by rfl) (by rfl) (by rfl)
  | refine z_fld (by (first | assumption | exact EZ.blk (by assumption))) (by rfl) ?_ ?_ (by rfl)
  | refine ss_expr ?_ (by rfl)
  | refine z_for (by (first | assumption | exact EZ.blk (by assumption))) (by first | assumption | exact passes_of rfl) ?_ ?_ ?_ (by intro _; rfl) (by (first | (intro _ _ _ _ z; cases z; done) | (intro _ _ _ _ z; cases z; simp [slT, slTs])))
  | refine z_raise (by (first | assumption | exact EZ.blk (by assumption))) (by decide +kernel) (by rfl) (by decide +kernel) (by rfl) ?_
  | refine z_try (by (first | assumption | exact EZ.blk (by assumption))) (by rfl) (by rfl) (by rfl) (by rfl) (by decide +kernel) (by rfl) (by decide +kernel) (by rfl) (fun W' pn xe q hp => ?_) (fun a oe cls d pn hz hf q => ?_)
  | exact ss_pass | exact ss_brk | exact ss_cnt)
end K63
end
section
set_option Elab.async false
set_option linter.all false
set_option maxRecDepth 100000
set_option maxHeartbeats 2000000
namespace K63
open PySem L2 MP
theorem b22 {P : Program} {w : World} {Kf : PySem.W.Frag} {mg : Str → Option Value} {base : Heap} {cls : Nat → Addr} {pre : List Addr} {adr : Nat → Addr} {k : Nat} {a : Addr} {cdv : Value} {A : Around} {outer : List Env} {s : Shared} {H : Hp} {E : XK}
    (q : EZ k (cxOf (L2.CX P w) P w Kf mg base n22 "_law_raised" (defScope s22) a cdv A outer s H E) (dk (GG Kf cls pre) Γ0 nm0 T 0 k) (fun c d _ H' => E c d H') LL adr) :
    PSs (cxOf (L2.CX P w) P w Kf mg base n22 "_law_raised" (defScope s22) a cdv A outer s H E) (defBody s22) (tB (dk (GG Kf cls pre) Γ0 nm0 T 0 k) 0 (fun c d _ H' => E c d H') none f22.body) := by
  repeat' (first
  | exact sb_nil | refine sb_cons ?_ ?_
  | exact sa_nil | refine sa_cons ?_ ?_
  | exact z_var (by (first | assumption | exact EZ.sx (by assumption))) (by rfl) (by (first | exact Or.inl rfl | exact Or.inr (Or.inl rfl) | exact Or.inr (Or.inr rfl))) (by decide +kernel)
  | exact z_int (by (first | assumption | exact EZ.sx (by assumption))) | exact z_str (by (first | assumption | exact EZ.sx (by assumption))) | exact z_bl (by (first | assumption | exact EZ.sx (by assumption))) | exact z_non (by (first | assumption | exact EZ.sx (by assumption)))
  | refine z_bin (by (first | assumption | exact EZ.sx (by assumption))) ?_ ?_
  | refine z_neg (by (first | assumption | exact EZ.sx (by assumption))) ?_
  | refine z_cmp (by (first | assumption | exact EZ.sx (by assumption))) ?_ ?_ (by rfl)
  | refine z_cmp2 (by (first | assumption | exact EZ.sx (by assumption))) ?_ ?_ ?_ (by rfl)
  | refine se_and ?_ ?_ | refine se_or ?_ ?_ | refine se_not ?_ | refine se_one ?_
  | refine SE.val (t := true) (se_and ?_ ?_)
  | refine se_ife ?_ ?_ ?_
  | refine se_lst (ES'.toEX (by (first | assumption | exact EZ.sx (by assumption)))) ?_ | refine se_tup (ES'.toEX (by (first | assumption | exact EZ.sx (by assumption)))) ?_
  | refine se_ix (ES'.toEX (by (first | assumption | exact EZ.sx (by assumption)))) ?_ ?_ (by intro _ _; rfl)
  | refine se_sl (ES'.toEX (by (first | assumption | exact EZ.sx (by assumption)))) ?_ ?_ ?_ | exact so_none | refine so_some ?_
  | refine z_curF (by (first | assumption | exact EZ.sx (by assumption))) (by assumption) (by assumption) (by rfl) (by (first | exact Or.inl rfl | exact Or.inr (Or.inl rfl) | exact Or.inr (Or.inr rfl))) (by decide +kernel) (by rfl) (by rfl)
  | refine z_curI (by (first | assumption | exact EZ.sx (by assumption))) (by assumption) (by assumption) (by rfl) (by (first | exact Or.inl rfl | exact Or.inr (Or.inl rfl) | exact Or.inr (Or.inr rfl))) (by decide +kernel) (by rfl) (by decide +kernel) (by rfl) (by decide +kernel) (by rfl) (by rfl) (by decide +kernel)
  | refine z_curB (by (first | assumption | exact EZ.sx (by assumption))) (by assumption) (by assumption) (by rfl) (by (first | exact Or.inl rfl | exact Or.inr (Or.inl rfl) | exact Or.inr (Or.inr rfl))) (by decide +kernel) (by rfl) (by decide +kernel) (by rfl) (by decide +kernel) (by (first | rfl | decide +kernel)) (by decide +kernel) (by rfl) (by decide +kernel)
  | refine z_glb (by (first | assumption | exact EZ.sx (by assumption))) (by decide +kernel) (by rfl) (by decide +kernel)
  | refine z_call (by (first | assumption | exact EZ.blk (by assumption))) (by decide +kernel) (by decide +kernel) (by rfl) ?_
  | refine z_mkxK (by (first | assumption | exact EZ.blk (by assumption))) (by decide +kernel) (by rfl) (by rfl) (by decide +kernel) (by rfl) ?_
  | refine z_mkx (by (first | assumption | exact EZ.blk (by assumption))) (by decide +kernel) (by rfl) (by decide +kernel) (by rfl) ?_
  | refine z_isE (by (first | assumption | exact EZ.blk (by assumption))) (by rfl) (by decide +kernel) (by rfl) ?_ (by decide +kernel) (by rfl) (by rfl) (by decide +kernel)
  | refine z_isX (by (first | assumption | exact EZ.blk (by assumption))) (by rfl) (by decide +kernel) (by rfl) ?_ (by decide +kernel) (by (first | rfl | decide +kernel)) (by decide +kernel) (by rfl) (by decide +kernel)
  | refine z_make (by (first | assumption | exact EZ.blk (by assumption))) (by decide +kernel) (by decide +kernel) (by rfl) ?_
  | refine z_lenSet (by (first | assumption | exact EZ.sx (by assumption))) (by rfl) (by rfl) (by rfl) (by decide +kernel) (by decide +kernel) (by rfl) (by rfl) ?_
  | refine z_biB (by (first | assumption | exact EZ.sx (by assumption))) (by (first | exact Or.inl rfl | exact Or.inr rfl)) (by decide) (by rfl) (by decide +kernel) (by rfl) (by (first | rfl | decide +kernel)) (by decide +kernel) ?_
  | refine z_biT (by (first | assumption | exact EZ.sx (by assumption))) (by (first | exact Or.inl rfl | exact Or.inr rfl)) (by decide) (by rfl) (by decide +kernel) (by rfl) (by (first | rfl | decide +kernel)) (by decide +kernel) ?_
  | refine z_isI (by (first | assumption | exact EZ.sx (by assumption))) (by rfl) (by decide +kernel) (by rfl) ?_ (by rfl) (by decide +kernel) (by (first | rfl | decide +kernel)) (by decide +kernel)
  | refine z_isI2 (by (first | assumption | exact EZ.sx (by assumption))) (by rfl) (by decide +kernel) (by rfl) ?_ (by rfl) (by decide +kernel) (by (first | rfl | decide +kernel)) (by decide +kernel) (by rfl) (by decide +kernel) (by (first | rfl | decide +kernel)) (by decide +kernel)
  | refine z_callv (by (first | assumption | exact EZ.blk (by assumption))) (by rfl) (by (first | exact Or.inl rfl | exact Or.inr (Or.inl rfl) | exact Or.inr (Or.inr rfl))) (by decide +kernel) ?_
  | refine z_clm (by (first | assumption | exact EZ.blk (by assumption))) (by decide +kernel) (by decide +kernel) (by rfl) (by rfl) ?_ (by rfl)
  | refine se_join (by rfl) (ES'.toEX (by (first | assumption | exact EZ.sx (by assumption)))) ?_ ?_ (by rfl) (by rfl) (by rfl)
  | refine se_count (by rfl) (ES'.toEX (by (first | assumption | exact EZ.sx (by assumption)))) ?_ ?_ (by rfl) (by rfl) (by rfl)
  | refine se_append (by rfl) (ES'.toEX (by (first | assumption | exact EZ.sx (by assumption)))) ?_ ?_ (by rfl) (by rfl) (by rfl)
  | refine se_index (by rfl) (ES'.toEX (by (first | assumption | exact EZ.sx (by assumption)))) ?_ ?_ (by rfl) (by rfl) (by rfl)
  | refine se_att (EZ.toEY (by (first | assumption | exact EZ.blk (by assumption)))) (by rfl) ?_ (by rfl)
  | exact se_dct0 (ES'.toEX (by (first | assumption | exact EZ.sx (by assumption))))
  | exact se_dct (ES'.toEX (by (first | assumption | exact EZ.sx (by assumption)))) (.cons pe_int pe_int (by intro a z; cases z) .nil) (by rfl) (by rfl) (by intro z; cases z) (by decide) (by decide)
  | refine z_lc (by (first | assumption | exact EZ.blk (by assumption))) ?_ (by rfl) (fun s H C cl fp q => ?_) (fun s H C cl fp q => ?_) (fun s H C cl fp q => ?_) (by intro _; rfl) (by (intro j hj; simpa [slT, slTs] using hj))
  | exact sc_none | refine sc_one ?_
  | exact z_sgn (EZ.nd (by (first | assumption | exact EZ.blk (by assumption)))) (by rfl) (by (first | exact Or.inl rfl | exact Or.inr rfl)) (by (first | exact Or.inl rfl | exact Or.inr rfl))
  | refine z_sgt (EX.K (EY.toEX (EZ.toEY (by (first | assumption | exact EZ.blk (by assumption)))))) (EY.cm (EZ.toEY (by (first | assumption | exact EZ.blk (by assumption))))) ?_ (by rfl) (by rfl)
  | exact z_sgs0 | refine z_sgs ?_ ?_ (by rfl)
  | refine z_rng1 (by (first | assumption | exact EZ.sx (by assumption))) (by rfl) (by decide +kernel) (by rfl) ?_
  | refine z_enum (by (first | assumption | exact EZ.sx (by assumption))) (by rfl) (by decide +kernel) (by rfl) ?_
  | refine si_ev (EX.K (ES'.toEX (by (first | assumption | exact EZ.sx (by assumption))))) ?_
  | refine ss_ret ?_ | exact ss_retN
  | refine ss_if ?_ ?_ ?_
  | refine z_asg (by (first | assumption | exact EZ.sx (by assumption))) (by rfl) (by (first | exact Or.inl rfl | exact Or.inr rfl)) (by (first | exact Or.inl rfl | exact Or.inr rfl)) ?_ (by rfl) (by (first | (intro _ _ _ _ z; cases z; done) | (intro _ _ _ _ z; cases z; simp [slT, slTs])))
  | refine z_par (by (first | assumption | exact EZ.blk (by assumption))) (by rfl) (by rfl) (by decide) (by rfl) (by rfl) ?_ (by rfl) (by rfl) (by (first | (intro _ _ _ _ z; cases z; done) | (intro _ _ _ _ z; cases z; simp [slT, slTs])))
  | refine z_asgS (by (first | assumption | exact EZ.blk (by assumption))) ?_ ?_ ?_ (by intro _; rfl) (by rfl) (by rfl) (by rfl)
  | refine z_fld (by (first | assumption | exact EZ.blk (by assumption))) (by rfl) ?_ ?_ (by rfl)
  | refine ss_expr ?_ (by rfl)
  | refine z_for (by (first | assumption | exact EZ.blk (by assumption))) (by first | assumption | exact passes_of rfl) ?_ ?_ ?_ (by intro _; rfl) (by (first | (intro _ _ _ _ z; cases z; done) | (intro _ _ _ _ z; cases z; simp [slT, slTs])))
  | refine z_raise (by (first | assumption | exact EZ.blk (by assumption))) (by decide +kernel) (by rfl) (by decide +kernel) (by rfl) ?_
  | refine z_try (by (first | assumption | exact EZ.blk (by assumption))) (by rfl) (by rfl) (by rfl) (by rfl) (by decide +kernel) (by rfl) (by decide +kernel) (by rfl) (fun W' pn xe q hp => ?_) (fun a oe cls d pn hz hf q => ?_)
  | exact ss_pass | exact ss_brk | exact ss_cnt)
end K63
end
section
set_option Elab.async false
set_option linter.all false
set_option maxRecDepth 100000
set_option maxHeartbeats 2000000
namespace K63
open PySem L2 MP
theorem b23 {P : Program} {w : World} {Kf : PySem.W.Frag} {mg : Str → Option Value} {base : Heap} {cls : Nat → Addr} {pre : List Addr} {adr : Nat → Addr} {k : Nat} {a : Addr} {cdv : Value} {A : Around} {outer : List Env} {s : Shared} {H : Hp} {E : XK}
    (q : EZ k (cxOf (L2.CX P w) P w Kf mg base n23 "law" (defScope s23) a cdv A outer s H E) (dk (GG Kf cls pre) Γ0 nm0 T 0 k) (fun c d _ H' => E c d H') LL adr) :
    PSs (cxOf (L2.CX P w) P w Kf mg base n23 "law" (defScope s23) a cdv A outer s H E) (defBody s23) (tB (dk (GG Kf cls pre) Γ0 nm0 T 0 k) 0 (fun c d _ H' => E c d H') none f23.body) := by
  repeat' (first
  | exact sb_nil | refine sb_cons ?_ ?_
  | exact sa_nil | refine sa_cons ?_ ?_
  | exact z_var (by (first | assumption | exact EZ.sx (by assumption))) (by rfl) (by (first | exact Or.inl rfl | exact Or.inr (Or.inl rfl) | exact Or.inr (Or.inr rfl))) (by decide +kernel)
  | exact z_int (by (first | assumption | exact EZ.sx (by assumption))) | exact z_str (by (first | assumption | exact EZ.sx (by assumption))) | exact z_bl (by (first | assumption | exact EZ.sx (by assumption))) | exact z_non (by (first | assumption | exact EZ.sx (by assumption)))
  | refine z_bin (by (first | assumption | exact EZ.sx (by assumption))) ?_ ?_
  | refine z_neg (by (first | assumption | exact EZ.sx (by assumption))) ?_
  | refine z_cmp (by (first | assumption | exact EZ.sx (by assumption))) ?_ ?_ (by rfl)
  | refine z_cmp2 (by (first | assumption | exact EZ.sx (by assumption))) ?_ ?_ ?_ (by rfl)
  | refine se_and ?_ ?_ | refine se_or ?_ ?_ | refine se_not ?_ | refine se_one ?_
  | refine SE.val (t := true) (se_and ?_ ?_)
  | refine se_ife ?_ ?_ ?_
  | refine se_lst (ES'.toEX (by (first | assumption | exact EZ.sx (by assumption)))) ?_ | refine se_tup (ES'.toEX (by (first | assumption | exact EZ.sx (by assumption)))) ?_
  | refine se_ix (ES'.toEX (by (first | assumption | exact EZ.sx (by assumption)))) ?_ ?_ (by intro _ _; rfl)
  | refine se_sl (ES'.toEX (by (first | assumption | exact EZ.sx (by assumption)))) ?_ ?_ ?_ | exact so_none | refine so_some ?_
  | refine z_curF (by (first | assumption | exact EZ.sx (by assumption))) (by assumption) (by assumption) (by rfl) (by (first | exact Or.inl rfl | exact Or.inr (Or.inl rfl) | exact Or.inr (Or.inr rfl))) (by decide +kernel) (by rfl) (by rfl)
  | refine z_curI (by (first | assumption | exact EZ.sx (by assumption))) (by assumption) (by assumption) (by rfl) (by (first | exact Or.inl rfl | exact Or.inr (Or.inl rfl) | exact Or.inr (Or.inr rfl))) (by decide +kernel) (by rfl) (by decide +kernel) (by rfl) (by decide +kernel) (by rfl) (by rfl) (by decide +kernel)
  | refine z_curB (by (first | assumption | exact EZ.sx (by assumption))) (by assumption) (by assumption) (by rfl) (by (first | exact Or.inl rfl | exact Or.inr (Or.inl rfl) | exact Or.inr (Or.inr rfl))) (by decide +kernel) (by rfl) (by decide +kernel) (by rfl) (by decide +kernel) (by (first | rfl | decide +kernel)) (by decide +kernel) (by rfl) (by decide +kernel)
  | refine z_glb (by (first | assumption | exact EZ.sx (by assumption))) (by decide +kernel) (by rfl) (by decide +kernel)
  | refine z_call (by (first | assumption | exact EZ.blk (by assumption))) (by decide +kernel) (by decide +kernel) (by rfl) ?_
  | refine z_mkxK (by (first | assumption | exact EZ.blk (by assumption))) (by decide +kernel) (by rfl) (by rfl) (by decide +kernel) (by rfl) ?_
  | refine z_mkx (by (first | assumption | exact EZ.blk (by assumption))) (by decide +kernel) (by rfl) (by decide +kernel) (by rfl) ?_
  | refine z_isE (by (first | assumption | exact EZ.blk (by assumption))) (by rfl) (by decide +kernel) (by rfl) ?_ (by decide +kernel) (by rfl) (by rfl) (by decide +kernel)
  | refine z_isX (by (first | assumption | exact EZ.blk (by assumption))) (by rfl) (by decide +kernel) (by rfl) ?_ (by decide +kernel) (by (first | rfl | decide +kernel)) (by decide +kernel) (by rfl) (by decide +kernel)
  | refine z_make (by (first | assumption | exact EZ.blk (by assumption))) (by decide +kernel) (by decide +kernel) (by rfl) ?_
  | refine z_lenSet (by (first | assumption | exact EZ.sx (by assumption))) (by rfl) (by rfl) (by rfl) (by decide +kernel) (by decide +kernel) (by rfl) (by rfl) ?_
  | refine z_biB (by (first | assumption | exact EZ.sx (by assumption))) (by (first | exact Or.inl rfl | exact Or.inr rfl)) (by decide) (by rfl) (by decide +kernel) (by rfl) (by (first | rfl | decide +kernel)) (by decide +kernel) ?_
  | refine z_biT (by (first | assumption | exact EZ.sx (by assumption))) (by (first | exact Or.inl rfl | exact Or.inr rfl)) (by decide) (by rfl) (by decide +kernel) (by rfl) (by (first | rfl | decide +kernel)) (by decide +kernel) ?_
  | refine z_isI (by (first | assumption | exact EZ.sx (by assumption))) (by rfl) (by decide +kernel) (by rfl) ?_ (by rfl) (by decide +kernel) (by (first | rfl | decide +kernel)) (by decide +kernel)
  | refine z_isI2 (by (first | assumption | exact EZ.sx (by assumption))) (by rfl) (by decide +kernel) (by rfl) ?_ (by rfl) (by decide +kernel) (by (first | rfl | decide +kernel)) (by decide +kernel) (by rfl) (by decide +kernel) (by (first | rfl | decide +kernel)) (by decide +kernel)
  | refine z_callv (by (first | assumption | exact EZ.blk (by assumption))) (by rfl) (by (first | exact Or.inl rfl | exact Or.inr (Or.inl rfl) | exact Or.inr (Or.inr rfl))) (by decide +kernel) ?_
  | refine z_clm (by (first | assumption | exact EZ.blk (by assumption))) (by decide +kernel) (by decide +kernel) (by rfl) (by rfl) ?_ (by rfl)
  | refine se_join (by rfl) (ES'.toEX (by (first | assumption | exact EZ.sx (by assumption)))) ?_ ?_ (by rfl) (by rfl) (by rfl)
  | refine se_count (by rfl) (ES'.toEX (by (first | assumption | exact EZ.sx (by assumption)))) ?_ ?_ (by rfl) (by rfl) (by rfl)
  | refine se_append (by rfl) (ES'.toEX (by (first | assumption | exact EZ.sx (by assumption)))) ?_ ?_ (by rfl) (by rfl) (by rfl)
  | refine se_index (by rfl) (ES'.toEX (by (first | assumption | exact EZ.sx (by assumption)))) ?_ ?_ (by rfl) (by rfl) (by rfl)
  | refine se_att (EZ.toEY (by (first | assumption | exact EZ.blk (by assumption)))) (by rfl) ?_ (by rfl)
  | exact se_dct0 (ES'.toEX (by (first | assumption | exact EZ.sx (by assumption))))
  | exact se_dct (ES'.toEX (by (first | assumption | exact EZ.sx (by assumption)))) (.cons pe_int pe_int (by intro a z; cases z) .nil) (by rfl) (by rfl) (by intro z; cases z) (by decide) (by decide)
  | refine z_lc (by (first | assumption | exact EZ.blk (by assumption))) ?_ (by rfl) (fun s H C cl fp q => ?_) (fun s H C cl fp q => ?_) (fun s H C cl fp q => ?_) (by intro _; rfl) (by (intro j hj; simpa [slT, slTs] using hj))
  | exact sc_none | refine sc_one ?_
  | exact z_sgn (EZ.nd (by (first | assumption | exact EZ.blk (by assumption)))) (by rfl) (by (first | exact Or.inl rfl | exact Or.inr rfl)) (by (first | exact Or.inl rfl | exact Or.inr rfl))
  | refine z_sgt (EX.K (EY.toEX (EZ.toEY (by (first | assumption | exact EZ.blk (by assumption)))))) (EY.cm (EZ.toEY (by (first | assumption | exact EZ.blk (by assumption))))) ?_ (by rfl) (by rfl)
  | exact z_sgs0 | refine z_sgs ?_ ?_ (by rfl)
  | refine z_rng1 (by (first | assumption | exact EZ.sx (by assumption))) (by rfl) (by decide +kernel) (by rfl) ?_
  | refine z_enum (by (first | assumption | exact EZ.sx (by assumption))) (by rfl) (by decide +kernel) (by rfl) ?_
  | refine si_ev (EX.K (ES'.toEX (by (first | assumption | exact EZ.sx (by assumption))))) ?_
  | refine ss_ret ?_ | exact ss_retN
  | refine ss_if ?_ ?_ ?_
  | refine z_asg (by (first | assumption | exact EZ.sx (by assumption))) (by rfl) (by (first | exact Or.inl rfl | exact Or.inr rfl)) (by (first | exact Or.inl rfl | exact Or.inr rfl)) ?_ (by rfl) (by (first | (intro _ _ _ _ z; cases z; done) | (intro _ _ _ _ z; cases z; simp [slT, slTs])))
  | refine z_par (by (first | assumption | exact EZ.blk (by assumption))) (by rfl) (by rfl) (by decide) (by rfl) (by rfl) ?_ (by rfl) (by rfl) (by (first | (intro _ _ _ _ z; cases z; done) | (intro _ _ _ _ z; cases z; simp [slT, slTs])))
  | refine z_asgS (by (first | assumption | exact EZ.blk (by assumption))) ?_ ?_ ?_ (by intro _; rfl) (by rfl) (by rfl) (by rfl)
  | refine z_fld (by (first | assumption | exact EZ.blk (by assumption))) (by rfl) ?_ ?_ (by rfl)
  | refine ss_expr ?_ (by rfl)
  | refine z_for (by (first | assumption | exact EZ.blk (by assumption))) (by first | assumption | exact passes_of rfl) ?_ ?_ ?_ (by intro _; rfl) (by (first | (intro _ _ _ _ z; cases z; done) | (intro _ _ _ _ z; cases z; simp [slT, slTs])))
  | refine z_raise (by (first | assumption | exact EZ.blk (by assumption))) (by decide +kernel) (by rfl) (by decide +kernel) (by rfl) ?_
  | refine z_try (by (first | assumption | exact EZ.blk (by assumption))) (by rfl) (by rfl) (by rfl) (by rfl) (by decide +kernel) (by rfl) (by decide +kernel) (by rfl) (fun W' pn xe q hp => ?_) (fun a oe cls d pn hz hf q => ?_)
  | exact ss_pass | exact ss_brk | exact ss_cnt)
end K63
end
section
set_option Elab.async false
set_option linter.all false
set_option maxRecDepth 100000
set_option maxHeartbeats 4000000
namespace K63
open PySem L2 MP PySem.MPX
structure XX (K : PySem.W.Frag) (qual fN : Str) (C : Addr) : Prop where
  xt : ∃ fI, XT K qual fN C fI
  ec : ExcC K C
  no : PySem.W.findIn K (.ref C) fN = some none
  kp : PySem.W.keepIn K (.ref C) = true
def gXm (K : PySem.W.Frag) (cs : List Addr) : Bool := (List.range 16).all fun a => (List.range 16).all fun b => a == 0 || PySem.W.exmOne K (.ref (cs.getD a 0)) (.ref (cs.getD b 0)) == some (Γ0.sub a b)
def gXk (K : PySem.W.Frag) (cs : List Addr) : Bool := (List.range 16).all fun a => (List.range 16).all fun b => a == 0 || PySem.W.kitOne K (.ref (cs.getD a 0)) (.ref (cs.getD b 0)) == some (Γ0.sub a b)
def gXb (K : PySem.W.Frag) (cs : List Addr) : Bool := (List.range 16).all fun a => (List.range 4).all fun b => a == 0 || PySem.W.kitOne K (.ref (cs.getD a 0)) (.type (["ValueError", "OverflowError", "KeyError", "RuntimeError"].getD b "")) == some (Γ0.subB a b)
theorem grid {n m : Nat} {f : Nat → Nat → Option Bool} {g : Nat → Nat → Bool} (h : ((List.range n).all fun a => (List.range m).all fun b => a == 0 || f a b == some (g a b)) = true) {a b : Nat} (ha : a < n) (hb : b < m) (h0 : a ≠ 0) : f a b = some (g a b) := by
  have h1 := List.all_eq_true.mp h a (List.mem_range.mpr ha)
  have h2 := List.all_eq_true.mp h1 b (List.mem_range.mpr hb)
  rcases (Bool.or_eq_true _ _).mp h2 with h3 | h3
  · exact absurd (beq_iff_eq.mp h3) h0
  · exact beq_iff_eq.mp h3
theorem pass_ring : ∀ self, refuseLoop self "__setattr__" [.type "Exception", .type "BaseException", .type "object"] = pure () := fun self => by first | rfl | kernel_rfl
theorem xx_ring {K : PySem.W.Frag} {qual fN nm q : Str} {C0 C fI N : Addr} {bs sub : List Value} {sn : List Str} {ab : Bool} {col : Option Bool} {dd xod xan : Option Addr} {ka kb kc kd ke : Option Value} {xoc xdc xpm xcd xct : Value} {xsl : Array (Option Value)} {pa pb qa qb qc qd : Pos}
    (fOk : fN ∈ fNs) (lk : K.lookup C = some (PySem.excClassObj nm q C N bs (.ref C0 :: [.type "Exception", .type "BaseException", .type "object"]) true sn sub ab col dd ka kb kc kd ke "Exception.__new__"))
    (sa : PySem.W.findIn K (.ref C) "__setattr__" = some (some (.builtin "object.__setattr__"))) (no : PySem.W.findIn K (.ref C) fN = some none) (ini : PySem.W.findIn K (.ref C) "__init__" = some (some (.ref fI)))
    (ty : PySem.W.typeIn K (.ref fI) = some (.type "function")) (kp : PySem.W.keepIn K (.ref C) = true)
    (fn : K.lookup fI = some ⟨xoc, xod, .func (PySem.W.fnOf "__init__" qual (PySem.MPX.vA fN pa pb) (PySem.MPX.vB fN qa qb qc qd) (PySem.MPX.vS fN) .none .none xdc xpm xan xcd xct), xsl⟩) (cd : PySem.W.codeIn K xcd qual = true)
    (ga : PySem.W.findIn K (.ref C) "__getattribute__" = some (some (.builtin "BaseException.__getattribute__"))) (gg : PySem.W.findIn K (.ref C) "__getattr__" = some none)
    (cl : PySem.W.findIn K (.ref C) "__class__" = some (some (.builtin "object.__class__"))) (mr : PySem.W.mroIn K C (.type "object") = some true)
    (oc1 : PySem.W.specialIn K (.builtin "object.__class__") "__get__" = some (some (.builtin "getset_descriptor.__get__"))) (oc2 : PySem.W.takesIn K (.builtin "object.__class__") = some true)
    (yb : PySem.W.subIn K (.ref C) (.type "BaseException") = some true) (yt : PySem.W.typeIn K (.ref C) = some (.type "type")) (yd : PySem.W.hasDictIn K C = true) : XX K qual fN C :=
  have hT : refsT [.type "Exception", .type "BaseException", .type "object"] (.ref C0 :: [.type "Exception", .type "BaseException", .type "object"]) = true := rfl
  ⟨⟨fI, fOk, ⟨"Exception", _, _, _, _, _, _, _, _, _, _, _, _, _, _, _, _, ⟨⟨_, _, F.excBase_Exception⟩, (refsT_has _ _ hT).trans (by decide +kernel), (refsT_has _ _ hT).trans (by decide +kernel), (refsT_has _ _ hT).trans (by decide +kernel)⟩, lk, (refsT_has _ _ hT).trans (by decide +kernel), fun self => refsT_pass pass_ring self _ hT⟩,
    sa, no, ini, ty, kp, yb, yt, ⟨_, _, _, _, _, _, _, _, _, _, _, _, _, _, fn, cd⟩⟩, ⟨ga, gg, yb, yd, cl, oc1, oc2, mr⟩, no, kp⟩
theorem pass_val : ∀ self, refuseLoop self "__setattr__" [.type "ValueError", .type "Exception", .type "BaseException", .type "object"] = pure () := fun self => by first | rfl | kernel_rfl
theorem xx_val {K : PySem.W.Frag} {qual fN nm q : Str} {C fI N : Addr} {bs sub : List Value} {sn : List Str} {ab : Bool} {col : Option Bool} {dd xod xan : Option Addr} {ka kb kc kd ke : Option Value} {xoc xdc xpm xcd xct : Value} {xsl : Array (Option Value)} {pa pb qa qb qc qd : Pos}
    (fOk : fN ∈ fNs) (lk : K.lookup C = some (PySem.excClassObj nm q C N bs ([.type "ValueError", .type "Exception", .type "BaseException", .type "object"]) true sn sub ab col dd ka kb kc kd ke "ValueError.__new__"))
    (sa : PySem.W.findIn K (.ref C) "__setattr__" = some (some (.builtin "object.__setattr__"))) (no : PySem.W.findIn K (.ref C) fN = some none) (ini : PySem.W.findIn K (.ref C) "__init__" = some (some (.ref fI)))
    (ty : PySem.W.typeIn K (.ref fI) = some (.type "function")) (kp : PySem.W.keepIn K (.ref C) = true)
    (fn : K.lookup fI = some ⟨xoc, xod, .func (PySem.W.fnOf "__init__" qual (PySem.MPX.vA fN pa pb) (PySem.MPX.vB fN qa qb qc qd) (PySem.MPX.vS fN) .none .none xdc xpm xan xcd xct), xsl⟩) (cd : PySem.W.codeIn K xcd qual = true)
    (ga : PySem.W.findIn K (.ref C) "__getattribute__" = some (some (.builtin "BaseException.__getattribute__"))) (gg : PySem.W.findIn K (.ref C) "__getattr__" = some none)
    (cl : PySem.W.findIn K (.ref C) "__class__" = some (some (.builtin "object.__class__"))) (mr : PySem.W.mroIn K C (.type "object") = some true)
    (oc1 : PySem.W.specialIn K (.builtin "object.__class__") "__get__" = some (some (.builtin "getset_descriptor.__get__"))) (oc2 : PySem.W.takesIn K (.builtin "object.__class__") = some true)
    (yb : PySem.W.subIn K (.ref C) (.type "BaseException") = some true) (yt : PySem.W.typeIn K (.ref C) = some (.type "type")) (yd : PySem.W.hasDictIn K C = true) : XX K qual fN C :=
  have hT : refsT [.type "ValueError", .type "Exception", .type "BaseException", .type "object"] ([.type "ValueError", .type "Exception", .type "BaseException", .type "object"]) = true := rfl
  ⟨⟨fI, fOk, ⟨"ValueError", _, _, _, _, _, _, _, _, _, _, _, _, _, _, _, _, ⟨⟨_, _, F.excBase_ValueError⟩, (refsT_has _ _ hT).trans (by decide +kernel), (refsT_has _ _ hT).trans (by decide +kernel), (refsT_has _ _ hT).trans (by decide +kernel)⟩, lk, (refsT_has _ _ hT).trans (by decide +kernel), fun self => refsT_pass pass_val self _ hT⟩,
    sa, no, ini, ty, kp, yb, yt, ⟨_, _, _, _, _, _, _, _, _, _, _, _, _, _, fn, cd⟩⟩, ⟨ga, gg, yb, yd, cl, oc1, oc2, mr⟩, no, kp⟩
theorem pass_ovf : ∀ self, refuseLoop self "__setattr__" [.type "OverflowError", .type "ArithmeticError", .type "Exception", .type "BaseException", .type "object"] = pure () := fun self => by first | rfl | kernel_rfl
theorem xx_ovf {K : PySem.W.Frag} {qual fN nm q : Str} {C fI N : Addr} {bs sub : List Value} {sn : List Str} {ab : Bool} {col : Option Bool} {dd xod xan : Option Addr} {ka kb kc kd ke : Option Value} {xoc xdc xpm xcd xct : Value} {xsl : Array (Option Value)} {pa pb qa qb qc qd : Pos}
    (fOk : fN ∈ fNs) (lk : K.lookup C = some (PySem.excClassObj nm q C N bs ([.type "OverflowError", .type "ArithmeticError", .type "Exception", .type "BaseException", .type "object"]) true sn sub ab col dd ka kb kc kd ke "OverflowError.__new__"))
    (sa : PySem.W.findIn K (.ref C) "__setattr__" = some (some (.builtin "object.__setattr__"))) (no : PySem.W.findIn K (.ref C) fN = some none) (ini : PySem.W.findIn K (.ref C) "__init__" = some (some (.ref fI)))
    (ty : PySem.W.typeIn K (.ref fI) = some (.type "function")) (kp : PySem.W.keepIn K (.ref C) = true)
    (fn : K.lookup fI = some ⟨xoc, xod, .func (PySem.W.fnOf "__init__" qual (PySem.MPX.vA fN pa pb) (PySem.MPX.vB fN qa qb qc qd) (PySem.MPX.vS fN) .none .none xdc xpm xan xcd xct), xsl⟩) (cd : PySem.W.codeIn K xcd qual = true)
    (ga : PySem.W.findIn K (.ref C) "__getattribute__" = some (some (.builtin "BaseException.__getattribute__"))) (gg : PySem.W.findIn K (.ref C) "__getattr__" = some none)
    (cl : PySem.W.findIn K (.ref C) "__class__" = some (some (.builtin "object.__class__"))) (mr : PySem.W.mroIn K C (.type "object") = some true)
    (oc1 : PySem.W.specialIn K (.builtin "object.__class__") "__get__" = some (some (.builtin "getset_descriptor.__get__"))) (oc2 : PySem.W.takesIn K (.builtin "object.__class__") = some true)
    (yb : PySem.W.subIn K (.ref C) (.type "BaseException") = some true) (yt : PySem.W.typeIn K (.ref C) = some (.type "type")) (yd : PySem.W.hasDictIn K C = true) : XX K qual fN C :=
  have hT : refsT [.type "OverflowError", .type "ArithmeticError", .type "Exception", .type "BaseException", .type "object"] ([.type "OverflowError", .type "ArithmeticError", .type "Exception", .type "BaseException", .type "object"]) = true := rfl
  ⟨⟨fI, fOk, ⟨"OverflowError", _, _, _, _, _, _, _, _, _, _, _, _, _, _, _, _, ⟨⟨_, _, F.excBase_OverflowError⟩, (refsT_has _ _ hT).trans (by decide +kernel), (refsT_has _ _ hT).trans (by decide +kernel), (refsT_has _ _ hT).trans (by decide +kernel)⟩, lk, (refsT_has _ _ hT).trans (by decide +kernel), fun self => refsT_pass pass_ovf self _ hT⟩,
    sa, no, ini, ty, kp, yb, yt, ⟨_, _, _, _, _, _, _, _, _, _, _, _, _, _, fn, cd⟩⟩, ⟨ga, gg, yb, yd, cl, oc1, oc2, mr⟩, no, kp⟩
theorem pass_key : ∀ self, refuseLoop self "__setattr__" [.type "KeyError", .type "LookupError", .type "Exception", .type "BaseException", .type "object"] = pure () := fun self => by first | rfl | kernel_rfl
theorem xx_key {K : PySem.W.Frag} {qual fN nm q : Str} {C fI N : Addr} {bs sub : List Value} {sn : List Str} {ab : Bool} {col : Option Bool} {dd xod xan : Option Addr} {ka kb kc kd ke : Option Value} {xoc xdc xpm xcd xct : Value} {xsl : Array (Option Value)} {pa pb qa qb qc qd : Pos}
    (fOk : fN ∈ fNs) (lk : K.lookup C = some (PySem.excClassObj nm q C N bs ([.type "KeyError", .type "LookupError", .type "Exception", .type "BaseException", .type "object"]) true sn sub ab col dd ka kb kc kd ke "LookupError.__new__"))
    (sa : PySem.W.findIn K (.ref C) "__setattr__" = some (some (.builtin "object.__setattr__"))) (no : PySem.W.findIn K (.ref C) fN = some none) (ini : PySem.W.findIn K (.ref C) "__init__" = some (some (.ref fI)))
    (ty : PySem.W.typeIn K (.ref fI) = some (.type "function")) (kp : PySem.W.keepIn K (.ref C) = true)
    (fn : K.lookup fI = some ⟨xoc, xod, .func (PySem.W.fnOf "__init__" qual (PySem.MPX.vA fN pa pb) (PySem.MPX.vB fN qa qb qc qd) (PySem.MPX.vS fN) .none .none xdc xpm xan xcd xct), xsl⟩) (cd : PySem.W.codeIn K xcd qual = true)
    (ga : PySem.W.findIn K (.ref C) "__getattribute__" = some (some (.builtin "BaseException.__getattribute__"))) (gg : PySem.W.findIn K (.ref C) "__getattr__" = some none)
    (cl : PySem.W.findIn K (.ref C) "__class__" = some (some (.builtin "object.__class__"))) (mr : PySem.W.mroIn K C (.type "object") = some true)
    (oc1 : PySem.W.specialIn K (.builtin "object.__class__") "__get__" = some (some (.builtin "getset_descriptor.__get__"))) (oc2 : PySem.W.takesIn K (.builtin "object.__class__") = some true)
    (yb : PySem.W.subIn K (.ref C) (.type "BaseException") = some true) (yt : PySem.W.typeIn K (.ref C) = some (.type "type")) (yd : PySem.W.hasDictIn K C = true) : XX K qual fN C :=
  have hT : refsT [.type "KeyError", .type "LookupError", .type "Exception", .type "BaseException", .type "object"] ([.type "KeyError", .type "LookupError", .type "Exception", .type "BaseException", .type "object"]) = true := rfl
  ⟨⟨fI, fOk, ⟨"LookupError", _, _, _, _, _, _, _, _, _, _, _, _, _, _, _, _, ⟨⟨_, _, F.excBase_LookupError⟩, (refsT_has _ _ hT).trans (by decide +kernel), (refsT_has _ _ hT).trans (by decide +kernel), (refsT_has _ _ hT).trans (by decide +kernel)⟩, lk, (refsT_has _ _ hT).trans (by decide +kernel), fun self => refsT_pass pass_key self _ hT⟩,
    sa, no, ini, ty, kp, yb, yt, ⟨_, _, _, _, _, _, _, _, _, _, _, _, _, _, fn, cd⟩⟩, ⟨ga, gg, yb, yd, cl, oc1, oc2, mr⟩, no, kp⟩
theorem pass_run : ∀ self, refuseLoop self "__setattr__" [.type "RuntimeError", .type "Exception", .type "BaseException", .type "object"] = pure () := fun self => by first | rfl | kernel_rfl
theorem xx_run {K : PySem.W.Frag} {qual fN nm q : Str} {C fI N : Addr} {bs sub : List Value} {sn : List Str} {ab : Bool} {col : Option Bool} {dd xod xan : Option Addr} {ka kb kc kd ke : Option Value} {xoc xdc xpm xcd xct : Value} {xsl : Array (Option Value)} {pa pb qa qb qc qd : Pos}
    (fOk : fN ∈ fNs) (lk : K.lookup C = some (PySem.excClassObj nm q C N bs ([.type "RuntimeError", .type "Exception", .type "BaseException", .type "object"]) true sn sub ab col dd ka kb kc kd ke "RuntimeError.__new__"))
    (sa : PySem.W.findIn K (.ref C) "__setattr__" = some (some (.builtin "object.__setattr__"))) (no : PySem.W.findIn K (.ref C) fN = some none) (ini : PySem.W.findIn K (.ref C) "__init__" = some (some (.ref fI)))
    (ty : PySem.W.typeIn K (.ref fI) = some (.type "function")) (kp : PySem.W.keepIn K (.ref C) = true)
    (fn : K.lookup fI = some ⟨xoc, xod, .func (PySem.W.fnOf "__init__" qual (PySem.MPX.vA fN pa pb) (PySem.MPX.vB fN qa qb qc qd) (PySem.MPX.vS fN) .none .none xdc xpm xan xcd xct), xsl⟩) (cd : PySem.W.codeIn K xcd qual = true)
    (ga : PySem.W.findIn K (.ref C) "__getattribute__" = some (some (.builtin "BaseException.__getattribute__"))) (gg : PySem.W.findIn K (.ref C) "__getattr__" = some none)
    (cl : PySem.W.findIn K (.ref C) "__class__" = some (some (.builtin "object.__class__"))) (mr : PySem.W.mroIn K C (.type "object") = some true)
    (oc1 : PySem.W.specialIn K (.builtin "object.__class__") "__get__" = some (some (.builtin "getset_descriptor.__get__"))) (oc2 : PySem.W.takesIn K (.builtin "object.__class__") = some true)
    (yb : PySem.W.subIn K (.ref C) (.type "BaseException") = some true) (yt : PySem.W.typeIn K (.ref C) = some (.type "type")) (yd : PySem.W.hasDictIn K C = true) : XX K qual fN C :=
  have hT : refsT [.type "RuntimeError", .type "Exception", .type "BaseException", .type "object"] ([.type "RuntimeError", .type "Exception", .type "BaseException", .type "object"]) = true := rfl
  ⟨⟨fI, fOk, ⟨"RuntimeError", _, _, _, _, _, _, _, _, _, _, _, _, _, _, _, _, ⟨⟨_, _, F.excBase_RuntimeError⟩, (refsT_has _ _ hT).trans (by decide +kernel), (refsT_has _ _ hT).trans (by decide +kernel), (refsT_has _ _ hT).trans (by decide +kernel)⟩, lk, (refsT_has _ _ hT).trans (by decide +kernel), fun self => refsT_pass pass_run self _ hT⟩,
    sa, no, ini, ty, kp, yb, yt, ⟨_, _, _, _, _, _, _, _, _, _, _, _, _, _, fn, cd⟩⟩, ⟨ga, gg, yb, yd, cl, oc1, oc2, mr⟩, no, kp⟩
def okf (f : Nat) : Bool := [15, 16, 17, 18, 19, 20, 21, 22, 23].contains f
theorem all_mk {l : PySem.W.OpenLaw} {w : World} {K : PySem.W.Frag} {h : Heap} {mg : Str → Option Value} {fa : Addr} (X : K.In h) (Gn : h.Ns mainGlobals mg) (hfa : mg "law" = some (.ref fa)) {C0 C1 C2 C3 C4 C5 C6 C7 C8 C9 C10 C11 C12 C13 C14 C15 a15 a16 a17 a18 a19 a20 a21 a22 a23 : Addr} {od15 an15 od16 an16 od17 an17 od18 an18 od19 an19 od20 an20 od21 an21 od22 an22 od23 an23 : Option Addr} {oc15 kV15 dc15 pm15 cd15 ct15 oc16 kV16 dc16 pm16 cd16 ct16 oc17 kV17 dc17 pm17 cd17 ct17 oc18 kV18 dc18 pm18 cd18 ct18 oc19 kV19 dc19 pm19 cd19 ct19 oc20 kV20 dc20 pm20 cd20 ct20 oc21 kV21 dc21 pm21 cd21 ct21 oc22 kV22 dc22 pm22 cd22 ct22 oc23 kV23 dc23 pm23 cd23 ct23 : Value} {sl15 sl16 sl17 sl18 sl19 sl20 sl21 sl22 sl23 : Array (Option Value)}
    (h_gC0 : PySem.W.nsIn K mainGlobals "RingError" = some (some (.ref C0)))
    (h_gC1 : PySem.W.nsIn K mainGlobals "InvalidStatement" = some (some (.ref C1)))
    (h_gC2 : PySem.W.nsIn K mainGlobals "InvalidExpression" = some (some (.ref C2)))
    (h_gC3 : PySem.W.nsIn K mainGlobals "InvalidSource" = some (some (.ref C3)))
    (h_gC4 : PySem.W.nsIn K mainGlobals "InvalidLine" = some (some (.ref C4)))
    (h_gC5 : PySem.W.nsIn K mainGlobals "InvalidRule" = some (some (.ref C5)))
    (h_gC6 : PySem.W.nsIn K mainGlobals "InvalidDeed" = some (some (.ref C6)))
    (h_gC7 : PySem.W.nsIn K mainGlobals "InvalidFacts" = some (some (.ref C7)))
    (h_gC8 : PySem.W.nsIn K mainGlobals "InvalidText" = some (some (.ref C8)))
    (h_gC9 : PySem.W.nsIn K mainGlobals "InvalidCommand" = some (some (.ref C9)))
    (h_gC10 : PySem.W.nsIn K mainGlobals "InvalidNumber" = some (some (.ref C10)))
    (h_gC11 : PySem.W.nsIn K mainGlobals "LimitExceeded" = some (some (.ref C11)))
    (h_gC12 : PySem.W.nsIn K mainGlobals "UnknownName" = some (some (.ref C12)))
    (h_gC13 : PySem.W.nsIn K mainGlobals "CircularName" = some (some (.ref C13)))
    (h_gC14 : PySem.W.nsIn K mainGlobals "NoWay" = some (some (.ref C14)))
    (h_gC15 : PySem.W.nsIn K mainGlobals "Clash" = some (some (.ref C15)))
    (h_R0 : PySem.W.keepIn K (.ref C0) = true)
    (h_g15 : PySem.W.nsIn K mainGlobals "_law_numbers" = some (some (.ref a15)))
    (h_l15 : K.lookup a15 = some ⟨oc15, od15, .func (PySem.W.fnOf "_law_numbers" "_law_numbers" (defArgs s15) (defBody s15) (defScope s15) .none kV15 dc15 pm15 an15 cd15 ct15), sl15⟩)
    (h_c15 : PySem.W.codeIn K cd15 "_law_numbers" = true)
    (h_k15 : PySem.W.keepIn K (.ref a15) = true)
    (h_g16 : PySem.W.nsIn K mainGlobals "_law_draw" = some (some (.ref a16)))
    (h_l16 : K.lookup a16 = some ⟨oc16, od16, .func (PySem.W.fnOf "_law_draw" "_law_draw" (defArgs s16) (defBody s16) (defScope s16) .none kV16 dc16 pm16 an16 cd16 ct16), sl16⟩)
    (h_c16 : PySem.W.codeIn K cd16 "_law_draw" = true)
    (h_k16 : PySem.W.keepIn K (.ref a16) = true)
    (h_g17 : PySem.W.nsIn K mainGlobals "_law_kinds" = some (some (.ref a17)))
    (h_l17 : K.lookup a17 = some ⟨oc17, od17, .func (PySem.W.fnOf "_law_kinds" "_law_kinds" (defArgs s17) (defBody s17) (defScope s17) .none kV17 dc17 pm17 an17 cd17 ct17), sl17⟩)
    (h_c17 : PySem.W.codeIn K cd17 "_law_kinds" = true)
    (h_k17 : PySem.W.keepIn K (.ref a17) = true)
    (h_g18 : PySem.W.nsIn K mainGlobals "_law_bases" = some (some (.ref a18)))
    (h_l18 : K.lookup a18 = some ⟨oc18, od18, .func (PySem.W.fnOf "_law_bases" "_law_bases" (defArgs s18) (defBody s18) (defScope s18) .none kV18 dc18 pm18 an18 cd18 ct18), sl18⟩)
    (h_c18 : PySem.W.codeIn K cd18 "_law_bases" = true)
    (h_k18 : PySem.W.keepIn K (.ref a18) = true)
    (h_g19 : PySem.W.nsIn K mainGlobals "_law_made" = some (some (.ref a19)))
    (h_l19 : K.lookup a19 = some ⟨oc19, od19, .func (PySem.W.fnOf "_law_made" "_law_made" (defArgs s19) (defBody s19) (defScope s19) .none kV19 dc19 pm19 an19 cd19 ct19), sl19⟩)
    (h_c19 : PySem.W.codeIn K cd19 "_law_made" = true)
    (h_k19 : PySem.W.keepIn K (.ref a19) = true)
    (h_g20 : PySem.W.nsIn K mainGlobals "_law_named" = some (some (.ref a20)))
    (h_l20 : K.lookup a20 = some ⟨oc20, od20, .func (PySem.W.fnOf "_law_named" "_law_named" (defArgs s20) (defBody s20) (defScope s20) .none kV20 dc20 pm20 an20 cd20 ct20), sl20⟩)
    (h_c20 : PySem.W.codeIn K cd20 "_law_named" = true)
    (h_k20 : PySem.W.keepIn K (.ref a20) = true)
    (h_g21 : PySem.W.nsIn K mainGlobals "_law_fields" = some (some (.ref a21)))
    (h_l21 : K.lookup a21 = some ⟨oc21, od21, .func (PySem.W.fnOf "_law_fields" "_law_fields" (defArgs s21) (defBody s21) (defScope s21) .none kV21 dc21 pm21 an21 cd21 ct21), sl21⟩)
    (h_c21 : PySem.W.codeIn K cd21 "_law_fields" = true)
    (h_k21 : PySem.W.keepIn K (.ref a21) = true)
    (h_g22 : PySem.W.nsIn K mainGlobals "_law_raised" = some (some (.ref a22)))
    (h_l22 : K.lookup a22 = some ⟨oc22, od22, .func (PySem.W.fnOf "_law_raised" "_law_raised" (defArgs s22) (defBody s22) (defScope s22) .none kV22 dc22 pm22 an22 cd22 ct22), sl22⟩)
    (h_c22 : PySem.W.codeIn K cd22 "_law_raised" = true)
    (h_k22 : PySem.W.keepIn K (.ref a22) = true)
    (h_g23 : PySem.W.nsIn K mainGlobals "law" = some (some (.ref a23)))
    (h_l23 : K.lookup a23 = some ⟨oc23, od23, .func (PySem.W.fnOf "law" "law" (defArgs s23) (defBody s23) (defScope s23) .none kV23 dc23 pm23 an23 cd23 ct23), sl23⟩)
    (h_c23 : PySem.W.codeIn K cd23 "law" = true)
    (h_k23 : PySem.W.keepIn K (.ref a23) = true)
    (h_X1 : XX K "InvalidStatement.__init__" "value" C1)
    (h_X2 : XX K "InvalidExpression.__init__" "value" C2)
    (h_X3 : XX K "InvalidSource.__init__" "value" C3)
    (h_X4 : XX K "InvalidLine.__init__" "value" C4)
    (h_X5 : XX K "InvalidRule.__init__" "place" C5)
    (h_X6 : XX K "InvalidDeed.__init__" "value" C6)
    (h_X7 : XX K "InvalidFacts.__init__" "value" C7)
    (h_X8 : XX K "InvalidText.__init__" "place" C8)
    (h_X9 : XX K "InvalidCommand.__init__" "word" C9)
    (h_X10 : XX K "InvalidNumber.__init__" "value" C10)
    (h_X11 : XX K "LimitExceeded.__init__" "limit" C11)
    (h_X12 : XX K "UnknownName.__init__" "name" C12)
    (h_X13 : XX K "CircularName.__init__" "name" C13)
    (h_X14 : XX K "NoWay.__init__" "value" C14)
    (h_X15 : XX K "Clash.__init__" "identity" C15)
    (h_xm : gXm K [C0, C1, C2, C3, C4, C5, C6, C7, C8, C9, C10, C11, C12, C13, C14, C15] = true)
    (h_xk : gXk K [C0, C1, C2, C3, C4, C5, C6, C7, C8, C9, C10, C11, C12, C13, C14, C15] = true)
    (h_xb : gXb K [C0, C1, C2, C3, C4, C5, C6, C7, C8, C9, C10, C11, C12, C13, C14, C15] = true)
    (h_n0 : PySem.W.nsIn K mainGlobals "len" = some none)
    (h_n1 : PySem.W.nsIn K mainGlobals "max" = some none)
    (h_n2 : PySem.W.nsIn K mainGlobals "int" = some none)
    (h_n3 : PySem.W.nsIn K mainGlobals "repr" = some none)
    (h_n4 : PySem.W.nsIn K mainGlobals "isinstance" = some none)
    (h_n5 : PySem.W.nsIn K mainGlobals "range" = some none)
    (h_n6 : PySem.W.nsIn K mainGlobals "enumerate" = some none)
    (h_n7 : PySem.W.nsIn K mainGlobals "ValueError" = some none)
    (h_n8 : PySem.W.nsIn K mainGlobals "OverflowError" = some none)
    (h_n9 : PySem.W.nsIn K mainGlobals "KeyError" = some none)
    (h_n10 : PySem.W.nsIn K mainGlobals "RuntimeError" = some none) :
    ∃ (fd : FuncData) (G : Stat), G.K = K ∧ PreOk G h0 ∧ (∀ (s : Shared) (u : Value), BindsTo s fd ⟨[u], []⟩ [("_law_script", u)]) ∧ ∀ base : Heap, K.In base → base.Ns mainGlobals mg → FnG l.prog w K mg base (2 * 4) fa fd ["_law_script"] (spI (dk G Γ0 nm0 T 0 4) 23) := by
  have e := hfa.symm.trans (PySem.W.mg_of X Gn h_g23)
  have ea : a23 = fa := (Value.ref.inj (Option.some.inj e)).symm
  subst ea
  let cls : Nat → Addr := fun C => [C0, C1, C2, C3, C4, C5, C6, C7, C8, C9, C10, C11, C12, C13, C14, C15].getD C 0
  let adr : Nat → Addr := fun f => match f with | 15 => a15 | 16 => a16 | 17 => a17 | 18 => a18 | 19 => a19 | 20 => a20 | 21 => a21 | 22 => a22 | 23 => a23 | _ => 0
  have xa : ∀ C f, exfI C = some f → C < 16 ∧ C ≠ 0 ∧ f < 6 ∧ ExcC K (cls C) ∧ PySem.W.findIn K (.ref (cls C)) (fldN f) = some none ∧ ∃ qual fI, XT K qual (fldN f) (cls C) fI := fun C f e => match C, e with
    | 0, e => by cases e
    | 1, e => by cases e; exact ⟨by decide, by decide, by decide, h_X1.ec, h_X1.no, _, h_X1.xt⟩
    | 2, e => by cases e; exact ⟨by decide, by decide, by decide, h_X2.ec, h_X2.no, _, h_X2.xt⟩
    | 3, e => by cases e; exact ⟨by decide, by decide, by decide, h_X3.ec, h_X3.no, _, h_X3.xt⟩
    | 4, e => by cases e; exact ⟨by decide, by decide, by decide, h_X4.ec, h_X4.no, _, h_X4.xt⟩
    | 5, e => by cases e; exact ⟨by decide, by decide, by decide, h_X5.ec, h_X5.no, _, h_X5.xt⟩
    | 6, e => by cases e; exact ⟨by decide, by decide, by decide, h_X6.ec, h_X6.no, _, h_X6.xt⟩
    | 7, e => by cases e; exact ⟨by decide, by decide, by decide, h_X7.ec, h_X7.no, _, h_X7.xt⟩
    | 8, e => by cases e; exact ⟨by decide, by decide, by decide, h_X8.ec, h_X8.no, _, h_X8.xt⟩
    | 9, e => by cases e; exact ⟨by decide, by decide, by decide, h_X9.ec, h_X9.no, _, h_X9.xt⟩
    | 10, e => by cases e; exact ⟨by decide, by decide, by decide, h_X10.ec, h_X10.no, _, h_X10.xt⟩
    | 11, e => by cases e; exact ⟨by decide, by decide, by decide, h_X11.ec, h_X11.no, _, h_X11.xt⟩
    | 12, e => by cases e; exact ⟨by decide, by decide, by decide, h_X12.ec, h_X12.no, _, h_X12.xt⟩
    | 13, e => by cases e; exact ⟨by decide, by decide, by decide, h_X13.ec, h_X13.no, _, h_X13.xt⟩
    | 14, e => by cases e; exact ⟨by decide, by decide, by decide, h_X14.ec, h_X14.no, _, h_X14.xt⟩
    | 15, e => by cases e; exact ⟨by decide, by decide, by decide, h_X15.ec, h_X15.no, _, h_X15.xt⟩
    | (n + 16), e => by
      have z : exfI (n + 16) = none := rfl
      rw [z] at e; cases e
  have F15 := fun_mk (st := s15) h_l15 h_c15 h_k15
  have F16 := fun_mk (st := s16) h_l16 h_c16 h_k16
  have F17 := fun_mk (st := s17) h_l17 h_c17 h_k17
  have F18 := fun_mk (st := s18) h_l18 h_c18 h_k18
  have F19 := fun_mk (st := s19) h_l19 h_c19 h_k19
  have F20 := fun_mk (st := s20) h_l20 h_c20 h_k20
  have F21 := fun_mk (st := s21) h_l21 h_c21 h_k21
  have F22 := fun_mk (st := s22) h_l22 h_c22 h_k22
  have F23 := fun_mk (st := s23) h_l23 h_c23 h_k23
  have B15 := F15.binds (ps := p15) fun _ _ _ _ _ _ us hl => match us, hl with | [_, _, _], _ => rfl
  have B16 := F16.binds (ps := p16) fun _ _ _ _ _ _ us hl => match us, hl with | [_, _], _ => rfl
  have B17 := F17.binds (ps := p17) fun _ _ _ _ _ _ us hl => match us, hl with | [_], _ => rfl
  have B18 := F18.binds (ps := p18) fun _ _ _ _ _ _ us hl => match us, hl with | [_], _ => rfl
  have B19 := F19.binds (ps := p19) fun _ _ _ _ _ _ us hl => match us, hl with | [_], _ => rfl
  have B20 := F20.binds (ps := p20) fun _ _ _ _ _ _ us hl => match us, hl with | [_], _ => rfl
  have B21 := F21.binds (ps := p21) fun _ _ _ _ _ _ us hl => match us, hl with | [_], _ => rfl
  have B22 := F22.binds (ps := p22) fun _ _ _ _ _ _ us hl => match us, hl with | [_], _ => rfl
  have B23 := F23.binds (ps := p23) fun _ _ _ _ _ _ us hl => match us, hl with | [_], _ => rfl
  have dyn : ∀ base : Heap, DynS l.prog w mg base K (GG K cls []) Γ0 okf adr := fun base => {
    init := fun C f e => by cases e
    callm := fun C f e => by cases e
    prop := fun C x f e => by cases e
    meth := fun C x f e => by cases e
    isF := fun C x e => by cases e
    con := fun C x v e => by cases e
    cmeth := fun C x f c e e2 => by cases e
    smeth := fun C x f e => by cases e
    dun := fun C d f e => by cases e
    xo := fun C f e => let ⟨_, _, a, b, c, _⟩ := xa C f e; ⟨a, b, c⟩
    eqg := fun C e => by cases e
    isK := fun C e => by cases e }
  have M : ∀ {x : Str} {u : Value}, PySem.W.nsIn K mainGlobals x = some (some u) → mg x = some u := fun h => PySem.W.mg_of X Gn h
  have M0 : ∀ {x : Str}, PySem.W.nsIn K mainGlobals x = some none → mg x = none := fun h => PySem.W.mg_none_of X Gn h
  have kl16 : ∀ p ∈ LL.kl, p.1 < 16 := by decide +kernel
  have xl4 : ∀ p ∈ LL.xl, p.1 < 4 ∧ p.2 = ["ValueError", "OverflowError", "KeyError", "RuntimeError"].getD p.1 "" := by decide +kernel
  have sf : SF K mg (GG K cls []) Γ0 LL adr okf := {
    eK := rfl
    cf := by
      simp only [LL, List.forall_mem_cons]
      exact ⟨⟨M h_g15, h_k15, rfl⟩, ⟨M h_g16, h_k16, rfl⟩, ⟨M h_g17, h_k17, rfl⟩, ⟨M h_g18, h_k18, rfl⟩, ⟨M h_g19, h_k19, rfl⟩, ⟨M h_g20, h_k20, rfl⟩, ⟨M h_g21, h_k21, rfl⟩, ⟨M h_g22, h_k22, rfl⟩, ⟨M h_g23, h_k23, rfl⟩, fun _ h => absurd h (by simp)⟩
    kf := by
      simp only [LL, List.forall_mem_cons]
      exact ⟨⟨M h_gC0, h_R0⟩, ⟨M h_gC1, h_X1.kp⟩, ⟨M h_gC2, h_X2.kp⟩, ⟨M h_gC3, h_X3.kp⟩, ⟨M h_gC4, h_X4.kp⟩, ⟨M h_gC5, h_X5.kp⟩, ⟨M h_gC6, h_X6.kp⟩, ⟨M h_gC7, h_X7.kp⟩, ⟨M h_gC8, h_X8.kp⟩, ⟨M h_gC9, h_X9.kp⟩, ⟨M h_gC10, h_X10.kp⟩, ⟨M h_gC11, h_X11.kp⟩, ⟨M h_gC12, h_X12.kp⟩, ⟨M h_gC13, h_X13.kp⟩, ⟨M h_gC14, h_X14.kp⟩, ⟨M h_gC15, h_X15.kp⟩, fun _ h => absurd h (by simp)⟩
    kI := fun C f e => by cases e
    gf := fun _ h => absurd h (by simp [LL])
    bf := by
      simp only [LL, List.forall_mem_cons]
      exact ⟨M0 h_n0, M0 h_n1, M0 h_n2, M0 h_n3, M0 h_n4, M0 h_n5, M0 h_n6, M0 h_n7, M0 h_n8, M0 h_n9, M0 h_n10, fun _ h => absurd h (by simp)⟩
    xt := fun C f e => let ⟨_, _, a, b, _, c⟩ := xa C f e; ⟨a, b, c⟩
    xm := fun p hp C f e => let ⟨a, b, _⟩ := xa C f e; .inl (grid (n := 16) (m := 16) (f := fun a b => PySem.W.exmOne K (.ref (cls a)) (.ref (cls b))) (g := Γ0.sub) h_xm a (kl16 p hp) b)
    xk := fun p hp C f e => let ⟨a, b, _⟩ := xa C f e; .inl (grid (n := 16) (m := 16) (f := fun a b => PySem.W.kitOne K (.ref (cls a)) (.ref (cls b))) (g := Γ0.sub) h_xk a (kl16 p hp) b)
    xb := fun p hp C f e => by
      obtain ⟨a, b, _⟩ := xa C f e
      obtain ⟨z1, z2⟩ := xl4 p hp
      rw [z2]
      exact grid (n := 16) (m := 4) (f := fun a b => PySem.W.kitOne K (.ref (cls a)) (.type (["ValueError", "OverflowError", "KeyError", "RuntimeError"].getD b ""))) (g := Γ0.subB) h_xb a z1 b }
  have pre : PreOk (GG K cls []) h0 := by
    refine ⟨rfl, rfl, fun a o b e1 e2 => ?_⟩
    simp [h0] at e1
  refine ⟨PySem.W.fnOf "law" "law" (defArgs s23) (defBody s23) (defScope s23) .none kV23 dc23 pm23 an23 cd23 ct23, GG K cls [], rfl, pre, fun s v => .of_eq rfl, fun base _ _ => ?_⟩
  have tab : ∀ f, okf f = true → DefT l.prog w K mg base (GG K cls []) Γ0 nm0 T okf adr 0 f := by
    intro f hf
    have hf' : f ∈ [15, 16, 17, 18, 19, 20, 21, 22, 23] := by simpa [okf] using hf
    simp only [List.mem_cons, List.not_mem_nil, or_false] at hf'
    rcases hf' with rfl | rfl | rfl | rfl | rfl | rfl | rfl | rfl | rfl
    · exact ⟨f15, n15, p15, _, _, s15, _, rfl, F15, sc15, B15, rfl, rfl, fun k cdv A outer s H E tb dy hg hr => b15 (sf.ez sc15 tb dy hg hr)⟩
    · exact ⟨f16, n16, p16, _, _, s16, _, rfl, F16, sc16, B16, rfl, rfl, fun k cdv A outer s H E tb dy hg hr => b16 (sf.ez sc16 tb dy hg hr)⟩
    · exact ⟨f17, n17, p17, _, _, s17, _, rfl, F17, sc17, B17, rfl, rfl, fun k cdv A outer s H E tb dy hg hr => b17 (sf.ez sc17 tb dy hg hr)⟩
    · exact ⟨f18, n18, p18, _, _, s18, _, rfl, F18, sc18, B18, rfl, rfl, fun k cdv A outer s H E tb dy hg hr => b18 (sf.ez sc18 tb dy hg hr)⟩
    · exact ⟨f19, n19, p19, _, _, s19, _, rfl, F19, sc19, B19, rfl, rfl, fun k cdv A outer s H E tb dy hg hr => b19 (sf.ez sc19 tb dy hg hr)⟩
    · exact ⟨f20, n20, p20, _, _, s20, _, rfl, F20, sc20, B20, rfl, rfl, fun k cdv A outer s H E tb dy hg hr => b20 (sf.ez sc20 tb dy hg hr)⟩
    · exact ⟨f21, n21, p21, _, _, s21, _, rfl, F21, sc21, B21, rfl, rfl, fun k cdv A outer s H E tb dy hg hr => b21 (sf.ez sc21 tb dy hg hr)⟩
    · exact ⟨f22, n22, p22, _, _, s22, _, rfl, F22, sc22, B22, rfl, rfl, fun k cdv A outer s H E tb dy hg hr => b22 (sf.ez sc22 tb dy hg hr)⟩
    · exact ⟨f23, n23, p23, _, _, s23, _, rfl, F23, sc23, B23, rfl, rfl, fun k cdv A outer s H E tb dy hg hr => b23 (sf.ez sc23 tb dy hg hr)⟩
  exact step_FK (k := 3) (f := 23) (d := f23) (dyn base) (all_FK (dyn base) tab 3) rfl F23 sc23 rfl rfl (fun k cdv A outer s H E tb dy hg hr => b23 (sf.ez sc23 tb dy hg hr))
end K63
end
section
set_option Elab.async false
set_option linter.all false
set_option maxRecDepth 100000
set_option maxHeartbeats 1000000
namespace K63
open PySem MP MQ
theorem log_lt {n : Nat} (h : n < 2 ^ 100) : n.log2 < 100 := by
  by_cases hn : n = 0
  · subst hn; decide
  · exact (Nat.log2_lt hn).mpr h
theorem mul_ok {i j : Int} (h1 : i.natAbs < 2 ^ 100) (h2 : j.natAbs < 2 ^ 100) : pbin .Mult (.int i) (.int j) = some (.int (i * j)) := by
  unfold pbin
  simp only
  rw [if_pos (by
    have a := log_lt h1
    have b := log_lt h2
    unfold mulOk
    exact decide_eq_true (by omega))]
theorem pow_ok {i : Int} {j : Int} (h1 : i.natAbs < 2 ^ 64) (h2 : 0 ≤ j ∧ j ≤ 1000000) : pbin .Pow (.int i) (.int j) = some (.int (i ^ j.toNat)) := by
  unfold pbin
  simp only
  rw [if_pos ⟨h2.1, h2.2, h1⟩]
theorem add_int {i j : Int} : pbin .Add (.int i) (.int j) = some (.int (i + j)) := rfl
theorem sub_int {i j : Int} : pbin .Sub (.int i) (.int j) = some (.int (i - j)) := rfl
theorem mod_ok {i j : Int} (h : 0 < j) : pbin .Mod (.int i) (.int j) = some (.int (i % j)) := by unfold pbin; simp only; rw [if_pos h]
theorem div_ok {i j : Int} (h : divOk j = true) : pbin .FloorDiv (.int i) (.int j) = some (.int (i / j)) := by unfold pbin; simp only; rw [if_pos h]
theorem ge_int {i j : Int} : pcmp .GtE (.int i) (.int j) = some (decide (j ≤ i)) := rfl
theorem gt_int {i j : Int} : pcmp .Gt (.int i) (.int j) = some (decide (j < i)) := rfl
def numB : MB := (match f15.body with
  | .cons _ (.cons _ (.cons _ (.cons (.forS _ _ b) _))) => b
  | _ => .nil)
def sz : D := .lst [.int 420, .int 420, .int 420]
abbrev sh (d : D) : Option (Md × D) := some (.sh, d)
def NS (c s w : Int) (ds : List D) (ρ : PS) : Prop := ∃ (l : Int) (a b : Option D), ρ = [sh (.int c), sh (.int s), sh sz, sh (.int w), sh (.int l), some (.ow, .lst ds), a.map fun d => (Md.sh, d), b.map fun d => (Md.sh, d)]
theorem app_ok {xs : List D} {v : D} (h : xs.length < 16777216) : pmut .append xs [v] = some (.non, xs ++ [v]) := by
  unfold pmut
  simp only
  rw [if_pos (by rw [sizeLine_eq]; exact h)]
theorem num_step {cl : Nat → List D → Option PC} {c s w : Int} {ds : List D} {ρ : PS} {i : Int} (hs : 0 ≤ s ∧ s ≤ 10000) (hi : 0 ≤ i ∧ i < 3) (hρ : NS c s w ds ρ) (hd : ds.length ≤ 64) :
    ∃ ρ' d, NS c s w (ds ++ [.int d]) ρ' ∧ pB (PGof io gl Γ0 cl) 0 none numB (ρ.set 6 (sh (.int i))) = some (.nx ρ') := by
  obtain ⟨l, a, b, rfl⟩ := hρ
  have gi : pix sz (.int i) = some (.int 420) := by
    obtain ⟨h1, h2⟩ := hi
    rcases (by omega : i = 0 ∨ i = 1 ∨ i = 2) with rfl | rfl | rfl <;> rfl
  have p18 : pbin .Pow (.int 10) (.int 18) = some (.int (10 ^ 18)) := pow_ok (by decide) (by decide)
  have d420 : ∀ {x : Int}, pbin .FloorDiv (.int x) (.int 420) = some (.int (x / 420)) := div_ok (by decide +kernel)
  have d16 : ∀ {x : Int}, pbin .FloorDiv (.int x) (.int 16) = some (.int (x / 16)) := div_ok (by decide +kernel)
  have m420 : ∀ {x : Int}, pbin .Mod (.int x) (.int 420) = some (.int (x % 420)) := mod_ok (by decide)
  have m29 : ∀ {x : Int}, pbin .Mod (.int x) (.int 2147483629) = some (.int (x % 2147483629)) := mod_ok (by decide)
  have m47 : ∀ {x : Int}, pbin .Mod (.int x) (.int 2147483647) = some (.int (x % 2147483647)) := mod_ok (by decide)
  have ap : ∀ v, pmut .append ds [v] = some (.non, ds ++ [v]) := fun v => app_ok (by omega)
  have hm1 := Int.emod_nonneg w (show (2147483629 : Int) ≠ 0 by decide)
  have hm2 := Int.emod_lt_of_pos w (show (0 : Int) < 2147483629 by decide)
  have c1 := fun (x : Int) => Int.emod_nonneg x (show (2147483647 : Int) ≠ 0 by decide)
  have c2 := fun (x : Int) => Int.emod_lt_of_pos x (show (0 : Int) < 2147483647 by decide)
  have c3 := fun (x : Int) => Int.emod_nonneg x (show (2147483629 : Int) ≠ 0 by decide)
  have c4 := fun (x : Int) => Int.emod_lt_of_pos x (show (0 : Int) < 2147483629 by decide)
  by_cases hc : (1000000000000000000 : Int) ≤ w ∧ 0 < l
  · refine ⟨_, l % 420, ⟨l / 420, some (.int i), b, rfl⟩, ?_⟩
    cases b <;> simp [numB, f15, pB, pS, pE, pA, pAk, pk, pfst, pslot, pvar, po, pfin, ptruth, pb, pbE, pbS, pnx, pasg, notIo, frE, mutD, isMutM, dOf, sh, p18, ge_int, gt_int, hc.1, hc.2, gi, m420, d420, ap]
  · have q1 : pbin .Mult (.int 7919) (.int s) = some (.int (7919 * s)) := mul_ok (by decide) (by omega)
    have q2 : pbin .Pow (.int (w % 2147483629 + 7919 * s + 1)) (.int 3) = some (.int ((w % 2147483629 + 7919 * s + 1) ^ 3)) := pow_ok (j := 3) (by omega) (by decide)
    have q3 : pbin .Mult (.int 104729) (.int (i + 1)) = some (.int (104729 * (i + 1))) := mul_ok (by decide) (by omega)
    have q4 : ∀ (x : Int), pbin .Mult (.int (x % 2147483647 + 104729 * (i + 1))) (.int (i + 3)) = some (.int ((x % 2147483647 + 104729 * (i + 1)) * (i + 3))) := fun x => mul_ok (by have := c1 x; have := c2 x; omega) (by omega)
    have q5 : ∀ (x : Int), pbin .Pow (.int (x % 2147483629)) (.int 5) = some (.int ((x % 2147483629) ^ 5)) := fun x => pow_ok (j := 5) (by have := c3 x; have := c4 x; omega) (by decide)
    have q6 : ∀ (x : Int), pbin .Mult (.int (x % 2147483647)) (.int 48271) = some (.int (x % 2147483647 * 48271)) := fun x => mul_ok (by have := c1 x; have := c2 x; omega) (by decide)
    refine ⟨[sh (.int c), sh (.int s), sh sz, sh (.int w), sh (.int l), some (.ow, .lst (ds ++ [.int ((((((((w % 2147483629 + 7919 * s + 1) ^ 3 % 2147483647 + 104729 * (i + 1)) * (i + 3)) % 2147483629) ^ 5) % 2147483647 * 48271) % 2147483629) / 16 % 420)])), sh (.int i), sh (.int (((((((w % 2147483629 + 7919 * s + 1) ^ 3 % 2147483647 + 104729 * (i + 1)) * (i + 3)) % 2147483629) ^ 5) % 2147483647 * 48271) % 2147483629))], _, ⟨l, some _, some _, rfl⟩, ?_⟩
    by_cases h1 : (1000000000000000000 : Int) ≤ w
    · have h2 : ¬ 0 < l := fun z => hc ⟨h1, z⟩
      cases b <;> simp [numB, f15, pB, pS, pE, pA, pAk, pk, pfst, pslot, pvar, po, pfin, ptruth, pb, pbE, pbS, pnx, pasg, notIo, frE, mutD, isMutM, dOf, sh, p18, ge_int, gt_int, h1, h2, gi, m420, m29, m47, d16, ap, q1, q2, q3, q4, q5, q6, add_int]
    · cases b <;> simp [numB, f15, pB, pS, pE, pA, pAk, pk, pfst, pslot, pvar, po, pfin, ptruth, pb, pbE, pbS, pnx, pasg, notIo, frE, mutD, isMutM, dOf, sh, p18, ge_int, gt_int, h1, gi, m420, m29, m47, d16, ap, q1, q2, q3, q4, q5, q6, add_int]
end K63
end
section
set_option Elab.async false
set_option linter.all false
set_option maxRecDepth 100000
set_option maxHeartbeats 1000000
namespace K63
open PySem MP MQ
theorem num_loop {cl : Nat → List D → Option PC} {c s w : Int} (hs : 0 ≤ s ∧ s ≤ 10000) : ∀ (l : List Int) (ds : List Int) (ρ : PS), (∀ i ∈ l, 0 ≤ i ∧ i < 3) → ds.length + l.length ≤ 24 → NS c s w (ds.map D.int) ρ →
    ∃ (ρ' : PS) (ds' : List Int), ds'.length = ds.length + l.length ∧ NS c s w (ds'.map D.int) ρ' ∧ ploopF (.nm 6) (pB (PGof io gl Γ0 cl) 0 none numB) (l.map fun i => (D.int i, none)) ρ = some (.nx ρ')
  | [], ds, ρ, _, _, hρ => ⟨ρ, ds, rfl, hρ, rfl⟩
  | i :: l, ds, ρ, hl, hn, hρ => by
    obtain ⟨ρ1, d, h1, e1⟩ := num_step (cl := cl) hs (hl i List.mem_cons_self) hρ (by rw [List.length_map]; simp at hn; omega)
    have h1' : NS c s w ((ds ++ [d]).map D.int) ρ1 := by simpa using h1
    obtain ⟨ρ2, ds2, h2, h3, e2⟩ := num_loop (cl := cl) hs l (ds ++ [d]) ρ1 (fun j hj => hl j (List.mem_cons_of_mem _ hj)) (by simp at hn ⊢; omega) h1'
    refine ⟨ρ2, ds2, by simp at h2 ⊢; omega, h3, ?_⟩
    have ni : notIo ρ 6 = true := by
      obtain ⟨l, a, b, rfl⟩ := hρ
      cases a <;> simp [notIo, sh]
    simp only [List.map_cons, ploopF, pasgX, pasg, ni, if_true]
    rw [e1]
    exact e2
theorem numbers_run {k : Nat} {c s : Int} (hs : 0 ≤ s ∧ s ≤ 10000) : ∃ a b d : Int, callP (PGof io gl Γ0) io T 0 (k + 1) 15 [.int c, .int s, sz] = some (.val (.lst [.int a, .int b, .int d]) none) := by
  let w : Int := if -1 - c > c then -1 - c else c
  obtain ⟨ρ', ds, hl, hρ, el⟩ := num_loop (cl := callP (PGof io gl Γ0) io T 0 k) (c := c) (s := s) (w := w) hs [0, 1, 2] [] [sh (.int c), sh (.int s), sh sz, sh (.int w), sh (.int w), some (.ow, .lst []), none, none] (by decide) (by decide) ⟨w, none, none, rfl⟩
  match ds, hl with
  | [a, b, d], _ =>
  refine ⟨a, b, d, ?_⟩
  unfold callP
  have body : f15.body = .cons (.asg (.nm 3) (.bi .max2 (.cons (.var 0) (.cons (.bin .Sub (.neg (.cst (.int 1))) (.var 0)) .nil)))) (.cons (.asg (.nm 4) (.var 3)) (.cons (.asg (.nm 5) (.lst .nil)) (.cons (.forS (.nm 6) (.rng1 (.bi .len (.cons (.var 2) .nil))) numB) (.cons (.ret (.var 5)) .nil)))) := rfl
  have mx : pbif .max2 [.int c, .int (-1 - c)] = some (.int w) := rfl
  have ln : pbif .len [sz] = some (.int 3) := rfl
  have rg : prng 0 (3 : Int).toNat = [0, 1, 2].map fun (i : Int) => (D.int i, none) := rfl
  have T15 : T 15 = some f15 := rfl
  have np : f15.np = 3 := rfl
  have ns : f15.ns = 8 := rfl
  have i15 : io 15 = false := rfl
  simp only [List.map_cons, List.map_nil] at el
  obtain ⟨l, x, y, rfl⟩ := hρ
  simp only [T15, np, ns, i15, List.length_cons, List.length_nil, if_true, pargs, body]
  simp only [pB, pS, pE, pA, pAk, pI, pk, pfst, pslot, pvar, po, pfin, pb, pbE, pbS, pnx, pasg, notIo, frE, mutD, dOf, sub_int, List.map_cons, List.map_nil, List.cons_append, List.nil_append, List.replicate, List.getElem?_cons_succ, List.getElem?_cons_zero, mx, ln, rg, List.set, Option.map_some, Bool.false_eq_true, if_false, if_true, List.length_nil, Nat.zero_le, Bool.and_false, Bool.and_true]
  simp [mx, ln, rg, el, pretOf, pio, sh, ptruth]
end K63
end
section
set_option Elab.async false
set_option linter.all false
set_option maxRecDepth 100000
set_option maxHeartbeats 1000000
namespace K63
open PySem MP MQ
def t1 : MS := (.asg (.nm 3) (.lst (.cons (.call 15 (.cons (.var 2) (.cons (.bin .Add (.cst (.int 6300)) (.var 1)) (.cons (.bin .Mult (.lst (.cons (.cst (.int 420)) .nil)) (.cst (.int 3))) .nil)))) (.cons (.cst (.int 0)) .nil))))
def t2 : MS := (.asg (.nm 4) (.ix (.lst (.cons (.cst .non) (.cons (.bin .Pow (.call 16 (.cons (.var 3) (.cons (.cst (.int 420)) .nil))) (.cst (.int 20))) (.cons (.cst (.str "a")) (.cons (.tup (.cons (.cst (.str "a")) (.cons (.cst (.int 1)) .nil))) (.cons (.lst (.cons (.cst (.int 1)) .nil)) (.cons (.neg (.cst (.int 1))) (.cons (.cst (.str "")) (.cons (.cst (.bl true)) .nil))))))))) (.call 16 (.cons (.var 3) (.cons (.cst (.int 8)) .nil)))))
def t3 : MS := (.asg (.nm 5) (.call 19 (.cons (.var 4) .nil)))
def t4 : MS := (.forS (.tup (.cons (.nm 6) (.cons (.nm 7) .nil))) (.enum (.var 5)) (.cons (.ifS (.cmp .NotEq (.call 17 (.cons (.var 7) .nil)) (.lc [9] (.cmp .Eq (.var 6) (.var 9)) (.nm 9) (.rng1 (.cst (.int 15))) .none)) (.cons (.ret (.cst (.bl false)))
      .nil) .nil)
      (.cons (.ifS (.cmp .NotEq (.call 18 (.cons (.var 7) .nil)) (.lst (.cons (.cmp .Lt (.var 6) (.cst (.int 9))) (.cons (.cmp .Eq (.var 6) (.cst (.int 9))) (.cons (.cmp .Eq (.var 6) (.cst (.int 10))) (.cons (.cmp .Eq (.var 6) (.cst (.int 11))) (.cons (.cmp .Gt (.var 6) (.cst (.int 11))) .nil))))))) (.cons (.ret (.cst (.bl false)))
      .nil) .nil)
      .nil)))
def t5 : MS := (.ifS (.cmp .NotEq (.lc [8] (.bi .repr (.cons (.var 8) .nil)) (.nm 8) (.ev (.bin .Add (.call 21 (.cons (.var 5) .nil)) (.call 21 (.cons (.call 20 (.cons (.var 4) .nil)) .nil)))) .none) (.bin .Mult (.lst (.cons (.bi .repr (.cons (.var 4) .nil)) .nil)) (.cst (.int 30)))) (.cons (.ret (.cst (.bl false)))
      .nil) .nil)
def t6 : MS := (.ifS (.cmp .NotEq (.call 22 (.cons (.var 4) .nil)) (.bi .repr (.cons (.var 4) .nil))) (.cons (.ret (.cst (.bl false)))
      .nil) .nil)
def it0 : MI := (.enum (.bin .Add (.sl (.var 0) .none (.some (.cst (.int 6)))) (.bin .Mult (.lst (.cons (.cst (.int 7)) .nil)) (.bi .int (.cons (.cmp .Eq (.var 0) (.lst .nil)) .nil)))))
def lawB : MB := .cons t1 (.cons t2 (.cons t3 (.cons t4 (.cons t5 (.cons t6 .nil)))))
theorem f23_body : f23.body = .cons (.forS (.tup (.cons (.nm 1) (.cons (.nm 2) .nil))) it0 lawB) (.cons (.ret (.cst (.bl true))) .nil) := rfl
abbrev C3 : Nat → List D → Option PC := callP (PGof io gl Γ0) io T 0 3
abbrev G3 : PG := PGof io gl Γ0 C3
def made (v : D) : D := .lst [.exo 1 0 v, .exo 2 0 v, .exo 3 0 v, .exo 4 0 v, .exo 5 1 v, .exo 6 0 v, .exo 7 0 v, .exo 8 1 v, .exo 9 2 v, .exo 10 0 v, .exo 11 3 v, .exo 12 4 v, .exo 13 4 v, .exo 14 0 v, .exo 15 5 v]
theorem made_run (v : D) : C3 19 [v] = some (.val (made v) none) := by kernel_rfl
theorem named_run (v : D) : C3 20 [v] = some (.val (made v) none) := by kernel_rfl
theorem fields_run (v : D) : C3 21 [made v] = some (.val (.lst (List.replicate 15 v)) none) := by kernel_rfl
theorem draw0 (a b d : Int) : C3 16 [.lst [.lst [.int a, .int b, .int d], .int 0], .int 420] = some (.val (.int (a % 420)) (some (.lst [.lst [.int a, .int b, .int d], .int 1]))) := by kernel_rfl
theorem draw1 (a b d : Int) : C3 16 [.lst [.lst [.int a, .int b, .int d], .int 1], .int 8] = some (.val (.int (b % 8)) (some (.lst [.lst [.int a, .int b, .int d], .int 2]))) := by kernel_rfl
abbrev last (a0 : Option (Md × D)) (k c : Int) (t3 v : D) : PS := [a0, sh (.int k), sh (.int c), some (.ow, t3), sh v, sh (made v), sh (.int 14), sh (.exo 15 5 v), none, none]
theorem s4a (a0 : Option (Md × D)) (k c : Int) (t3 v : D) : pS G3 0 none t4 [a0, sh (.int k), sh (.int c), some (.ow, t3), sh v, sh (made v), none, none, none, none] = some (.nx (last a0 k c t3 v)) := by kernel_rfl
theorem s4b (a0 : Option (Md × D)) (k c : Int) (t3 v t6 t7 : D) : pS G3 0 none t4 [a0, sh (.int k), sh (.int c), some (.ow, t3), sh v, sh (made v), sh t6, sh t7, none, none] = some (.nx (last a0 k c t3 v)) := by kernel_rfl
end K63
end
section
set_option Elab.async false
set_option linter.all false
set_option maxRecDepth 100000
set_option maxHeartbeats 1000000
namespace K63
open PySem MP MQ
/-- before the first turn, behind a turn -/
inductive SH : PS → Prop
  | fst {a0 : Option (Md × D)} {k c : Int} : SH [a0, sh (.int k), sh (.int c), none, none, none, none, none, none, none]
  | nxt {a0 : Option (Md × D)} {k c : Int} {t3 t4 t5 t6 t7 : D} : SH [a0, sh (.int k), sh (.int c), some (.ow, t3), sh t4, sh t5, sh t6, sh t7, none, none]
/-- values whose repr is told -/
def Good (v : D) : Prop := ∃ s, prepr v = some (.str s) ∧ PyData.strOk s = true
def st0 (a b d : Int) : D := .lst [.lst [.int a, .int b, .int d], .int 0]
def st2 (a b d : Int) : D := .lst [.lst [.int a, .int b, .int d], .int 2]
def opts (x : Int) : List D := [.non, .int x, .str "a", .tup [.str "a", .int 1] false, .lst [.int 1], .int (-1), .str "", .bl true]
theorem ok_of (t : String) : PyData.strOk (PySem.Str.ofString t) = true := by
  simp [PyData.strOk, PySem.Str.ofString]
  intro c hc
  rw [PySem.cpsOfBytes_string] at hc
  obtain ⟨ch, _, rfl⟩ := List.mem_map.mp hc
  have h := ch.valid
  have e : ch.toNat = ch.val.toNat := rfl
  rw [e]
  simp only [UInt32.isValidChar, Nat.isValidChar] at h
  omega
theorem int_ok {x : Int} {s : Str} (q : prepr (.int x) = some (.str s)) : PyData.strOk s = true := by
  unfold prepr at q
  simp only [toP] at q
  split at q
  · have e : (PyData.int x).shown = s := by cases q; rfl
    rw [← e]
    exact ok_of (toString x)
  · cases q
theorem big_ok : ((List.range 420).all fun j => match prepr (.int ((j : Int) ^ 20)) with | some (.str s) => true | _ => false) = true := by decide +kernel
theorem big_good {a : Int} : Good (.int ((a % 420) ^ 20)) := by
  have h1 := Int.emod_nonneg a (show (420 : Int) ≠ 0 by decide)
  have h2 := Int.emod_lt_of_pos a (show (0 : Int) < 420 by decide)
  have e : ((a % 420).toNat : Int) = a % 420 := Int.toNat_of_nonneg h1
  have h := List.all_eq_true.mp big_ok (a % 420).toNat (List.mem_range.mpr (by omega))
  simp only [e] at h
  unfold Good
  split at h
  · rename_i s q; exact ⟨s, q, int_ok q⟩
  · cases h
theorem opts_good {a b : Int} : ∃ v, pix (.lst (opts ((a % 420) ^ 20))) (.int (b % 8)) = some v ∧ Good v := by
  have h1 := Int.emod_nonneg b (show (8 : Int) ≠ 0 by decide)
  have h2 := Int.emod_lt_of_pos b (show (0 : Int) < 8 by decide)
  have good : ∀ d : D, (match prepr d with | some (.str s) => PyData.strOk s | _ => false) = true → Good d := fun d h => by
    unfold Good
    split at h
    · rename_i s q; exact ⟨s, q, h⟩
    · cases h
  rcases (by omega : b % 8 = 0 ∨ b % 8 = 1 ∨ b % 8 = 2 ∨ b % 8 = 3 ∨ b % 8 = 4 ∨ b % 8 = 5 ∨ b % 8 = 6 ∨ b % 8 = 7) with e | e | e | e | e | e | e | e <;> rw [e]
  · exact ⟨.non, rfl, good _ (by decide +kernel)⟩
  · exact ⟨.int ((a % 420) ^ 20), rfl, big_good⟩
  · exact ⟨.str "a", rfl, good _ (by decide +kernel)⟩
  · exact ⟨.tup [.str "a", .int 1] false, rfl, good _ (by decide +kernel)⟩
  · exact ⟨.lst [.int 1], rfl, good _ (by decide +kernel)⟩
  · exact ⟨.int (-1), rfl, good _ (by decide +kernel)⟩
  · exact ⟨.str "", rfl, good _ (by decide +kernel)⟩
  · exact ⟨.bl true, rfl, good _ (by decide +kernel)⟩
end K63
end
section
set_option Elab.async false
set_option linter.all false
set_option maxRecDepth 100000
set_option maxHeartbeats 1000000
namespace K63
open PySem MP MQ
theorem io15 : io 15 = false := rfl
theorem io16 : io 16 = true := rfl
theorem io19 : io 19 = false := rfl
theorem io20 : io 20 = false := rfl
theorem io21 : io 21 = false := rfl
theorem io22 : io 22 = false := rfl
theorem mul3 : pbin .Mult (.lst [.int 420]) (.int 3) = some sz := rfl
theorem mul3' : pbin .Mult (.lst [.int 420]) (.int 3) = some (.lst [.int 420, .int 420, .int 420]) := rfl
theorem s1_ok {a0 : Option (Md × D)} {k c : Int} {x3 x4 x5 x6 x7 : Option (Md × D)} (hk : 0 ≤ k ∧ k ≤ 3000) (h3 : notIo [a0, sh (.int k), sh (.int c), x3, x4, x5, x6, x7, none, none] 3 = true) :
    ∃ a b d, pS G3 0 none t1 [a0, sh (.int k), sh (.int c), x3, x4, x5, x6, x7, none, none] = some (.nx [a0, sh (.int k), sh (.int c), some (.ow, st0 a b d), x4, x5, x6, x7, none, none]) := by
  obtain ⟨a, b, d, e⟩ := numbers_run (k := 2) (c := c) (s := 6300 + k) (by omega)
  refine ⟨a, b, d, ?_⟩
  have e' : C3 15 [D.int c, D.int (6300 + k), .lst [.int 420, .int 420, .int 420]] = some (PC.val (D.lst [D.int a, D.int b, D.int d]) none) := e
  simp [t1, pS, pE, pA, pk, pfst, pslot, pvar, po, pfin, pb, pbE, pnx, pasg, frE, mutD, dOf, add_int, mul3', pcall, io15, e', h3, st0, sz, sizeLine_eq]
theorem s2_ok {a0 : Option (Md × D)} {k c a b d : Int} {x4 x5 x6 x7 : Option (Md × D)} (h4 : ∀ x3, notIo [a0, sh (.int k), sh (.int c), x3, x4, x5, x6, x7, none, none] 4 = true) :
    ∃ v, Good v ∧ pS G3 0 none t2 [a0, sh (.int k), sh (.int c), some (.ow, st0 a b d), x4, x5, x6, x7, none, none] = some (.nx [a0, sh (.int k), sh (.int c), some (.ow, st2 a b d), sh v, x5, x6, x7, none, none]) := by
  obtain ⟨v, e, g⟩ := opts_good (a := a) (b := b)
  have q := pow_ok (i := a % 420) (j := 20) (by have := Int.emod_nonneg a (show (420 : Int) ≠ 0 by decide); have := Int.emod_lt_of_pos a (show (0 : Int) < 420 by decide); omega) (by decide)
  have q' : pbin .Pow (.int (a % 420)) (.int 20) = some (.int ((a % 420) ^ 20)) := q
  refine ⟨v, g, ?_⟩
  have d0 := draw0 a b d
  have d1 := draw1 a b d
  simp only [opts] at e
  simp [t2, pS, pE, pA, pAt, hdV, pk, pfst, pslot, pvar, po, pfin, pb, pbE, pnx, pasg, frE, mutD, dOf, pioc, io16, d0, d1, q', e, h4, st0, st2, sizeLine_eq]
theorem s3_ok {a0 : Option (Md × D)} {k c : Int} {t3' v : D} {x5 x6 x7 : Option (Md × D)} (h5 : notIo [a0, sh (.int k), sh (.int c), some (.ow, t3'), sh v, x5, x6, x7, none, none] 5 = true) :
    pS G3 0 none t3 [a0, sh (.int k), sh (.int c), some (.ow, t3'), sh v, x5, x6, x7, none, none] = some (.nx [a0, sh (.int k), sh (.int c), some (.ow, t3'), sh v, sh (made v), x6, x7, none, none]) := by
  simp [t3, pS, pE, pA, pk, pfst, pslot, pvar, po, pfin, pb, pbE, pnx, pasg, frE, mutD, dOf, pcall, io19, made_run, h5]
end K63
end
section
set_option Elab.async false
set_option linter.all false
set_option maxRecDepth 100000
set_option maxHeartbeats 1000000
namespace K63
open PySem MP MQ
theorem ne_self {x : D} {d : PyData} (e : toP 40 x = some d) (h : SeqAt.shaped d = true) (q : PyData.eqv d d = true) : pcmp .NotEq x x = some false := by
  show (peq x x).map (!·) = some false
  unfold peq
  rw [e]
  simp only [h, q, Bool.and_true, if_true]
  rfl
def R15 (v : D) : List D := List.replicate 15 v
def R30 (v : D) : List D := List.replicate 30 v
theorem ne_str {s : Str} (hs : PyData.strOk s = true) : pcmp .NotEq (.str s) (.str s) = some false := ne_self (d := .str s) rfl (by simp [SeqAt.shaped, PyData.canLay0, PyData.depth, hs]) (by simp [PyData.eqv])
theorem ne_strs {s : Str} (hs : PyData.strOk s = true) : pcmp .NotEq (.lst (R30 (.str s))) (.lst (R30 (.str s))) = some false :=
  ne_self (d := .list (List.replicate 30 (.str s))) (by kernel_rfl) (by simp [SeqAt.shaped, PyData.canLay0, PyData.canLayAll0, PyData.depth, PyData.depthAll, List.replicate, hs]) (by simp [PyData.eqv, PyData.eqvAll, List.replicate])
theorem mul30 {v : D} : pbin .Mult (.lst [v]) (.int 30) = some (.lst (R30 v)) := by kernel_rfl
theorem loopC {f : D × Option D → PS → PV (Option D)} {ρ : PS} {x : D × Option D} {y : D} (h : f x ρ = pret (some y) ρ) : ∀ n, ploopC f (List.replicate n x) ρ = pret (List.replicate n y) ρ
  | 0 => rfl
  | n + 1 => by
    simp only [List.replicate_succ, ploopC, h, pbN, loopC h n]
    rfl
abbrev it5 : MI := .ev (.bin .Add (.call 21 (.cons (.var 5) .nil)) (.call 21 (.cons (.call 20 (.cons (.var 4) .nil)) .nil)))
abbrev el5 : ME := .bi .repr (.cons (.var 8) .nil)
abbrev lc5 : ME := .lc [8] el5 (.nm 8) it5 .none
abbrev r5 : ME := .bin .Mult (.lst (.cons (.bi .repr (.cons (.var 4) .nil)) .nil)) (.cst (.int 30))
theorem it5_ok {a0 : Option (Md × D)} {k c : Int} {t3 v : D} : pI G3 none it5 (last a0 k c t3 v) = pret (List.replicate 30 (v, none)) (last a0 k c t3 v) := by kernel_rfl
theorem lc5_ok {a0 : Option (Md × D)} {k c : Int} {t3 v : D} {s : Str} (hr : prepr v = some (.str s)) : pE G3 none false lc5 (last a0 k c t3 v) = pret (.lst (R30 (.str s))) (last a0 k c t3 v) := by
  have et : pturn (.nm 8) [8] (pCn G3 .none) (pE G3 none false el5) (v, none) (last a0 k c t3 v) = pret (some (.str s)) (last a0 k c t3 v) := by
    simp [pturn, tgIn, pfree, notOwn, pwipe, pasgX, pasg, notIo, pCn, pbN, pE, pAk, pk, pslot, po, pfin, pb, pbif, hr, prest, last, sh]
  unfold lc5 pE
  rw [it5_ok]
  show pbN (ploopC (pturn (.nm 8) [8] (pCn G3 .none) (pE G3 none false el5)) (List.replicate 30 (v, none)) (last a0 k c t3 v)) _ = _
  rw [loopC et 30]
  show (if (R30 (.str s)).length ≤ sizeLine then pfin false (D.lst (R30 (.str s))) (last a0 k c t3 v) else none) = _
  rw [if_pos (by rw [sizeLine_eq]; show (30 : Nat) ≤ 16777216; decide)]
  rfl
theorem r5_ok {a0 : Option (Md × D)} {k c : Int} {t3 v : D} {s : Str} (hr : prepr v = some (.str s)) : pE G3 none false r5 (last a0 k c t3 v) = pret (.lst (R30 (.str s))) (last a0 k c t3 v) := by
  have er : pbif .repr [v] = some (.str s) := hr
  have m30 := mul30 (v := .str s)
  simp [pE, pA, pAk, pk, pfst, pslot, po, pfin, pb, last, sh, dOf, er, m30, sizeLine_eq]
theorem s5_ok {a0 : Option (Md × D)} {k c : Int} {t3 v : D} {s : Str} (hr : prepr v = some (.str s)) (hs : PyData.strOk s = true) : pS G3 0 none t5 (last a0 k c t3 v) = some (.nx (last a0 k c t3 v)) := by
  have C : pE G3 none true (.cmp .NotEq lc5 r5) (last a0 k c t3 v) = pret (.bl false) (last a0 k c t3 v) := by
    unfold pE
    show pb (pb (pE G3 none false lc5 (last a0 k c t3 v)) fun x ρ1 => pb (pE G3 none false r5 ρ1) fun y ρ2 => pret (x, y) ρ2) (fun z ρ2 => po true ((pcmp .NotEq z.1 z.2).map .bl) ρ2) = _
    rw [lc5_ok hr]
    show pb (pb (pE G3 none false r5 (last a0 k c t3 v)) fun y ρ2 => pret (D.lst (R30 (.str s)), y) ρ2) (fun z ρ2 => po true ((pcmp .NotEq z.1 z.2).map .bl) ρ2) = _
    rw [r5_ok hr]
    show po true ((pcmp .NotEq (.lst (R30 (.str s))) (.lst (R30 (.str s)))).map .bl) (last a0 k c t3 v) = _
    rw [ne_strs hs]
    rfl
  have u : t5 = .ifS (.cmp .NotEq lc5 r5) (.cons (.ret (.cst (.bl false))) .nil) .nil := rfl
  rw [u]
  unfold pS
  rw [C]
  unfold pB
  rfl
theorem s6_ok {a0 : Option (Md × D)} {k c : Int} {t3 v : D} {s : Str} (hr : prepr v = some (.str s)) (hs : PyData.strOk s = true) : pS G3 0 none t6 (last a0 k c t3 v) = some (.nx (last a0 k c t3 v)) := by
  have er : pbif .repr [v] = some (.str s) := hr
  have ec : C3 22 [v] = some (.val (.str s) none) := by
    have : C3 22 [v] = pretOf false (pB (PGof io gl Γ0 (callP (PGof io gl Γ0) io T 0 2)) 0 none f22.body [sh v, none]) := rfl
    rw [this]
    simp [f22, pB, pS, pH, pE, pA, pAk, pk, pslot, pvar, po, pfin, pb, pbE, pbS, porX, punN, notIo, pretOf, pio, er, Γ0, exfI, sh]
  have er4 : pE G3 none false (.bi .repr (.cons (.var 4) .nil)) (last a0 k c t3 v) = pret (.str s) (last a0 k c t3 v) := by
    simp [pE, pAk, pk, pslot, po, pfin, pb, last, sh, er]
  have ec4 : pE G3 none false (.call 22 (.cons (.var 4) .nil)) (last a0 k c t3 v) = pret (.str s) (last a0 k c t3 v) := by
    simp [pE, pA, pvar, po, pfin, pb, last, sh, pcall, io22, ec]
  have C : pE G3 none true (.cmp .NotEq (.call 22 (.cons (.var 4) .nil)) (.bi .repr (.cons (.var 4) .nil))) (last a0 k c t3 v) = pret (.bl false) (last a0 k c t3 v) := by
    unfold pE
    show pb (pb (pE G3 none false (.call 22 (.cons (.var 4) .nil)) (last a0 k c t3 v)) fun x ρ1 => pb (pE G3 none false (.bi .repr (.cons (.var 4) .nil)) ρ1) fun y ρ2 => pret (x, y) ρ2) (fun z ρ2 => po true ((pcmp .NotEq z.1 z.2).map .bl) ρ2) = _
    rw [ec4]
    show pb (pb (pE G3 none false (.bi .repr (.cons (.var 4) .nil)) (last a0 k c t3 v)) fun y ρ2 => pret (D.str s, y) ρ2) (fun z ρ2 => po true ((pcmp .NotEq z.1 z.2).map .bl) ρ2) = _
    rw [er4]
    show po true ((pcmp .NotEq (.str s) (.str s)).map .bl) (last a0 k c t3 v) = _
    rw [ne_str hs]
    rfl
  have u : t6 = .ifS (.cmp .NotEq (.call 22 (.cons (.var 4) .nil)) (.bi .repr (.cons (.var 4) .nil))) (.cons (.ret (.cst (.bl false))) .nil) .nil := rfl
  rw [u]
  unfold pS
  rw [C]
  unfold pB
  rfl
end K63
end
section
set_option Elab.async false
set_option linter.all false
set_option maxRecDepth 100000
set_option maxHeartbeats 1000000
namespace K63
open PySem MP MQ
/-- the slots behind the loop's own, before the first turn and behind a turn -/
inductive RSt : PS → Prop
  | fst : RSt [none, none, none, none, none, none, none]
  | nxt {t3 t4 t5 t6 t7 : D} : RSt [some (.ow, t3), sh t4, sh t5, sh t6, sh t7, none, none]
theorem turn_ok {a0 : Option (Md × D)} {k c : Int} {r : PS} (hk : 0 ≤ k ∧ k ≤ 3000) (h : RSt r) : ∃ r', RSt r' ∧ pB G3 0 none lawB (a0 :: sh (.int k) :: sh (.int c) :: r) = some (.nx (a0 :: sh (.int k) :: sh (.int c) :: r')) := by
  have run : ∀ {ρ ρ1 ρ2 ρ3 ρ4 : PS}, pS G3 0 none t1 ρ = some (.nx ρ1) → pS G3 0 none t2 ρ1 = some (.nx ρ2) → pS G3 0 none t3 ρ2 = some (.nx ρ3) → pS G3 0 none t4 ρ3 = some (.nx ρ4) → pS G3 0 none t5 ρ4 = some (.nx ρ4) → pS G3 0 none t6 ρ4 = some (.nx ρ4) → pB G3 0 none lawB ρ = some (.nx ρ4) := by
    intro ρ ρ1 ρ2 ρ3 ρ4 e1 e2 e3 e4 e5 e6
    simp only [lawB, pB, e1, e2, e3, e4, e5, e6, pbS]
  cases h with
  | fst =>
    obtain ⟨a, b, d, e1⟩ := s1_ok (a0 := a0) (k := k) (c := c) (x3 := none) (x4 := none) (x5 := none) (x6 := none) (x7 := none) hk rfl
    obtain ⟨v, ⟨s, hr, hs⟩, e2⟩ := s2_ok (a0 := a0) (k := k) (c := c) (a := a) (b := b) (d := d) (x4 := none) (x5 := none) (x6 := none) (x7 := none) fun _ => rfl
    have e3 := s3_ok (a0 := a0) (k := k) (c := c) (t3' := st2 a b d) (v := v) (x5 := none) (x6 := none) (x7 := none) rfl
    exact ⟨_, .nxt, run e1 e2 e3 (s4a _ _ _ _ _) (s5_ok hr hs) (s6_ok hr hs)⟩
  | nxt =>
    rename_i t3 t4 t5 t6 t7
    obtain ⟨a, b, d, e1⟩ := s1_ok (a0 := a0) (k := k) (c := c) (x3 := some (.ow, t3)) (x4 := sh t4) (x5 := sh t5) (x6 := sh t6) (x7 := sh t7) hk rfl
    obtain ⟨v, ⟨s, hr, hs⟩, e2⟩ := s2_ok (a0 := a0) (k := k) (c := c) (a := a) (b := b) (d := d) (x4 := sh t4) (x5 := sh t5) (x6 := sh t6) (x7 := sh t7) fun _ => rfl
    have e3 := s3_ok (a0 := a0) (k := k) (c := c) (t3' := st2 a b d) (v := v) (x5 := sh t5) (x6 := sh t6) (x7 := sh t7) rfl
    exact ⟨_, .nxt, run e1 e2 e3 (s4b _ _ _ _ _ _ _) (s5_ok hr hs) (s6_ok hr hs)⟩
abbrev tg0 : MT := .tup (.cons (.nm 1) (.cons (.nm 2) .nil))
abbrev osh (o : Option D) : Option (Md × D) := o.map fun d => (Md.sh, d)
theorem loop_ok {a0 : Option (Md × D)} : ∀ (zs : List Int) (n : Nat) (x y : Option D) (r : PS), n + zs.length ≤ 3000 → RSt r → ∃ (x' y' : Option D) (r' : PS), RSt r' ∧ ploopF tg0 (pB G3 0 none lawB) (penum n (zs.map D.int)) (a0 :: osh x :: osh y :: r) = some (.nx (a0 :: osh x' :: osh y' :: r'))
  | [], _, x, y, r, _, h => ⟨x, y, r, h, rfl⟩
  | z :: zs, n, x, y, r, hn, h => by
    obtain ⟨r1, h1, e1⟩ := turn_ok (a0 := a0) (k := (n : Int)) (c := z) (by simp at hn; omega) h
    obtain ⟨x', y', r2, h2, e2⟩ := loop_ok (a0 := a0) zs (n + 1) (some (.int n)) (some (.int z)) r1 (by simp at hn; omega) h1
    refine ⟨x', y', r2, h2, ?_⟩
    have ea : pasgX tg0 (.int n, some (.int z)) (a0 :: osh x :: osh y :: r) = some (a0 :: sh (.int n) :: sh (.int z) :: r) := by
      cases x <;> cases y <;> simp [pasgX, pasg, notIo, osh]
    simp only [List.map_cons, penum, ploopF, ea, e1]
    exact e2
theorem toPs_ints {n : Nat} : ∀ ns : List Int, toPs (n + 1) (ns.map D.int) = some (ns.map PyData.int)
  | [] => by simp [toPs]
  | i :: r => by simp [toPs, toP, toPs_ints r]
theorem shaped_ints {cs : List Int} : SeqAt.shaped (.list (cs.map PyData.int)) = true := by
  have h1 : ∀ cs : List Int, PyData.canLayAll0 (cs.map PyData.int) = true := by
    intro cs
    induction cs with
    | nil => rfl
    | cons c r ih => simp [PyData.canLayAll0, PyData.canLay0, ih]
  have h2 : ∀ cs : List Int, PyData.depthAll (cs.map PyData.int) = 0 := by
    intro cs
    induction cs with
    | nil => rfl
    | cons c r ih => simp [PyData.depthAll, PyData.depth, ih]
  simp [SeqAt.shaped, PyData.canLay0, PyData.depth, h1, h2]
theorem eq_script {ns : List Int} : pcmp .Eq (.flst (ns.map D.int)) (.lst []) = some ns.isEmpty := by
  have t1 : toP 40 (.flst (ns.map D.int)) = some (.list (ns.map PyData.int)) := by
    show (toPs 39 (ns.map D.int)).map PyData.list = _
    rw [toPs_ints (n := 38)]
    rfl
  have t2 : toP 40 (.lst []) = some (.list (([] : List Int).map PyData.int)) := rfl
  show peq _ _ = _
  unfold peq
  rw [t1, t2]
  simp only [shaped_ints]
  cases ns with
  | nil => simp [PyData.eqv, PyData.eqvAll]
  | cons c r => simp [PyData.eqv, PyData.eqvAll]
theorem cells {ns : List Int} (h : ns.length ≤ 63) {r : PS} : ∃ zs : List Int, zs.length ≤ 64 ∧ pI G3 none it0 (sh (.flst (ns.map D.int)) :: r) = pret (penum 0 (zs.map D.int)) (sh (.flst (ns.map D.int)) :: r) := by
  have ec : ∃ ys : List Int, ys.length ≤ 63 ∧ pcut (ns.map D.int) none (some 6) = ys.map D.int := by
    unfold pcut
    rw [← List.map_drop, ← List.map_take]
    exact ⟨_, by rw [List.length_take, List.length_drop]; omega, rfl⟩
  obtain ⟨ys, hy, ey⟩ := ec
  let tl : List Int := if ns.isEmpty then [7] else []
  have htl : tl.length ≤ 1 := by
    show (if ns.isEmpty then [7] else [] : List Int).length ≤ 1
    split <;> decide
  have em : pbin .Mult (.lst [.int 7]) (.int (if ns.isEmpty then 1 else 0)) = some (.lst (tl.map D.int)) := by
    show _ = some (D.lst ((if ns.isEmpty then [7] else [] : List Int).map D.int))
    cases ns.isEmpty <;> rfl
  have ea : pbin .Add (.lst (ys.map D.int)) (.lst (tl.map D.int)) = some (.lst ((ys ++ tl).map D.int)) := by
    show (if (ys.map D.int).length + (tl.map D.int).length ≤ sizeLine then some (D.lst (ys.map D.int ++ tl.map D.int)) else none) = _
    rw [if_pos (by rw [sizeLine_eq, List.length_map, List.length_map]; omega), List.map_append]
  refine ⟨ys ++ tl, by rw [List.length_append]; omega, ?_⟩
  have es := eq_script (ns := ns)
  have em' : pbin .Mult (.lst [.int 7]) (.int (if ns = [] then 1 else 0)) = some (.lst (tl.map D.int)) := by
    rw [← em]
    cases ns <;> rfl
  simp [it0, pI, pE, pA, pAk, pO, pk, pfst, pslot, pvar, po, pfin, pb, dOf, sh, psl, ey, es, pbif, sizeLine_eq, em', ea, plst]
theorem run_ok (ns : List Int) (h : ns.length ≤ 63) : P 4 23 [.flst (ns.map D.int)] = some (.val (.bl true) none) := by
  obtain ⟨zs, hz, ei⟩ := cells (r := List.replicate 9 none) h
  obtain ⟨x, y, r, hr, el⟩ := loop_ok (a0 := sh (.flst (ns.map D.int))) zs 0 none none [none, none, none, none, none, none, none] (by omega) .fst
  have e0 : P 4 23 [.flst (ns.map D.int)] = pretOf false (pB G3 0 none f23.body (sh (.flst (ns.map D.int)) :: List.replicate 9 none)) := rfl
  rw [e0, f23_body]
  have e1 : pS G3 0 none (.forS tg0 it0 lawB) (sh (.flst (ns.map D.int)) :: List.replicate 9 none) = some (.nx (sh (.flst (ns.map D.int)) :: osh x :: osh y :: r)) := by
    unfold pS
    rw [ei]
    exact el
  simp only [pB, e1, pbS]
  simp [pS, pE, dOf, po, pfin, pbE, pretOf, pio]
theorem plain (ns : List Int) (h : ns.length ≤ 63) : ∃ hE, callN (gof Γ0) T 0 4 23 [.ref h0.length] (h0 ++ [.flst (ns.map L2.V.int)]) = some (.val (.bl true) hE) :=
  run_of (io := io) (gl := gl) (y := none) rfl (fun g d e => by cases e) (fun C c e => by cases e) (run_ok ns h)
end K63
end
section
set_option Elab.async false
set_option linter.all false
set_option pp.maxSteps 40
namespace K63
open PySem L2 MP
end K63
open PySem PySem.W PyProof.Rows
set_option maxRecDepth 100000 in
set_option maxHeartbeats 0 in
theorem PySem.Challenge.cw_truthrings_k63_error_classes_holds : PySem.Challenge.rw_truthrings_k63_error_classes.Holds := by
  w_on; o_law; k_head; (case hw => w_witness2)
  k_fill
  refine MP.walkG (l := PySem.Challenge.rw_truthrings_k63_error_classes) (k := 4) (fl := 23) (fu := 0) (x := "_law_script") (h0 := K63.h0) (Γ0 := K63.Γ0) (nm := K63.nm0) (T := K63.T) rfl rfl ⟨rfl, by decide, by decide⟩ (fun w h Y => PySem.W.kIn_of Y) ?F K63.plain
  case F =>
    intro w mg fa h KX G hmg
    refine' K63.all_mk KX G hmg ?gC0 ?gC1 ?gC2 ?gC3 ?gC4 ?gC5 ?gC6 ?gC7 ?gC8 ?gC9 ?gC10 ?gC11 ?gC12 ?gC13 ?gC14 ?gC15 ?R0 ?g15 ?l15 ?c15 ?k15 ?g16 ?l16 ?c16 ?k16 ?g17 ?l17 ?c17 ?k17 ?g18 ?l18 ?c18 ?k18 ?g19 ?l19 ?c19 ?k19 ?g20 ?l20 ?c20 ?k20 ?g21 ?l21 ?c21 ?k21 ?g22 ?l22 ?c22 ?k22 ?g23 ?l23 ?c23 ?k23 ?X1 ?X2 ?X3 ?X4 ?X5 ?X6 ?X7 ?X8 ?X9 ?X10 ?X11 ?X12 ?X13 ?X14 ?X15 ?xm ?xk ?xb ?n0 ?n1 ?n2 ?n3 ?n4 ?n5 ?n6 ?n7 ?n8 ?n9 ?n10
    (case gC0 => first | k_is | rfl)
    (case gC1 => first | k_is | rfl)
    (case gC2 => first | k_is | rfl)
    (case gC3 => first | k_is | rfl)
    (case gC4 => first | k_is | rfl)
    (case gC5 => first | k_is | rfl)
    (case gC6 => first | k_is | rfl)
    (case gC7 => first | k_is | rfl)
    (case gC8 => first | k_is | rfl)
    (case gC9 => first | k_is | rfl)
    (case gC10 => first | k_is | rfl)
    (case gC11 => first | k_is | rfl)
    (case gC12 => first | k_is | rfl)
    (case gC13 => first | k_is | rfl)
    (case gC14 => first | k_is | rfl)
    (case gC15 => first | k_is | rfl)
    (case R0 => first | k_is | rfl)
    (case g15 => first | k_is | rfl)
    (case l15 => first | k_is | rfl)
    (case c15 => first | k_is | rfl)
    (case k15 => first | k_is | rfl)
    (case g16 => first | k_is | rfl)
    (case l16 => first | k_is | rfl)
    (case c16 => first | k_is | rfl)
    (case k16 => first | k_is | rfl)
    (case g17 => first | k_is | rfl)
    (case l17 => first | k_is | rfl)
    (case c17 => first | k_is | rfl)
    (case k17 => first | k_is | rfl)
    (case g18 => first | k_is | rfl)
    (case l18 => first | k_is | rfl)
    (case c18 => first | k_is | rfl)
    (case k18 => first | k_is | rfl)
    (case g19 => first | k_is | rfl)
    (case l19 => first | k_is | rfl)
    (case c19 => first | k_is | rfl)
    (case k19 => first | k_is | rfl)
    (case g20 => first | k_is | rfl)
    (case l20 => first | k_is | rfl)
    (case c20 => first | k_is | rfl)
    (case k20 => first | k_is | rfl)
    (case g21 => first | k_is | rfl)
    (case l21 => first | k_is | rfl)
    (case c21 => first | k_is | rfl)
    (case k21 => first | k_is | rfl)
    (case g22 => first | k_is | rfl)
    (case l22 => first | k_is | rfl)
    (case c22 => first | k_is | rfl)
    (case k22 => first | k_is | rfl)
    (case g23 => first | k_is | rfl)
    (case l23 => first | k_is | rfl)
    (case c23 => first | k_is | rfl)
    (case k23 => first | k_is | rfl)
    (case X1 => refine' K63.xx_ring ?fOk ?lk ?sa ?no ?ini ?ty ?kp ?fn ?cd ?ga ?gg ?cl ?mr ?oc1 ?oc2 ?yb ?yt ?yd; (case fOk => decide +kernel); (case lk => first | k_is | rfl); (case sa => first | k_is | rfl); (case no => first | k_is | rfl); (case ini => first | k_is | rfl); (case ty => first | k_is | rfl); (case kp => first | k_is | rfl); (case fn => first | k_is | rfl); (case cd => first | k_is | rfl); (case ga => first | k_is | rfl); (case gg => first | k_is | rfl); (case cl => first | k_is | rfl); (case mr => first | k_is | rfl); (case oc1 => first | k_is | rfl); (case oc2 => first | k_is | rfl); (case yb => first | k_is | rfl); (case yt => first | k_is | rfl); (case yd => first | k_is | rfl))
    (case X2 => refine' K63.xx_ring ?fOk ?lk ?sa ?no ?ini ?ty ?kp ?fn ?cd ?ga ?gg ?cl ?mr ?oc1 ?oc2 ?yb ?yt ?yd; (case fOk => decide +kernel); (case lk => first | k_is | rfl); (case sa => first | k_is | rfl); (case no => first | k_is | rfl); (case ini => first | k_is | rfl); (case ty => first | k_is | rfl); (case kp => first | k_is | rfl); (case fn => first | k_is | rfl); (case cd => first | k_is | rfl); (case ga => first | k_is | rfl); (case gg => first | k_is | rfl); (case cl => first | k_is | rfl); (case mr => first | k_is | rfl); (case oc1 => first | k_is | rfl); (case oc2 => first | k_is | rfl); (case yb => first | k_is | rfl); (case yt => first | k_is | rfl); (case yd => first | k_is | rfl))
    (case X3 => refine' K63.xx_ring ?fOk ?lk ?sa ?no ?ini ?ty ?kp ?fn ?cd ?ga ?gg ?cl ?mr ?oc1 ?oc2 ?yb ?yt ?yd; (case fOk => decide +kernel); (case lk => first | k_is | rfl); (case sa => first | k_is | rfl); (case no => first | k_is | rfl); (case ini => first | k_is | rfl); (case ty => first | k_is | rfl); (case kp => first | k_is | rfl); (case fn => first | k_is | rfl); (case cd => first | k_is | rfl); (case ga => first | k_is | rfl); (case gg => first | k_is | rfl); (case cl => first | k_is | rfl); (case mr => first | k_is | rfl); (case oc1 => first | k_is | rfl); (case oc2 => first | k_is | rfl); (case yb => first | k_is | rfl); (case yt => first | k_is | rfl); (case yd => first | k_is | rfl))
    (case X4 => refine' K63.xx_ring ?fOk ?lk ?sa ?no ?ini ?ty ?kp ?fn ?cd ?ga ?gg ?cl ?mr ?oc1 ?oc2 ?yb ?yt ?yd; (case fOk => decide +kernel); (case lk => first | k_is | rfl); (case sa => first | k_is | rfl); (case no => first | k_is | rfl); (case ini => first | k_is | rfl); (case ty => first | k_is | rfl); (case kp => first | k_is | rfl); (case fn => first | k_is | rfl); (case cd => first | k_is | rfl); (case ga => first | k_is | rfl); (case gg => first | k_is | rfl); (case cl => first | k_is | rfl); (case mr => first | k_is | rfl); (case oc1 => first | k_is | rfl); (case oc2 => first | k_is | rfl); (case yb => first | k_is | rfl); (case yt => first | k_is | rfl); (case yd => first | k_is | rfl))
    (case X5 => refine' K63.xx_ring ?fOk ?lk ?sa ?no ?ini ?ty ?kp ?fn ?cd ?ga ?gg ?cl ?mr ?oc1 ?oc2 ?yb ?yt ?yd; (case fOk => decide +kernel); (case lk => first | k_is | rfl); (case sa => first | k_is | rfl); (case no => first | k_is | rfl); (case ini => first | k_is | rfl); (case ty => first | k_is | rfl); (case kp => first | k_is | rfl); (case fn => first | k_is | rfl); (case cd => first | k_is | rfl); (case ga => first | k_is | rfl); (case gg => first | k_is | rfl); (case cl => first | k_is | rfl); (case mr => first | k_is | rfl); (case oc1 => first | k_is | rfl); (case oc2 => first | k_is | rfl); (case yb => first | k_is | rfl); (case yt => first | k_is | rfl); (case yd => first | k_is | rfl))
    (case X6 => refine' K63.xx_ring ?fOk ?lk ?sa ?no ?ini ?ty ?kp ?fn ?cd ?ga ?gg ?cl ?mr ?oc1 ?oc2 ?yb ?yt ?yd; (case fOk => decide +kernel); (case lk => first | k_is | rfl); (case sa => first | k_is | rfl); (case no => first | k_is | rfl); (case ini => first | k_is | rfl); (case ty => first | k_is | rfl); (case kp => first | k_is | rfl); (case fn => first | k_is | rfl); (case cd => first | k_is | rfl); (case ga => first | k_is | rfl); (case gg => first | k_is | rfl); (case cl => first | k_is | rfl); (case mr => first | k_is | rfl); (case oc1 => first | k_is | rfl); (case oc2 => first | k_is | rfl); (case yb => first | k_is | rfl); (case yt => first | k_is | rfl); (case yd => first | k_is | rfl))
    (case X7 => refine' K63.xx_ring ?fOk ?lk ?sa ?no ?ini ?ty ?kp ?fn ?cd ?ga ?gg ?cl ?mr ?oc1 ?oc2 ?yb ?yt ?yd; (case fOk => decide +kernel); (case lk => first | k_is | rfl); (case sa => first | k_is | rfl); (case no => first | k_is | rfl); (case ini => first | k_is | rfl); (case ty => first | k_is | rfl); (case kp => first | k_is | rfl); (case fn => first | k_is | rfl); (case cd => first | k_is | rfl); (case ga => first | k_is | rfl); (case gg => first | k_is | rfl); (case cl => first | k_is | rfl); (case mr => first | k_is | rfl); (case oc1 => first | k_is | rfl); (case oc2 => first | k_is | rfl); (case yb => first | k_is | rfl); (case yt => first | k_is | rfl); (case yd => first | k_is | rfl))
    (case X8 => refine' K63.xx_ring ?fOk ?lk ?sa ?no ?ini ?ty ?kp ?fn ?cd ?ga ?gg ?cl ?mr ?oc1 ?oc2 ?yb ?yt ?yd; (case fOk => decide +kernel); (case lk => first | k_is | rfl); (case sa => first | k_is | rfl); (case no => first | k_is | rfl); (case ini => first | k_is | rfl); (case ty => first | k_is | rfl); (case kp => first | k_is | rfl); (case fn => first | k_is | rfl); (case cd => first | k_is | rfl); (case ga => first | k_is | rfl); (case gg => first | k_is | rfl); (case cl => first | k_is | rfl); (case mr => first | k_is | rfl); (case oc1 => first | k_is | rfl); (case oc2 => first | k_is | rfl); (case yb => first | k_is | rfl); (case yt => first | k_is | rfl); (case yd => first | k_is | rfl))
    (case X9 => refine' K63.xx_ring ?fOk ?lk ?sa ?no ?ini ?ty ?kp ?fn ?cd ?ga ?gg ?cl ?mr ?oc1 ?oc2 ?yb ?yt ?yd; (case fOk => decide +kernel); (case lk => first | k_is | rfl); (case sa => first | k_is | rfl); (case no => first | k_is | rfl); (case ini => first | k_is | rfl); (case ty => first | k_is | rfl); (case kp => first | k_is | rfl); (case fn => first | k_is | rfl); (case cd => first | k_is | rfl); (case ga => first | k_is | rfl); (case gg => first | k_is | rfl); (case cl => first | k_is | rfl); (case mr => first | k_is | rfl); (case oc1 => first | k_is | rfl); (case oc2 => first | k_is | rfl); (case yb => first | k_is | rfl); (case yt => first | k_is | rfl); (case yd => first | k_is | rfl))
    (case X10 => refine' K63.xx_val ?fOk ?lk ?sa ?no ?ini ?ty ?kp ?fn ?cd ?ga ?gg ?cl ?mr ?oc1 ?oc2 ?yb ?yt ?yd; (case fOk => decide +kernel); (case lk => first | k_is | rfl); (case sa => first | k_is | rfl); (case no => first | k_is | rfl); (case ini => first | k_is | rfl); (case ty => first | k_is | rfl); (case kp => first | k_is | rfl); (case fn => first | k_is | rfl); (case cd => first | k_is | rfl); (case ga => first | k_is | rfl); (case gg => first | k_is | rfl); (case cl => first | k_is | rfl); (case mr => first | k_is | rfl); (case oc1 => first | k_is | rfl); (case oc2 => first | k_is | rfl); (case yb => first | k_is | rfl); (case yt => first | k_is | rfl); (case yd => first | k_is | rfl))
    (case X11 => refine' K63.xx_ovf ?fOk ?lk ?sa ?no ?ini ?ty ?kp ?fn ?cd ?ga ?gg ?cl ?mr ?oc1 ?oc2 ?yb ?yt ?yd; (case fOk => decide +kernel); (case lk => first | k_is | rfl); (case sa => first | k_is | rfl); (case no => first | k_is | rfl); (case ini => first | k_is | rfl); (case ty => first | k_is | rfl); (case kp => first | k_is | rfl); (case fn => first | k_is | rfl); (case cd => first | k_is | rfl); (case ga => first | k_is | rfl); (case gg => first | k_is | rfl); (case cl => first | k_is | rfl); (case mr => first | k_is | rfl); (case oc1 => first | k_is | rfl); (case oc2 => first | k_is | rfl); (case yb => first | k_is | rfl); (case yt => first | k_is | rfl); (case yd => first | k_is | rfl))
    (case X12 => refine' K63.xx_key ?fOk ?lk ?sa ?no ?ini ?ty ?kp ?fn ?cd ?ga ?gg ?cl ?mr ?oc1 ?oc2 ?yb ?yt ?yd; (case fOk => decide +kernel); (case lk => first | k_is | rfl); (case sa => first | k_is | rfl); (case no => first | k_is | rfl); (case ini => first | k_is | rfl); (case ty => first | k_is | rfl); (case kp => first | k_is | rfl); (case fn => first | k_is | rfl); (case cd => first | k_is | rfl); (case ga => first | k_is | rfl); (case gg => first | k_is | rfl); (case cl => first | k_is | rfl); (case mr => first | k_is | rfl); (case oc1 => first | k_is | rfl); (case oc2 => first | k_is | rfl); (case yb => first | k_is | rfl); (case yt => first | k_is | rfl); (case yd => first | k_is | rfl))
    (case X13 => refine' K63.xx_run ?fOk ?lk ?sa ?no ?ini ?ty ?kp ?fn ?cd ?ga ?gg ?cl ?mr ?oc1 ?oc2 ?yb ?yt ?yd; (case fOk => decide +kernel); (case lk => first | k_is | rfl); (case sa => first | k_is | rfl); (case no => first | k_is | rfl); (case ini => first | k_is | rfl); (case ty => first | k_is | rfl); (case kp => first | k_is | rfl); (case fn => first | k_is | rfl); (case cd => first | k_is | rfl); (case ga => first | k_is | rfl); (case gg => first | k_is | rfl); (case cl => first | k_is | rfl); (case mr => first | k_is | rfl); (case oc1 => first | k_is | rfl); (case oc2 => first | k_is | rfl); (case yb => first | k_is | rfl); (case yt => first | k_is | rfl); (case yd => first | k_is | rfl))
    (case X14 => refine' K63.xx_run ?fOk ?lk ?sa ?no ?ini ?ty ?kp ?fn ?cd ?ga ?gg ?cl ?mr ?oc1 ?oc2 ?yb ?yt ?yd; (case fOk => decide +kernel); (case lk => first | k_is | rfl); (case sa => first | k_is | rfl); (case no => first | k_is | rfl); (case ini => first | k_is | rfl); (case ty => first | k_is | rfl); (case kp => first | k_is | rfl); (case fn => first | k_is | rfl); (case cd => first | k_is | rfl); (case ga => first | k_is | rfl); (case gg => first | k_is | rfl); (case cl => first | k_is | rfl); (case mr => first | k_is | rfl); (case oc1 => first | k_is | rfl); (case oc2 => first | k_is | rfl); (case yb => first | k_is | rfl); (case yt => first | k_is | rfl); (case yd => first | k_is | rfl))
    (case X15 => refine' K63.xx_run ?fOk ?lk ?sa ?no ?ini ?ty ?kp ?fn ?cd ?ga ?gg ?cl ?mr ?oc1 ?oc2 ?yb ?yt ?yd; (case fOk => decide +kernel); (case lk => first | k_is | rfl); (case sa => first | k_is | rfl); (case no => first | k_is | rfl); (case ini => first | k_is | rfl); (case ty => first | k_is | rfl); (case kp => first | k_is | rfl); (case fn => first | k_is | rfl); (case cd => first | k_is | rfl); (case ga => first | k_is | rfl); (case gg => first | k_is | rfl); (case cl => first | k_is | rfl); (case mr => first | k_is | rfl); (case oc1 => first | k_is | rfl); (case oc2 => first | k_is | rfl); (case yb => first | k_is | rfl); (case yt => first | k_is | rfl); (case yd => first | k_is | rfl))
    (case xm => first | kernel_rfl | rfl)
    (case xk => first | kernel_rfl | rfl)
    (case xb => first | kernel_rfl | rfl)
    (case n0 => first | k_is | rfl)
    (case n1 => first | k_is | rfl)
    (case n2 => first | k_is | rfl)
    (case n3 => first | k_is | rfl)
    (case n4 => first | k_is | rfl)
    (case n5 => first | k_is | rfl)
    (case n6 => first | k_is | rfl)
    (case n7 => first | k_is | rfl)
    (case n8 => first | k_is | rfl)
    (case n9 => first | k_is | rfl)
    (case n10 => first | k_is | rfl)
end
