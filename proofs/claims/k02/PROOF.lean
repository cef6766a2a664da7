import PyProof.Rows.All
import Wide.All
import OpenK.AllK
import Wide.FinOn
import HandS.ForMost
import HandS.CallSlots
import HandS.ClsMeth
import HandS.Dict
import HandS.Ends
import HandS.Exc
import HandS.ExcField
import HandS.ExcIs
import HandS.IsInst
import HandS.Property
import HandS.RaiseMore
import HandS.Star
import HandS.StrMore
import HandS.Strs
import HandS.TryMany
import HandS.TupAny
import HandS.TupLe
import HandS.Wide
import HandS.WideMore
import HandS.Words
import HandS.WordsExc
import HandS.Zip
import PySem.Challenge.RW_truthrings_k02_statements_refused
section
set_option Elab.async false
set_option linter.all false
namespace MP
open PySem L2

/-- an object of the interpreter's heap -/
inductive IO where
  | lst (xs : List V)
  | flst (xs : List V)
  | tup (xs : List V) (k : Bool := false)
  | dic (kvs : List (Key × V))
  | ins (C : Nat) (fs : List (Nat × V))
  | xd (f : Nat) (v : V)
  | cls (C : Nat)
  deriving DecidableEq
abbrev IH := List IO
inductive Out (α : Type) where
  | val (a : α) (h : IH)
  | exn (C d : Nat) (h : IH)
abbrev EV (α : Type) := Option (Out α)
def bnd {α β : Type} : EV α → (α → IH → EV β) → EV β
  | some (.val a h), k => k a h
  | some (.exn C d h), _ => some (.exn C d h)
  | none, _ => none
/-- where nothing may be raised -/
def bndN {α β : Type} : EV α → (α → IH → EV β) → EV β
  | some (.val a h), k => k a h
  | some (.exn _ _ _), _ => none
  | none, _ => none
abbrev ret {α : Type} (a : α) (h : IH) : EV α := some (.val a h)
def new (o : IO) (h : IH) : EV V := some (.val (.ref h.length) (h ++ [o]))

inductive BT | non | bool | int | str | list | tup | dict
  deriving DecidableEq
inductive Ty | b (t : BT) | c (C : Nat)
  deriving DecidableEq
inductive Bif | len | all | any | sum | max1 | min1 | max2 | min2 | int | str | repr | list | tuple | lenSet | sorted | ord
  deriving DecidableEq
inductive Bm | append | extend | pop | clear | join | count | index | lstrip | split | partition | get1 | get2 | setdef | replace
  deriving DecidableEq
mutual
inductive MT where
  | nm (i : Nat) | tup (ts : MTs)
inductive MTs where
  | nil | cons (t : MT) (r : MTs)
end
mutual
inductive ME where
  | var (i : Nat)
  | glb (g : Nat)
  | cst (v : V)
  | lst (es : MA)
  | tup (es : MA)
  | bin (op : Operator) (a b : ME)
  | neg (a : ME)
  | cmp (op : CmpOp) (a b : ME)
  | cmp2 (op op' : CmpOp) (a b c : ME)
  | andE (a b : ME)
  | orE (a b : ME)
  | notE (a : ME)
  | ife (c a b : ME)
  | ix (a b : ME)
  | sl (a : ME) (lo hi : MO)
  | att (a : ME) (f : Nat)
  | call (f : Nat) (es : MA)
  | make (C : Nat) (es : MA)
  | met (o : ME) (m : Nat) (es : MA)
  | clm (C m : Nat) (es : MA)
  | callv (i : Nat) (es : MA)
  | bi (b : Bif) (es : MA)
  | bm (m : Bm) (o : ME) (es : MA)
  | isI (a : ME) (t : Ty)
  | isIs (a : ME) (ts : List Ty)
  | lc (ws : List Nat) (elt : ME) (tg : MT) (it : MI) (c : MO)
  | curF (f : Nat)
  | curI (C : Nat)
  | curB (b : Nat)
  | dct (kvs : List (Key × V))
inductive MA where
  | nil | cons (e : ME) (r : MA)
inductive MO where
  | none | some (e : ME)
inductive MI where
  | ev (e : ME) | rng1 (a : ME) | rng2 (a b : ME) | enum (e : ME) | zip (a b : ME) | items (e : ME) | vals (e : ME)
end
mutual
inductive MS where
  | asg (t : MT) (e : ME)
  | par (t : MT) (es : MA)
  | asgA (o : ME) (f : Nat) (e : ME)
  | asgS (o k e : ME)
  | aug (op : Operator) (i : Nat) (e : ME)
  | augA (op : Operator) (o : ME) (f : Nat) (e : ME)
  | ex (e : ME)
  | ret (e : ME)
  | retN
  | ifS (c : ME) (a b : MB)
  | whl (c : ME) (b : MB)
  | forS (t : MT) (it : MI) (b : MB)
  | rais (C : Nat) (e : ME)
  | tryS (b : MB) (hs : MH)
  | pss | brk | cnt
inductive MB where
  | nil | cons (s : MS) (r : MB)
inductive MH where
  | nil | cons (c : Nat) (nm : Option Nat) (b : MB) (r : MH)
end

/-- what the text says besides its defs' bodies -/
structure Gam where
  call : Nat → List V → IH → EV V
  glob : Nat → Option V
  init : Nat → Option Nat
  meth : Nat → Nat → Option Nat
  prop : Nat → Nat → Option Nat
  con : Nat → Nat → Option V
  cmeth : Nat → Nat → Option (Nat × Bool)
  callm : Nat → Option Nat
  exf : Nat → Option Nat
  sub : Nat → Nat → Bool
  clsAt : Nat → Option Nat
  isF : Nat → Nat → Bool
  subB : Nat → Nat → Bool

/-! ### values -/
def truth (h : IH) : V → Option Bool
  | .non => some false
  | .bl b => some b
  | .int i => some (i != 0)
  | .str s => if s.length ≤ sizeLine then some ((s.length : Int) != 0) else none
  | .ref a => match h[a]? with
    | some (.lst xs) => some (!xs.isEmpty)
    | some (.flst xs) => some (!xs.isEmpty)
    | some (.tup xs _) => some (!xs.isEmpty)
    | some (.dic kvs) => some (!kvs.isEmpty)
    | _ => none
  | _ => none
/-- a value as data -/
def dataL (f : V → Option PyData) : List V → Option (List PyData)
  | [] => some []
  | v :: r => match f v, dataL f r with
    | some d, some ds => some (d :: ds)
    | _, _ => none
def toD (h : IH) : Nat → V → Option PyData
  | 0, _ => none
  | n + 1, v => match v with
    | .non => some .none
    | .bl b => some (.bool b)
    | .int i => some (.int i)
    | .str s => some (.str s)
    | .ref a => match h[a]? with
      | some (.lst xs) => (dataL (toD h n) xs).map .list
      | some (.flst xs) => (dataL (toD h n) xs).map .list
      | some (.tup xs _) => (dataL (toD h n) xs).map .tuple
      | _ => none
    | _ => none
def seqOf (h : IH) : V → Option (List V)
  | .ref a => match h[a]? with
    | some (.lst xs) => some xs
    | some (.flst xs) => some xs
    | some (.tup xs _) => some xs
    | _ => none
  | _ => none
def lstOf (h : IH) : V → Option (List V)
  | .ref a => match h[a]? with
    | some (.lst xs) => some xs
    | some (.flst xs) => some xs
    | _ => none
  | _ => none
def tyOf (h : IH) : V → Option Ty
  | .non => some (.b .non)
  | .bl _ => some (.b .bool)
  | .int _ => some (.b .int)
  | .str _ => some (.b .str)
  | .ref a => match h[a]? with
    | some (.lst _) => some (.b .list)
    | some (.flst _) => some (.b .list)
    | some (.tup _ _) => some (.b .tup)
    | some (.dic _) => some (.b .dict)
    | some (.ins C _) => some (.c C)
    | _ => none
  | _ => none
def isTy (Γ : Gam) : Ty → Ty → Bool
  | .b a, .b b => a == b || (a == .bool && b == .int)
  | .c C, .c D => Γ.sub C D
  | _, _ => false
def intsOf : List V → Option (List Int)
  | [] => some []
  | .int i :: r => (intsOf r).map (i :: ·)
  | _ :: _ => none
def boolsOf : List V → Option (List Bool)
  | [] => some []
  | .bl i :: r => (boolsOf r).map (i :: ·)
  | _ :: _ => none
def strsOf : List V → Option (List Str)
  | [] => some []
  | .str i :: r => (strsOf r).map (i :: ·)
  | _ :: _ => none
def lookF (f : Nat) : List (Nat × V) → Option V
  | [] => none
  | (g, v) :: r => if f = g then some v else lookF f r
def putI (f : Nat) (v : V) : List (Nat × V) → List (Nat × V)
  | [] => [(f, v)]
  | (g, u) :: r => if g = f then (g, v) :: r else (g, u) :: putI f v r
/-- two ints whose product is below the line -/
def mulOk (i j : Int) : Bool := decide (i.natAbs.log2 + j.natAbs.log2 < 1000000)
def divOk (j : Int) : Bool := decide (0 < j ∧ j.natAbs.log2 < 9000)

def binop (op : Operator) (x y : V) (h : IH) : EV V :=
  match op, x, y with
  | .Add, .int i, .int j => ret (.int (i + j)) h
  | .Sub, .int i, .int j => ret (.int (i - j)) h
  | .Mult, .int i, .int j => if mulOk i j then ret (.int (i * j)) h else none
  | .FloorDiv, .int i, .int j => if divOk j then ret (.int (i / j)) h else none
  | .Mod, .int i, .int j => if 0 < j then ret (.int (i % j)) h else none
  | .Pow, .int i, .int j => if 0 ≤ j ∧ j ≤ 1000000 ∧ i.natAbs < 2 ^ 64 then ret (.int (i ^ j.toNat)) h else none
  | .Add, .str s, .str t => if s.length + t.length ≤ sizeLine then ret (.str (s ++ t)) h else none
  | .Add, .ref a, .ref b => match h[a]?, h[b]? with
    | some (.lst xs), some (.lst ys) => if xs.length + ys.length ≤ sizeLine then new (.lst (xs ++ ys)) h else none
    | some (.tup xs _), some (.tup ys _) => if xs.length + ys.length ≤ sizeLine then
        (if xs.isEmpty then ret (.ref b) h else if ys.isEmpty then ret (.ref a) h else new (.tup (xs ++ ys)) h) else none
    | _, _ => none
  | .Mult, .ref a, .int k => match h[a]? with
    | some (.lst xs) => if -(2 ^ 63) ≤ k ∧ k < 2 ^ 63 ∧ xs.length * k.toNat ≤ sizeLine then new (.lst (List.replicate k.toNat xs).flatten) h else none
    | _ => none
  | _, _, _ => none
def eqOp (x y : V) (h : IH) : Option Bool := match toD h 40 x, toD h 40 y with
  | some d, some e => if SeqAt.shaped d && SeqAt.shaped e then some (PyData.eqv d e) else none
  | _, _ => none
def cmpop (op : CmpOp) (x y : V) (h : IH) : EV V :=
  match op with
  | .Eq => match eqOp x y h with | some b => ret (.bl b) h | none => none
  | .NotEq => match eqOp x y h with | some b => ret (.bl (!b)) h | none => none
  | .Lt => match x, y with
    | .int i, .int j => ret (.bl (decide (i < j))) h
    | .str i, .str j => ret (.bl (decide (i.cps.toList < j.cps.toList))) h
    | _, _ => none
  | .LtE => match x, y with
    | .int i, .int j => ret (.bl (decide (i ≤ j))) h
    | _, _ => none
  | .Gt => match x, y with
    | .int i, .int j => ret (.bl (decide (j < i))) h
    | _, _ => none
  | .GtE => match x, y with
    | .int i, .int j => ret (.bl (decide (j ≤ i))) h
    | _, _ => none
  | .Is => match x, y with
    | x, .non => ret (.bl (decide (x = .non))) h
    | .bl a, .bl b => ret (.bl (decide (a = b))) h
    | _, _ => none
  | .IsNot => match x, y with
    | x, .non => ret (.bl (!decide (x = .non))) h
    | .bl a, .bl b => ret (.bl (!decide (a = b))) h
    | _, _ => none
  | .In => match x, y with
    | .str i, .str j => ret (.bl (!(Builtin.Str.occurrences j i 0 j.length 1).isEmpty)) h
    | x, y => match seqOf h y with
      | some xs => if flatV x && xs.all flatV then ret (.bl (inV x xs)) h else none
      | none => none
  | .NotIn => match x, y with
    | .str i, .str j => ret (.bl (!(!(Builtin.Str.occurrences j i 0 j.length 1).isEmpty))) h
    | x, y => match seqOf h y with
      | some xs => if flatV x && xs.all flatV then ret (.bl (!inV x xs)) h else none
      | none => none

def getix (x y : V) (h : IH) : EV V := match x, y with
  | .str z, .int i => if z.length ≤ sizeLine then (match atI z.cps.toList i with
    | some c => ret (.str ⟨#[c]⟩) h
    | none => none) else none
  | .ref a, .int i => match seqOf h (.ref a) with
    | some xs => (match atI xs i with
      | some v => ret v h
      | none => none)
    | none => none
  | _, _ => none
def getsl (x : V) (lo hi : Option Int) (h : IH) : EV V := match x with
  | .str z => if z.length ≤ sizeLine then ret (.str (cutS z lo hi)) h else none
  | .ref a => match h[a]? with
    | some (.lst xs) => new (.lst (cutV xs lo hi)) h
    | some (.flst xs) => new (.lst (cutV xs lo hi)) h
    | some (.tup xs _) => if HT.sIx xs.length 0 lo = 0 ∧ HT.sIx xs.length xs.length hi = xs.length then ret (.ref a) h else new (.tup (cutV xs lo hi)) h
    | _ => none
  | _ => none
def lenOf (x : V) (h : IH) : Option Nat := match x with
  | .str z => if z.length ≤ sizeLine then some z.length else none
  | .ref a => match h[a]? with
    | some (.lst xs) => some xs.length
    | some (.flst xs) => some xs.length
    | some (.tup xs _) => some xs.length
    | some (.dic kvs) => some kvs.length
    | _ => none
  | _ => none
/-- the greatest, the least of some ints -/
def maxI : List Int → Option Int
  | [] => none
  | i :: r => some (r.foldl (fun a b => if a < b then b else a) i)
def minI : List Int → Option Int
  | [] => none
  | i :: r => some (r.foldl (fun a b => if b < a then b else a) i)
def distinct (ns : List Int) : Nat := (PyProof.Rows.firstMet (fun i => ns.getD i 0) ns.length).length
/-- a dict's pairs as data: keys ints, values flat -/
def flatD : V → Option PyData
  | .non => some .none
  | .bl b => some (.bool b)
  | .int i => some (.int i)
  | .str s => some (.str s)
  | _ => none
def pairsD : List (Key × V) → Option (List (PyData × PyData))
  | [] => some []
  | (.inl i, v) :: r => match flatD v, pairsD r with
    | some d, some ds => some ((.int i, d) :: ds)
    | _, _ => none
  | _ => none
def dicD (x : V) (h : IH) : Option PyData := match x with
  | .ref a => match h[a]? with
    | some (.dic kvs) => (pairsD kvs).map .dict
    | _ => none
  | _ => none
def bifn (b : Bif) (vs : List V) (h : IH) : EV V := match b, vs with
  | .len, [x] => match lenOf x h with
    | some n => ret (.int n) h
    | none => none
  | .all, [x] => match lstOf h x with
    | some xs => (match boolsOf xs with
      | some bs => ret (.bl (bs.all id)) h
      | none => none)
    | none => none
  | .any, [x] => match lstOf h x with
    | some xs => (match boolsOf xs with
      | some bs => ret (.bl (bs.any id)) h
      | none => none)
    | none => none
  | .sum, [x] => match lstOf h x with
    | some xs => (match intsOf xs with
      | some is => ret (.int is.sum) h
      | none => none)
    | none => none
  | .max1, [x] => match lstOf h x with
    | some xs => (match (intsOf xs).bind maxI with
      | some i => ret (.int i) h
      | none => none)
    | none => none
  | .min1, [x] => match lstOf h x with
    | some xs => (match (intsOf xs).bind minI with
      | some i => ret (.int i) h
      | none => none)
    | none => none
  | .max2, [.int i, .int j] => ret (.int (if j > i then j else i)) h
  | .min2, [.int i, .int j] => ret (.int (if j < i then j else i)) h
  | .int, [.int i] => ret (.int i) h
  | .int, [.bl k] => ret (.int (if k then 1 else 0)) h
  | .int, [.str s] => match PySem.intText? s with
    | some n => if s.length ≤ 640 then ret (.int n) h else none
    | none => none
  | .str, [.int i] => if i.natAbs.log2 < 1920 then ret (.str (toString i)) h else none
  | .str, [.str s] => ret (.str s) h
  | .repr, [x] => match toD h 40 x with
    | some d => if PyData.showable d && !PyData.hasDict d && decide (d.shown.length + 64 ≤ sizeLine) && decide (d.depth ≤ 60) then ret (.str d.shown) h else none
    | none => match dicD x h with
      | some d => if PyData.showable d && decide (d.shown.length + 64 ≤ sizeLine) && decide (d.depth ≤ 60) then ret (.str d.shown) h else none
      | none => none
  | .list, [x] => match seqOf h x with
    | some xs => new (.lst xs) h
    | none => none
  | .tuple, [.ref a] => match h[a]? with
    | some (.lst xs) => new (.tup xs) h
    | some (.flst xs) => new (.tup xs) h
    | some (.tup _ _) => ret (.ref a) h
    | _ => none
  | .lenSet, [x] => match lstOf h x with
    | some xs => (match intsOf xs with
      | some is => if is.length < 64 then ret (.int (distinct is)) h else none
      | none => none)
    | none => none
  | .ord, [.str s] => if s.length = 1 then ret (.int (s.cps.getD 0 0 : Nat)) h else none
  | _, _ => none
def setH (h : IH) (a : Nat) (o : IO) : IH := h.set a o
def mAppend (x : V) (vs : List V) (h : IH) : EV V := match x, vs with
  | .ref a, [y] => match h[a]? with
    | some (.lst xs) => if xs.length < sizeLine then ret .non (h.set a (.lst (xs ++ [y]))) else none
    | _ => none
  | _, _ => none
def mExtend (x : V) (vs : List V) (h : IH) : EV V := match x, vs with
  | .ref a, [.ref b] => match h[a]?, h[b]? with
    | some (.lst xs), some (.lst ys) => if xs.length + ys.length ≤ sizeLine then ret .non (h.set a (.lst (xs ++ ys))) else none
    | _, _ => none
  | _, _ => none
def mPop (x : V) (vs : List V) (h : IH) : EV V := match x, vs with
  | .ref a, [] => match h[a]? with
    | some (.lst xs) => (match xs[xs.length - 1]? with
      | some y => ret y (h.set a (.lst xs.dropLast))
      | none => none)
    | _ => none
  | _, _ => none
def mClear (x : V) (vs : List V) (h : IH) : EV V := match x, vs with
  | .ref a, [] => match h[a]? with
    | some (.lst _) => ret .non (h.set a (.lst []))
    | _ => none
  | _, _ => none
def mJoin (x : V) (vs : List V) (h : IH) : EV V := match x, vs with
  | .str s, [y] => match seqOf h y with
    | some xs => (match strsOf xs with
      | some ys => if (ys.map (·.length)).sum + ys.length * s.length ≤ 16777216 then ret (.str (Txt.join s ys)) h else none
      | none => none)
    | none => none
  | _, _ => none
def mCount (x : V) (vs : List V) (h : IH) : EV V := match x, vs with
  | .str s, [.str t] => ret (.int (Txt.count s t)) h
  | _, _ => none
def mIndex (x : V) (vs : List V) (h : IH) : EV V := match x, vs with
  | .ref a, [.str z] => match h[a]? with
    | some (.tup xs true) => (match strsOf xs with
      | some ys => if z ∈ ys then ret (.int (ys.idxOf z : Nat)) h else none
      | none => none)
    | _ => none
  | _, _ => none
def mLstrip (x : V) (vs : List V) (h : IH) : EV V := match x, vs with
  | .str s, [.str t] => if s.length ≤ sizeLine then ret (.str (Txt.lstripChars s t)) h else none
  | _, _ => none
def mSplit (x : V) (vs : List V) (h : IH) : EV V := match x, vs with
  | .str s, [.str t] => if t.length ≠ 0 ∧ s.length + 2 ≤ sizeLine then new (.lst ((Txt.split s t).map V.str)) h else none
  | _, _ => none
def mPartition (x : V) (vs : List V) (h : IH) : EV V := match x, vs with
  | .str s, [.str t] => if t.length ≠ 0 ∧ s.length ≤ sizeLine then new (.tup [.str (Txt.partition s t).1, .str (Txt.partition s t).2.1, .str (Txt.partition s t).2.2]) h else none
  | _, _ => none
def bmeth (m : Bm) (x : V) (vs : List V) (h : IH) : EV V := match m with
  | .append => mAppend x vs h
  | .extend => mExtend x vs h
  | .pop => mPop x vs h
  | .clear => mClear x vs h
  | .join => mJoin x vs h
  | .count => mCount x vs h
  | .index => mIndex x vs h
  | .lstrip => mLstrip x vs h
  | .split => mSplit x vs h
  | .partition => mPartition x vs h
  | _ => none
/-- the receiver is of the method's type -/
def isLst (x : V) (h : IH) : Bool := match x with
  | .ref a => (match h[a]? with | some (.lst _) => true | _ => false)
  | _ => false
def isTupK (x : V) (h : IH) : Bool := match x with
  | .ref a => (match h[a]? with | some (.tup _ true) => true | _ => false)
  | _ => false
def isStr : V → Bool
  | .str _ => true
  | _ => false
def bmTy (m : Bm) (x : V) (h : IH) : Bool := match m with
  | .append | .extend | .pop | .clear => isLst x h
  | .index => isTupK x h
  | .join | .count | .lstrip | .split | .partition => isStr x
  | _ => false

/-! ### targets -/
mutual
def asgT : MT → V → St → IH → Option St
  | .nm i, v, σ, _ => some (σ.set i (some v))
  | .tup ts, v, σ, h => match v with
    | .ref a => match h[a]? with
      | some (.tup xs _) => asgTs ts xs σ h
      | _ => none
    | _ => none
def asgTs : MTs → List V → St → IH → Option St
  | .nil, [], σ, _ => some σ
  | .cons t r, v :: vs, σ, h => match asgT t v σ h with
    | some σ' => asgTs r vs σ' h
    | none => none
  | _, _, _, _ => none
end
def asgX : MT → V × Option V → St → IH → Option St
  | t, (v, none), σ, h => asgT t v σ h
  | .tup (.cons t (.cons u .nil)), (v, some w), σ, h => match asgT t v σ h with
    | some σ' => asgT u w σ' h
    | none => none
  | _, _, _, _ => none
structure Its where
  xs : List (V × Option V)
  gd : List (Nat × IO)
def okG (h : IH) (gd : List (Nat × IO)) : Bool := gd.all fun p => h[p.1]? == some p.2
def loopC (f : V × Option V → IH → EV (Option V)) (gd : List (Nat × IO)) : List (V × Option V) → IH → EV (List V)
  | [], h => if okG h gd then ret [] h else none
  | x :: r, h => if okG h gd then bndN (f x h) fun o h1 => bndN (loopC f gd r h1) fun vs h2 => ret (o.toList ++ vs) h2 else none
def itsOf (v : V) (h : IH) : Option Its := match v with
  | .str s => some ⟨s.cps.toList.map fun c => (V.str ⟨#[c]⟩, none), []⟩
  | .ref a => match h[a]? with
    | some (.lst xs) => some ⟨xs.map (·, none), [(a, .lst xs)]⟩
    | some (.flst xs) => some ⟨xs.map (·, none), [(a, .flst xs)]⟩
    | some (.tup xs k) => some ⟨xs.map (·, none), [(a, .tup xs k)]⟩
    | _ => none
  | _ => none
def enumOf : Nat → List V → List (V × Option V)
  | _, [] => []
  | n, v :: r => (.int n, some v) :: enumOf (n + 1) r
def rngOf (lo : Int) (n : Nat) : List (V × Option V) := (List.range n).map fun (i : Nat) => (.int (lo + (i : Int)), none)

/-- as a value (t = false) or as a test (t = true) -/
def fin : Bool → V → IH → EV V
  | false, v, h => ret v h
  | true, v, h => match truth h v with
    | some k => ret (.bl k) h
    | none => none
def oneInt (o : Option Int) : V → IH → EV (Option Int)
  | .int i, h => ret (some i) h
  | _, _ => none
def negV : V → IH → EV V
  | .int i, h => ret (.int (-i)) h
  | _, _ => none
def notV : V → IH → EV V
  | .bl b, h => ret (.bl (!b)) h
  | _, _ => none
def optV : Option V → IH → EV V
  | some v, h => ret v h
  | none, _ => none
def slotV (σ : St) (i : Nat) (h : IH) : EV V := match σ[i]? with
  | some (some v) => ret v h
  | _ => none
def attV (Γ : Gam) (f : Nat) (x : V) (h : IH) : EV V := match x with
  | .ref p => match h[p]? with
    | some (.ins C fs) => (match lookF f fs with
      | some v => if Γ.isF C f then ret v h else none
      | none => (match Γ.prop C f with
        | some g => bndN (Γ.call g [.ref p] h) ret
        | none => none))
    | some (.cls C) => optV (Γ.con C f) h
    | _ => none
  | _ => none
/-- C(vs) -/
def makeV (Γ : Gam) (C : Nat) (vs : List V) (h : IH) : EV V := match Γ.init C with
  | some f => bnd (Γ.call f (.ref h.length :: vs) (h ++ [.ins C []])) fun z h2 => match z with
    | .non => ret (.ref h.length) h2
    | _ => none
  | none => none
/-- the function of a method of the instance x -/
def methF (Γ : Gam) (m : Nat) (x : V) (h : IH) : Option Nat := match x with
  | .ref p => match h[p]? with
    | some (.ins C fs) => (match lookF m fs with
      | none => Γ.meth C m
      | some _ => none)
    | _ => none
  | _ => none
/-- a local value called -/
inductive Cal | mk (C : Nat) | inst (p : Nat)
def calV (Γ : Gam) (x : V) (h : IH) : Option Cal := match x with
  | .ref p => match h[p]? with
    | some (.cls C) => if (Γ.init C).isSome then some (.mk C) else none
    | some (.ins C _) => some (.inst p)
    | _ => none
  | _ => none
def runCal (Γ : Gam) (c : Cal) (vs : List V) (h : IH) : EV V := match c with
  | .mk C => makeV Γ C vs h
  | .inst p => match h[p]? with
    | some (.ins C _) => (match Γ.callm C with
      | some f => Γ.call f (.ref p :: vs) h
      | none => none)
    | _ => none
def tyV (Γ : Gam) (ts : List Ty) (x : V) (h : IH) : EV V := match tyOf h x with
  | some (.b u) => ret (.bl (ts.any (isTy Γ (.b u)))) h
  | _ => none
def curV (Γ : Gam) (cur : Option (Nat × Nat)) (f : Nat) (h : IH) : EV V := match cur with
  | some (C, d) => match h[d]? with
    | some (.xd g v) => if f = g ∧ Γ.exf C = some f then ret v h else none
    | _ => none
  | none => none
def curIV (Γ : Gam) (cur : Option (Nat × Nat)) (f : Nat → Bool) (h : IH) : EV V := match cur with
  | some (C, d) => match h[d]? with
    | some (.xd _ _) => if (Γ.exf C).isSome then ret (.bl (f C)) h else none
    | _ => none
  | none => none
def enumV (v : V) (h : IH) : EV Its := match v with
  | .ref a => match h[a]? with
    | some (.lst xs) => ret ⟨enumOf 0 xs, [(a, .lst xs)]⟩ h
    | some (.flst xs) => ret ⟨enumOf 0 xs, [(a, .flst xs)]⟩ h
    | _ => none
  | _ => none
def zipV (v w : V) (h : IH) : EV Its := match v, w with
  | .ref p, .ref q => match h[p]?, h[q]? with
    | some (.lst xs), some (.lst ys) => if xs.length = ys.length then ret ⟨(xs.zip ys).map fun z => (z.1, some z.2), [(p, .lst xs), (q, .lst ys)]⟩ h else none
    | _, _ => none
  | _, _ => none
def rng1V (v : V) (h : IH) : EV Its := match v with
  | .int j => if -(2 ^ 62) ≤ j ∧ j < 2 ^ 62 then ret ⟨rngOf 0 j.toNat, []⟩ h else none
  | _ => none
def rng2V (v w : V) (h : IH) : EV Its := match v, w with
  | .int i, .int j => if (-(2 ^ 62) ≤ i ∧ i < 2 ^ 62) ∧ (-(2 ^ 62) ≤ j ∧ j < 2 ^ 62) then ret ⟨rngOf i (j - i).toNat, []⟩ h else none
  | _, _ => none
def evV (v : V) (h : IH) : EV Its := match itsOf v h with
  | some is => ret is h
  | none => none
def wipeI (ws : List Nat) (σ : St) : St := wipe σ ws
/-- one turn of a comprehension -/
def turnC (tg : MT) (ws : List Nat) (σ : St) (c : St → IH → EV V) (e : St → IH → EV V) (x : V × Option V) (h : IH) : EV (Option V) :=
  match asgX tg x (wipe σ ws) h with
  | some τ => bndN (c τ h) fun k h3 => (match k with
    | .bl true => bndN (e τ h3) fun v h4 => ret (some v) h4
    | .bl false => ret none h3
    | _ => none)
  | none => none
def listV (vs : List V) (h : IH) : EV V := if vs.length ≤ sizeLine then new (.lst vs) h else none
def tupV (vs : List V) (h : IH) : EV V := if vs.length ≤ sizeLine then new (.tup vs) h else none
mutual
def evE (Γ : Gam) (cur : Option (Nat × Nat)) (t : Bool) : ME → St → IH → EV V
  | .var i, σ, h => bnd (slotV σ i h) (fin t)
  | .glb g, _, h => bnd (optV (Γ.glob g) h) (fin t)
  | .cst v, _, h => fin t v h
  | .lst es, σ, h => bnd (bnd (evA Γ cur es σ h) listV) (fin t)
  | .tup es, σ, h => bnd (bnd (evA Γ cur es σ h) tupV) (fin t)
  | .bin op a b, σ, h => bnd (bnd (evE Γ cur false a σ h) fun x h1 => bnd (evE Γ cur false b σ h1) fun y h2 => binop op x y h2) (fin t)
  | .neg a, σ, h => bnd (bnd (evE Γ cur false a σ h) negV) (fin t)
  | .cmp op a b, σ, h => bnd (bnd (evE Γ cur false a σ h) fun x h1 => bnd (evE Γ cur false b σ h1) fun y h2 => cmpop op x y h2) (fin t)
  | .cmp2 op op' a b c, σ, h => bnd (evE Γ cur false a σ h) fun x h1 => bnd (evE Γ cur false b σ h1) fun y h2 => bnd (cmpop op x y h2) fun z h3 => match z with
    | .bl true => bnd (evE Γ cur false c σ h3) fun w h4 => bnd (cmpop op' y w h4) (fin t)
    | .bl false => ret (.bl false) h3
    | _ => none
  | .andE a b, σ, h => bnd (evE Γ cur t a σ h) fun x h1 => match x with
    | .bl true => evE Γ cur t b σ h1
    | .bl false => ret (.bl false) h1
    | _ => none
  | .orE a b, σ, h => bnd (evE Γ cur t a σ h) fun x h1 => match x with
    | .bl false => evE Γ cur t b σ h1
    | .bl true => ret (.bl true) h1
    | _ => none
  | .notE a, σ, h => bnd (evE Γ cur t a σ h) notV
  | .ife c a b, σ, h => bnd (evE Γ cur true c σ h) fun k h1 => match k with
    | .bl true => bnd (evE Γ cur false a σ h1) (fin t)
    | .bl false => bnd (evE Γ cur false b σ h1) (fin t)
    | _ => none
  | .ix a b, σ, h => bnd (bnd (evE Γ cur false a σ h) fun x h1 => bnd (evE Γ cur false b σ h1) fun y h2 => getix x y h2) (fin t)
  | .sl a lo hi, σ, h => bnd (bnd (evE Γ cur false a σ h) fun x h1 => bnd (evO Γ cur lo σ h1) fun l h2 => bnd (evO Γ cur hi σ h2) fun r h3 => getsl x l r h3) (fin t)
  | .att a f, σ, h => bnd (bnd (evE Γ cur false a σ h) (attV Γ f)) (fin t)
  | .call f es, σ, h => bnd (bnd (evA Γ cur es σ h) fun vs h1 => Γ.call f vs h1) (fin t)
  | .make C es, σ, h => bnd (bnd (evA Γ cur es σ h) (makeV Γ C)) (fin t)
  | .met o m es, σ, h => bnd (bnd (evE Γ cur false o σ h) fun x h1 => match methF Γ m x h1 with
    | some f => bnd (evA Γ cur es σ h1) fun vs h2 => Γ.call f (x :: vs) h2
    | none => none) (fin t)
  | .clm C m es, σ, h => bnd (match Γ.cmeth C m, Γ.clsAt C with
    | some (f, true), some c => bnd (evA Γ cur es σ h) fun vs h1 => Γ.call f (.ref c :: vs) h1
    | some (f, false), _ => bnd (evA Γ cur es σ h) fun vs h1 => Γ.call f vs h1
    | _, _ => none) (fin t)
  | .callv i es, σ, h => bnd (bnd (slotV σ i h) fun x h0 => match calV Γ x h0 with
    | some c => bnd (evA Γ cur es σ h0) (runCal Γ c)
    | none => none) (fin t)
  | .bi b es, σ, h => bnd (bnd (evA Γ cur es σ h) (bifn b)) (fin t)
  | .bm m o es, σ, h => bnd (bnd (evE Γ cur false o σ h) fun x h1 => if bmTy m x h1 = true then bnd (evA Γ cur es σ h1) fun vs h2 => bmeth m x vs h2 else none) (fin t)
  | .isI a ty, σ, h => bnd (evE Γ cur false a σ h) (tyV Γ [ty])
  | .isIs a ts, σ, h => bnd (evE Γ cur false a σ h) (tyV Γ ts)
  | .lc ws elt tg it c, σ, h => bnd (bnd (evI Γ cur it σ h) fun is h1 =>
      bndN (loopC (turnC tg ws σ (evC Γ c) (evE Γ none false elt)) is.gd is.xs h1) listV) (fin t)
  | .curF f, _, h => bnd (curV Γ cur f h) (fin t)
  | .curI D, _, h => curIV Γ cur (fun C => Γ.sub C D) h
  | .curB D, _, h => curIV Γ cur (fun C => Γ.subB C D) h
  | .dct kvs, _, h => bnd (new (.dic (mergeK [] kvs)) h) (fin t)
def evA (Γ : Gam) (cur : Option (Nat × Nat)) : MA → St → IH → EV (List V)
  | .nil, _, h => ret [] h
  | .cons e r, σ, h => bnd (evE Γ cur false e σ h) fun v h1 => bnd (evA Γ cur r σ h1) fun vs h2 => ret (v :: vs) h2
def evO (Γ : Gam) (cur : Option (Nat × Nat)) : MO → St → IH → EV (Option Int)
  | .none, _, h => ret none h
  | .some e, σ, h => bnd (evE Γ cur false e σ h) (oneInt none)
def evC (Γ : Gam) : MO → St → IH → EV V
  | .none, _, h => ret (.bl true) h
  | .some e, σ, h => evE Γ none true e σ h
def evI (Γ : Gam) (cur : Option (Nat × Nat)) : MI → St → IH → EV Its
  | .ev e, σ, h => bnd (evE Γ cur false e σ h) evV
  | .rng1 a, σ, h => bnd (evE Γ cur false a σ h) rng1V
  | .rng2 a b, σ, h => bnd (evE Γ cur false a σ h) fun v h1 => bnd (evE Γ cur false b σ h1) fun w h2 => rng2V v w h2
  | .enum e, σ, h => bnd (evE Γ cur false e σ h) enumV
  | .zip a b, σ, h => bnd (evE Γ cur false a σ h) fun v h1 => bnd (evE Γ cur false b σ h1) fun w h2 => zipV v w h2
  | .items _, _, _ => none
  | .vals _, _, _ => none
end

/-! ### statements -/
inductive Fl | nx (σ : St) | rt (v : V) | bk (σ : St) | ct (σ : St)
inductive OutS | ok (f : Fl) (h : IH) | ex (C d : Nat) (σ : St) (h : IH)
abbrev ES := Option OutS
/-- an expression within a statement -/
def bE {α : Type} (σ : St) : EV α → (α → IH → ES) → ES
  | some (.val a h), k => k a h
  | some (.exn C d h), _ => some (.ex C d σ h)
  | none, _ => none
/-- one statement, then the next -/
def bS : ES → (St → IH → ES) → ES
  | some (.ok (.nx σ) h), k => k σ h
  | r, _ => r
def nxt (σ : Option St) (h : IH) : ES := σ.map fun σ => .ok (.nx σ) h
def loopW (c : St → IH → EV V) (b : St → IH → ES) : Nat → St → IH → ES
  | 0, _, _ => none
  | n + 1, σ, h => bE σ (c σ h) fun k h1 => match k with
    | .bl true => (match b σ h1 with
      | some (.ok (.nx σ2) h2) => loopW c b n σ2 h2
      | some (.ok (.ct σ2) h2) => loopW c b n σ2 h2
      | some (.ok (.bk σ2) h2) => some (.ok (.nx σ2) h2)
      | r => r)
    | .bl false => some (.ok (.nx σ) h1)
    | _ => none
def loopF (tg : MT) (b : St → IH → ES) (gd : List (Nat × IO)) : List (V × Option V) → St → IH → ES
  | [], σ, h => if okG h gd then some (.ok (.nx σ) h) else none
  | x :: r, σ, h => if okG h gd then (match asgX tg x σ h with
    | some σ1 => (match b σ1 h with
      | some (.ok (.nx σ2) h2) => loopF tg b gd r σ2 h2
      | some (.ok (.ct σ2) h2) => loopF tg b gd r σ2 h2
      | some (.ok (.bk σ2) h2) => some (.ok (.nx σ2) h2)
      | r => r)
    | none => none) else none
def setA (Γ : Gam) (o : V) (f : Nat) (v : V) (σ : St) (h : IH) : ES := match o with
  | .ref p => match h[p]? with
    | some (.ins C fs) => if fs.length < 1000 ∧ Γ.isF C f = true then some (.ok (.nx σ) (h.set p (.ins C (putI f v fs)))) else none
    | _ => none
  | _ => none
def setS (o k v : V) (σ : St) (h : IH) : ES := match o, k with
  | .ref p, .int i => match h[p]? with
    | some (.lst xs) => (match ixN xs.length i with
      | some j => some (.ok (.nx σ) (h.set p (.lst (xs.set j v))))
      | none => none)
    | _ => none
  | _, _ => none
def inpl (op : Operator) (x y : V) (h : IH) : EV V := match op, x, y with
  | .Add, .int i, .int j => ret (.int (i + j)) h
  | .Sub, .int i, .int j => ret (.int (i - j)) h
  | .Mult, .int i, .int j => if mulOk i j then ret (.int (i * j)) h else none
  | .FloorDiv, .int i, .int j => if divOk j then ret (.int (i / j)) h else none
  | .Add, .str s, .str t => if s.length + t.length ≤ sizeLine then ret (.str (s ++ t)) h else none
  | _, _, _ => none
def raisV (Γ : Gam) (C : Nat) (σ : St) (v : V) (h : IH) : ES := match Γ.exf C with
  | some f => some (.ex C h.length σ (h ++ [.xd f v]))
  | none => none
def orX : ES → (Nat → Nat → St → IH → ES) → ES
  | some (.ex C d σ1 h1), k => k C d σ1 h1
  | r, _ => r
/-- a clause's name is forgotten behind it -/
def unN (i : Nat) : ES → ES
  | some (.ok (.nx σ2) h2) => some (.ok (.nx (σ2.set i none)) h2)
  | some (.ok (.bk σ2) h2) => some (.ok (.bk (σ2.set i none)) h2)
  | some (.ok (.ct σ2) h2) => some (.ok (.ct (σ2.set i none)) h2)
  | some (.ok (.rt v) h2) => some (.ok (.rt v) h2)
  | _ => none
mutual
def evS (Γ : Gam) (N : Nat) (cur : Option (Nat × Nat)) : MS → St → IH → ES
  | .asg tg e, σ, h => bE σ (evE Γ cur false e σ h) fun v h1 => nxt (asgT tg v σ h1) h1
  | .par tg es, σ, h => bE σ (evA Γ cur es σ h) fun vs h1 => match tg with
    | .tup ts => nxt (asgTs ts vs σ h1) h1
    | _ => none
  | .asgA o f e, σ, h => bE σ (evE Γ cur false e σ h) fun v h1 => bE σ (evE Γ cur false o σ h1) fun p h2 => setA Γ p f v σ h2
  | .asgS o k e, σ, h => bE σ (evE Γ cur false e σ h) fun v h1 => bE σ (evE Γ cur false o σ h1) fun p h2 => bE σ (evE Γ cur false k σ h2) fun i h3 => setS p i v σ h3
  | .aug op i e, σ, h => bE σ (slotV σ i h) fun x h0 => bE σ (evE Γ cur false e σ h0) fun v h1 => bE σ (inpl op x v h1) fun z h2 => some (.ok (.nx (σ.set i (some z))) h2)
  | .augA op o f e, σ, h => none
  | .ex e, σ, h => bE σ (evE Γ cur false e σ h) fun _ h1 => some (.ok (.nx σ) h1)
  | .ret e, σ, h => bE σ (evE Γ cur false e σ h) fun v h1 => some (.ok (.rt v) h1)
  | .retN, _, h => some (.ok (.rt .non) h)
  | .ifS c a b, σ, h => bE σ (evE Γ cur true c σ h) fun k h1 => match k with
    | .bl true => evB Γ N cur a σ h1
    | .bl false => evB Γ N cur b σ h1
    | _ => none
  | .whl c b, σ, h => loopW (evE Γ cur true c) (evB Γ N cur b) N σ h
  | .forS tg it b, σ, h => bE σ (evI Γ cur it σ h) fun is h1 => loopF tg (evB Γ N cur b) is.gd is.xs σ h1
  | .rais C e, σ, h => bE σ (evE Γ cur false e σ h) (raisV Γ C σ)
  | .tryS b hs, σ, h => orX (evB Γ N cur b σ h) fun C d σ1 h1 => evH Γ N C d hs σ1 h1
  | .pss, σ, h => some (.ok (.nx σ) h)
  | .brk, σ, h => some (.ok (.bk σ) h)
  | .cnt, σ, h => some (.ok (.ct σ) h)
def evB (Γ : Gam) (N : Nat) (cur : Option (Nat × Nat)) : MB → St → IH → ES
  | .nil, σ, h => some (.ok (.nx σ) h)
  | .cons s r, σ, h => bS (evS Γ N cur s σ h) fun σ1 h1 => evB Γ N cur r σ1 h1
/-- the clauses; a named one forgets its name behind it -/
def evH (Γ : Gam) (N : Nat) (C d : Nat) : MH → St → IH → ES
  | .nil, σ, h => some (.ex C d σ h)
  | .cons D nm b r, σ, h => if (Γ.exf C).isSome then (if Γ.sub C D then (match nm with
      | none => evB Γ N (some (C, d)) b σ h
      | some i => if i < σ.length then unN i (evB Γ N (some (C, d)) b (σ.set i none) h) else none) else evH Γ N C d r σ h) else none
end
/-- a def of the text -/
structure FD where
  np : Nat
  ns : Nat
  body : MB
def retOf : ES → EV V
  | some (.ok (.rt v) h) => ret v h
  | some (.ok (.nx _) h) => ret .non h
  | some (.ex C d _ h) => some (.exn C d h)
  | _ => none
/-- calls, k deep -/
def callN (G : (Nat → List V → IH → EV V) → Gam) (T : Nat → Option FD) (N : Nat) : Nat → Nat → List V → IH → EV V
  | 0, _, _, _ => none
  | k + 1, f, vs, h => match T f with
    | some d => if vs.length = d.np then retOf (evB (G (callN G T N k)) N none d.body (vs.map some ++ List.replicate (d.ns - d.np) none) h) else none
    | none => none
end MP
end
section
set_option Elab.async false
set_option linter.all false
set_option maxHeartbeats 400000
namespace MP
open PySem L2

/-! ### relations -/
/-- what the text's facts say, apart from the bodies -/
structure Stat where
  K : PySem.W.Frag
  mg : Str → Option Value
  cls : Nat → Addr
  fld : Nat → Str
  M : Nat
  fok : ∀ i j, i < M → j < M → fld i = fld j → i = j
  pre : List Addr
  /-- what others hold here -/
  fr : Hp
def Stat.wf (G : Stat) (F : Hp) : Stat := { G with fr := F }

def RV (μ : List Addr) : V → V → Prop
  | .ref a, v' => ∃ b, μ[a]? = some b ∧ v' = .ref b
  | v, v' => v' = v
abbrev RVs (μ : List Addr) : List V → List V → Prop := Paired (RV μ)
def RO (μ : List Addr) : Option V → Option V → Prop
  | some v, some v' => RV μ v v'
  | none, _ => True
  | _, _ => False
abbrev RS (μ : List Addr) : St → St → Prop := Paired (RO μ)
abbrev RKV (μ : List Addr) : List (Key × V) → List (Key × V) → Prop := Paired fun p q => q.1 = p.1 ∧ RV μ p.2 q.2
abbrev RF (G : Stat) (μ : List Addr) : List (Nat × V) → List (Str × V) → Prop := Paired fun p q => p.1 < G.M ∧ q.1 = G.fld p.1 ∧ RV μ p.2 q.2

theorem pre_get {μ μ' : List Addr} (p : μ <+: μ') {a b : Nat} (h : μ[a]? = some b) : μ'[a]? = some b := by
  obtain ⟨r, rfl⟩ := p
  obtain ⟨h1, h2⟩ := List.getElem?_eq_some_iff.mp h
  rw [List.getElem?_append_left h1]
  exact h
theorem RV.mono {μ μ' : List Addr} (p : μ <+: μ') : ∀ {v v' : V}, RV μ v v' → RV μ' v v'
  | .ref a, v', h => by
    obtain ⟨b, h1, h2⟩ := h
    exact ⟨b, pre_get p h1, h2⟩
  | .non, _, h => h
  | .bl _, _, h => h
  | .int _, _, h => h
  | .str _, _, h => h
  | .byt _, _, h => h
  | .flt _, _, h => h
  | .ty _, _, h => h
theorem RVs.mono {μ μ' : List Addr} (p : μ <+: μ') {xs ys : List V} (h : RVs μ xs ys) : RVs μ' xs ys := Paired.mapP h fun _ _ q => q.mono p
theorem RO.mono {μ μ' : List Addr} (p : μ <+: μ') : ∀ {o o' : Option V}, RO μ o o' → RO μ' o o'
  | some _, some _, h => RV.mono p h
  | none, none, _ => trivial
  | some _, none, h => h.elim
  | none, some _, _ => trivial
theorem RS.mono {μ μ' : List Addr} (p : μ <+: μ') {σ τ : St} (h : RS μ σ τ) : RS μ' σ τ := Paired.mapP h fun _ _ q => q.mono p
theorem RKV.mono {μ μ' : List Addr} (p : μ <+: μ') {xs ys : List (Key × V)} (h : RKV μ xs ys) : RKV μ' xs ys := Paired.mapP h fun _ _ q => ⟨q.1, q.2.mono p⟩
theorem RF.mono {G : Stat} {μ μ' : List Addr} (p : μ <+: μ') {xs : List (Nat × V)} {ys : List (Str × V)} (h : RF G μ xs ys) : RF G μ' xs ys := Paired.mapP h fun _ _ q => ⟨q.1, q.2.1, q.2.2.mono p⟩

/-- an object of the interpreter's heap stands at b -/
def ObjS (G : Stat) (μ : List Addr) (H : Hp) (b : Addr) : IO → Prop
  | .lst xs => ∃ ys, RVs μ xs ys ∧ H b = some (.lst ys)
  | .flst xs => ∃ ys, RVs μ xs ys ∧ ((∃ o, H b = some (.frz o (.lst ys))) ∨ ((∀ H' : Hp, SqL G.K H' b ys)))
  | .tup xs k => ∃ ys, RVs μ xs ys ∧ ((Rd H b (.tup ys) ∧ k = false) ∨ ((∀ H' : Hp, SqT G.K H' b ys) ∧ (k = true → ∀ H' : Hp, L2.tyV G.K "tuple" (.ref b) H')))
  | .dic kvs => ∃ ks, RKV μ kvs ks ∧ H b = some (.dK ks)
  | .ins C fs => ∃ dx gs, RF G μ fs gs ∧ H b = some (.ins (G.cls C) dx gs)
  | .xd f v => f < G.M ∧ ∃ v', RV μ v v' ∧ H b = some (.xd [(G.fld f, v')])
  | .cls C => b = G.cls C
def mutb : IO → Bool
  | .lst _ => true
  | .dic _ => true
  | .ins _ _ => true
  | _ => false
structure Sim (G : Stat) (μ : List Addr) (h : IH) (H : Hp) : Prop where
  len : h.length = μ.length
  obj : ∀ (a : Nat) (o : IO) (b : Addr), h[a]? = some o → μ[a]? = some b → ObjS G μ H b o
  inj : ∀ (a a' : Nat) (b : Addr) (o o' : IO), h[a]? = some o → h[a']? = some o' → μ[a]? = some b → μ[a']? = some b → mutb o = true → mutb o' = true → a = a'
  pre : G.pre <+: μ
  frm : ∀ b o, G.fr b = some o → H b = some o
  fro : ∀ (a : Nat) (o : IO) (b : Addr), h[a]? = some o → μ[a]? = some b → mutb o = true → G.fr b = none
theorem Sim.addr {G : Stat} {μ : List Addr} {h : IH} {H : Hp} (S : Sim G μ h H) {a : Nat} {o : IO} (e : h[a]? = some o) : ∃ b, μ[a]? = some b ∧ ObjS G μ H b o := by
  obtain ⟨h1, _⟩ := List.getElem?_eq_some_iff.mp e
  have h2 : a < μ.length := by rw [← S.len]; exact h1
  exact ⟨μ[a], List.getElem?_eq_getElem h2, S.obj a o _ e (List.getElem?_eq_getElem h2)⟩
theorem ObjS.mono {G : Stat} {μ μ' : List Addr} (p : μ <+: μ') {H : Hp} {b : Addr} : ∀ {o : IO}, ObjS G μ H b o → ObjS G μ' H b o
  | .lst _, ⟨ys, r, e⟩ => ⟨ys, r.mono p, e⟩
  | .flst _, ⟨ys, r, e⟩ => ⟨ys, r.mono p, e⟩
  | .tup _ _, ⟨ys, r, e⟩ => ⟨ys, r.mono p, e⟩
  | .dic _, ⟨ys, r, e⟩ => ⟨ys, r.mono p, e⟩
  | .ins _ _, ⟨dx, ys, r, e⟩ => ⟨dx, ys, r.mono p, e⟩
  | .xd _ _, ⟨k, v, r, e⟩ => ⟨k, v, r.mono p, e⟩
  | .cls _, e => e
/-- what is laid at a free place, or written over an unlike thing, leaves it -/
theorem ObjS.keep {G : Stat} {μ : List Addr} {H : Hp} {b p : Addr} {u : HO} : ∀ {o : IO}, ObjS G μ H b o → (∀ w, H b = some w → b ≠ p ∨ False) → ObjS G μ (upd H p u) b o
  | .lst _, ⟨ys, r, e⟩, n => ⟨ys, r, by rw [upd_ne ((n _ e).elim id False.elim)]; exact e⟩
  | .flst _, ⟨ys, r, e⟩, n => ⟨ys, r, e.imp (fun ⟨o, e⟩ => ⟨o, by rw [upd_ne ((n _ e).elim id False.elim)]; exact e⟩) id⟩
  | .tup _ _, ⟨ys, r, e⟩, n => ⟨ys, r, e.imp (fun ⟨e, z⟩ => ⟨by
      rcases e with e | ⟨o, e⟩
      · exact .inl (by rw [upd_ne ((n _ e).elim id False.elim)]; exact e)
      · exact .inr ⟨o, by rw [upd_ne ((n _ e).elim id False.elim)]; exact e⟩, z⟩) id⟩
  | .dic _, ⟨ys, r, e⟩, n => ⟨ys, r, by rw [upd_ne ((n _ e).elim id False.elim)]; exact e⟩
  | .ins _ _, ⟨dx, ys, r, e⟩, n => ⟨dx, ys, r, by rw [upd_ne ((n _ e).elim id False.elim)]; exact e⟩
  | .xd _ _, ⟨k, v, r, e⟩, n => ⟨k, v, r, by rw [upd_ne ((n _ e).elim id False.elim)]; exact e⟩
  | .cls _, e, _ => e
theorem ObjS.mutAt {G : Stat} {μ : List Addr} {H : Hp} {b : Addr} {o : IO} (x : ObjS G μ H b o) (m : mutb o = true) : ∃ w, H b = some w := by
  cases o with
  | lst xs => obtain ⟨_, _, e⟩ := x; exact ⟨_, e⟩
  | dic xs => obtain ⟨_, _, e⟩ := x; exact ⟨_, e⟩
  | ins C fs => obtain ⟨_, _, _, e⟩ := x; exact ⟨_, e⟩
  | flst _ => cases m
  | tup _ _ => cases m
  | xd _ _ => cases m
  | cls _ => cases m
theorem len_pre {μ : List Addr} {p : Addr} : μ <+: μ ++ [p] := List.prefix_append _ _
/-- a new object -/
theorem Sim.alloc {G : Stat} {μ : List Addr} {h : IH} {H : Hp} (S : Sim G μ h H) {p : Addr} {u : HO} {o : IO} (hp : H p = none) (ho : ObjS G (μ ++ [p]) (upd H p u) p o) : Sim G (μ ++ [p]) (h ++ [o]) (upd H p u) := by
  have old : ∀ {a : Nat} {o' : IO}, (h ++ [o])[a]? = some o' → (a < h.length ∧ h[a]? = some o') ∨ (a = h.length ∧ o' = o) := fun {a o'} e => by
    by_cases ha : a < h.length
    · rw [List.getElem?_append_left ha] at e
      exact .inl ⟨ha, e⟩
    · rw [List.getElem?_append_right (by omega)] at e
      have e0 : a - h.length = 0 := by
        obtain ⟨h1, _⟩ := List.getElem?_eq_some_iff.mp e
        simpa using h1
      rw [e0] at e
      simp at e
      exact .inr ⟨by omega, e.symm⟩
  have oldM : ∀ {a b : Nat}, a < h.length → (μ ++ [p])[a]? = some b → μ[a]? = some b := fun {a b} ha e => by
    rwa [List.getElem?_append_left (by rw [← S.len]; exact ha)] at e
  have newM : ∀ {b : Nat}, (μ ++ [p])[h.length]? = some b → b = p := fun {b} e => by
    rw [S.len, List.getElem?_append_right (Nat.le_refl _)] at e
    simp at e
    exact e.symm
  refine ⟨by simp [S.len], fun a o' b e1 e2 => ?_, fun a a' b o1 o2 e1 e2 e3 e4 m1 m2 => ?_, S.pre.trans len_pre, fun b o e => ?_, fun a o' b e1 e2 m => ?_⟩
  · rcases old e1 with ⟨ha, e⟩ | ⟨rfl, rfl⟩
    · have q := S.obj a o' b e (oldM ha e2)
      refine (ObjS.keep q fun w z => .inl ?_).mono len_pre
      rintro rfl
      rw [hp] at z; cases z
    · have e := newM e2
      subst e
      exact ho
  · rcases old e1 with ⟨ha, e⟩ | ⟨rfl, rfl⟩
    · rcases old e2 with ⟨ha', e'⟩ | ⟨rfl, rfl⟩
      · exact S.inj a a' b o1 o2 e e' (oldM ha e3) (oldM ha' e4) m1 m2
      · have eb := newM e4
        obtain ⟨w, z⟩ := ObjS.mutAt (S.obj a o1 b e (oldM ha e3)) m1
        rw [eb, hp] at z; cases z
    · rcases old e2 with ⟨ha', e'⟩ | ⟨rfl, rfl⟩
      · have eb := newM e3
        obtain ⟨w, z⟩ := ObjS.mutAt (S.obj a' o2 b e' (oldM ha' e4)) m2
        rw [eb, hp] at z; cases z
      · rfl
  · have q := S.frm b o e
    rw [upd_ne (fun z => by rw [z, hp] at q; cases q)]
    exact q
  · rcases old e1 with ⟨ha, e⟩ | ⟨rfl, rfl⟩
    · exact S.fro a o' b e (oldM ha e2) m
    · have eb := newM e2
      subst eb
      cases ef : G.fr b with
      | none => rfl
      | some o2 =>
        have q := S.frm b o2 ef
        rw [hp] at q; cases q
/-- an object is written -/
theorem Sim.write {G : Stat} {μ : List Addr} {h : IH} {H : Hp} (S : Sim G μ h H) {a b : Nat} {o o' : IO} {u : HO} (e : h[a]? = some o) (eb : μ[a]? = some b) (m : mutb o = true) (m' : mutb o' = true) (ho : ObjS G μ (upd H b u) b o') : Sim G μ (h.set a o') (upd H b u) := by
  have hl : a < h.length := (List.getElem?_eq_some_iff.mp e).1
  have old : ∀ {c : Nat} {w : IO}, (h.set a o')[c]? = some w → (c = a ∧ w = o') ∨ (c ≠ a ∧ h[c]? = some w) := fun {c w} q => by
    by_cases hc : c = a
    · subst hc
      rw [List.getElem?_set_self hl] at q
      exact .inl ⟨rfl, (Option.some.inj q).symm⟩
    · rw [List.getElem?_set_ne (Ne.symm hc)] at q
      exact .inr ⟨hc, q⟩
  have hm := ObjS.mutAt (S.obj a o b e eb) m
  refine ⟨by simp [S.len], fun c w d q1 q2 => ?_, fun c c' d o1 o2 q1 q2 q3 q4 m1 m2 => ?_, S.pre, fun c w q => ?_, fun c w d q1 q2 mw => ?_⟩
  · rcases old q1 with ⟨rfl, rfl⟩ | ⟨hc, q⟩
    · rw [eb] at q2; cases q2
      exact ho
    · have z := S.obj c w d q q2
      by_cases hd : d = b
      · subst hd
        -- c stands at the same place: it is nothing that may be written
        have nm : mutb w = false := by
          cases hw : mutb w with
          | false => rfl
          | true => exact absurd (S.inj c a d w o q e q2 eb hw m) hc
        have un : ∀ v, H d = some v → (∃ x, v = .lst x) ∨ (∃ x, v = .dK x) ∨ ∃ C dx x, v = .ins C dx x := fun v hv => by
          have so := S.obj a o d e eb
          cases o with
          | lst xs => obtain ⟨ys, _, q⟩ := so; rw [hv] at q; exact .inl ⟨_, Option.some.inj q⟩
          | dic xs => obtain ⟨ys, _, q⟩ := so; rw [hv] at q; exact .inr (.inl ⟨_, Option.some.inj q⟩)
          | ins C fs => obtain ⟨dx, ys, _, q⟩ := so; rw [hv] at q; exact .inr (.inr ⟨_, _, _, Option.some.inj q⟩)
          | flst _ => cases m
          | tup _ _ => cases m
          | xd _ _ => cases m
          | cls _ => cases m
        cases w with
        | lst _ => cases nm
        | dic _ => cases nm
        | ins _ _ => cases nm
        | flst xs =>
          obtain ⟨ys, r, q⟩ := z
          refine ⟨ys, r, .inr ?_⟩
          rcases q with ⟨ob, q⟩ | q
          · rcases un _ q with ⟨x, y⟩ | ⟨x, y⟩ | ⟨_, _, x, y⟩ <;> cases y
          · exact q
        | tup xs k =>
          obtain ⟨ys, r, q⟩ := z
          refine ⟨ys, r, .inr ?_⟩
          rcases q with ⟨q | ⟨ob, q⟩, _⟩ | q
          · rcases un _ q with ⟨x, y⟩ | ⟨x, y⟩ | ⟨_, _, x, y⟩ <;> cases y
          · rcases un _ q with ⟨x, y⟩ | ⟨x, y⟩ | ⟨_, _, x, y⟩ <;> cases y
          · exact q
        | xd f v =>
          obtain ⟨_, v', _, q⟩ := z
          rcases un _ q with ⟨x, y⟩ | ⟨x, y⟩ | ⟨_, _, x, y⟩ <;> cases y
        | cls C => exact z
      · exact ObjS.keep z fun _ _ => .inl hd
  · have mo : ∀ {c : Nat} {w : IO}, (h.set a o')[c]? = some w → mutb w = true → ∃ w', h[c]? = some w' ∧ mutb w' = true := fun {c w} q mw => by
      rcases old q with ⟨rfl, rfl⟩ | ⟨_, q⟩
      · exact ⟨o, e, m⟩
      · exact ⟨w, q, mw⟩
    obtain ⟨w1, g1, n1⟩ := mo q1 m1
    obtain ⟨w2, g2, n2⟩ := mo q2 m2
    exact S.inj c c' d w1 w2 g1 g2 q3 q4 n1 n2
  · have nb := S.fro a o b e eb m
    rw [upd_ne (fun z => by rw [z, nb] at q; cases q)]
    exact S.frm c w q
  · rcases old q1 with ⟨rfl, rfl⟩ | ⟨_, q⟩
    · rw [eb] at q2; cases q2
      exact S.fro c o b e eb m
    · exact S.fro c w d q q2 mw
/-- what others hold changes -/
theorem Sim.refr {G : Stat} {μ : List Addr} {h : IH} {H : Hp} (S : Sim G μ h H) (F : Hp) (f1 : ∀ b o, F b = some o → H b = some o) (f2 : ∀ b, F b ≠ none → G.fr b ≠ none ∨ ∀ (a : Nat) (o : IO), h[a]? = some o → μ[a]? = some b → mutb o = true → False) : Sim (G.wf F) μ h H :=
  ⟨S.len, fun a o b e1 e2 => (by
    have q := S.obj a o b e1 e2
    cases o <;> exact q), S.inj, S.pre, f1, fun a o b e1 e2 m => by
    show F b = none
    cases e : F b with
    | none => rfl
    | some o2 =>
      rcases f2 b (by rw [e]; simp) with z | z
      · exact absurd (S.fro a o b e1 e2 m) z
      · exact (z a o e1 e2 m).elim⟩
/-- a held list is taken over -/
theorem Sim.adopt {G : Stat} {F : Hp} {μ : List Addr} {h : IH} {H : Hp} {p : Addr} {xs ys : List V} (S : Sim (G.wf (upd F p (.lst ys))) μ h H) (hF : F p = none) (r : RVs μ xs ys) : Sim (G.wf F) (μ ++ [p]) (h ++ [.lst xs]) H := by
  have hp : H p = some (.lst ys) := S.frm p _ (show upd F p (.lst ys) p = _ from upd_same)
  have np : ∀ (a : Nat) (o : IO), h[a]? = some o → μ[a]? = some p → mutb o = true → False := fun a o e1 e2 m => by
    have z : upd F p (.lst ys) p = none := S.fro a o p e1 e2 m
    rw [upd_same] at z; cases z
  have old : ∀ {a : Nat} {o' : IO}, (h ++ [IO.lst xs])[a]? = some o' → (a < h.length ∧ h[a]? = some o') ∨ (a = h.length ∧ o' = .lst xs) := fun {a o'} e => by
    by_cases ha : a < h.length
    · rw [List.getElem?_append_left ha] at e
      exact .inl ⟨ha, e⟩
    · rw [List.getElem?_append_right (by omega)] at e
      have e0 : a - h.length = 0 := by
        obtain ⟨h1, _⟩ := List.getElem?_eq_some_iff.mp e
        simpa using h1
      rw [e0] at e
      simp at e
      exact .inr ⟨by omega, e.symm⟩
  have oldM : ∀ {a b : Nat}, a < h.length → (μ ++ [p])[a]? = some b → μ[a]? = some b := fun {a b} ha e => by
    rwa [List.getElem?_append_left (by rw [← S.len]; exact ha)] at e
  have newM : ∀ {b : Nat}, (μ ++ [p])[h.length]? = some b → b = p := fun {b} e => by
    rw [S.len, List.getElem?_append_right (Nat.le_refl _)] at e
    simp at e
    exact e.symm
  refine ⟨by simp [S.len], fun a o' b e1 e2 => ?_, fun a a' b o1 o2 e1 e2 e3 e4 m1 m2 => ?_, List.IsPrefix.trans S.pre len_pre, fun b o e => ?_, fun a o' b e1 e2 m => ?_⟩
  · rcases old e1 with ⟨ha, e⟩ | ⟨rfl, rfl⟩
    · have q := (S.obj a o' b e (oldM ha e2)).mono (μ' := μ ++ [p]) len_pre
      cases o' <;> exact q
    · have e := newM e2
      subst e
      exact ⟨ys, r.mono len_pre, hp⟩
  · rcases old e1 with ⟨ha, e⟩ | ⟨rfl, rfl⟩
    · rcases old e2 with ⟨ha', e'⟩ | ⟨rfl, rfl⟩
      · exact S.inj a a' b o1 o2 e e' (oldM ha e3) (oldM ha' e4) m1 m2
      · have eb := newM e4
        subst eb
        exact (np a o1 e (oldM ha e3) m1).elim
    · rcases old e2 with ⟨ha', e'⟩ | ⟨rfl, rfl⟩
      · have eb := newM e3
        subst eb
        exact (np a' o2 e' (oldM ha' e4) m2).elim
      · rfl
  · have e : F b = some o := e
    refine S.frm b o ?_
    show upd F p (.lst ys) b = some o
    rw [upd_ne (fun z => by rw [z, hF] at e; cases e)]
    exact e
  · show F b = none
    rcases old e1 with ⟨ha, e⟩ | ⟨rfl, rfl⟩
    · have z : upd F p (.lst ys) b = none := S.fro a o' b e (oldM ha e2) m
      by_cases hb : b = p
      · rw [hb, upd_same] at z; cases z
      · rw [upd_ne hb] at z; exact z
    · rw [newM e2]; exact hF
end MP
end
section
set_option Elab.async false
set_option linter.all false
set_option maxHeartbeats 400000
namespace MP
open PySem L2

/-- what is wanted of a run of the interpreter -/
def WP {α β : Type} (G : Stat) (W : WX) (τ : St) (rel : List Addr → α → β → Prop) (μ : List Addr) (r : EV α) (Q : β → Hp → Prop) : Prop :=
  match r with
  | some (.val v h) => ∀ μ' H' v', μ <+: μ' → Sim G μ' h H' → rel μ' v v' → Q v' H'
  | some (.exn C d h) => ∀ μ' H' d', μ <+: μ' → Sim G μ' h H' → μ'[d]? = some d' → W (.ref (G.cls C)) (some d') τ H'
  | none => False
section
variable {α β γ δ : Type} {G : Stat} {W : WX} {τ : St} {rel : List Addr → α → β → Prop} {rel2 : List Addr → γ → δ → Prop} {μ μ' : List Addr} {h : IH} {H : Hp}
theorem WP.mono {r : EV α} {Q : β → Hp → Prop} (w : WP G W τ rel μ r Q) (p : μ <+: μ') : WP G W τ rel μ' r Q := by
  cases r with
  | none => exact w
  | some o =>
    cases o with
    | val v h => exact fun m H v' q S r => w m H v' (p.trans q) S r
    | exn C d h => exact fun m H d' q S r => w m H d' (p.trans q) S r
theorem WP.imp {r : EV α} {Q Q' : β → Hp → Prop} (w : WP G W τ rel μ r Q) (f : ∀ b H, Q b H → Q' b H) : WP G W τ rel μ r Q' := by
  cases r with
  | none => exact w
  | some o =>
    cases o with
    | val v h => exact fun m H v' q S r => f _ _ (w m H v' q S r)
    | exn C d h => exact w
theorem WP.bnd {x : EV α} {k : α → IH → EV γ} {Q : δ → Hp → Prop} (w : WP G W τ rel2 μ (MP.bnd x k) Q) :
    WP G W τ rel μ x fun b H1 => ∃ μ1 a h1, μ <+: μ1 ∧ Sim G μ1 h1 H1 ∧ rel μ1 a b ∧ WP G W τ rel2 μ1 (k a h1) Q := by
  cases x with
  | none => exact w
  | some o =>
    cases o with
    | val v h => exact fun m H v' q S r => ⟨m, v, h, q, S, r, WP.mono w q⟩
    | exn C d h => exact w
theorem WP.val {v : α} {v' : β} {Q : β → Hp → Prop} (w : WP G W τ rel μ (ret v h) Q) (S : Sim G μ h H) (r : rel μ v v') : Q v' H := w μ H v' (List.prefix_refl _) S r
theorem WP.new {o : IO} {Q : V → Hp → Prop} (w : WP G W τ RV μ (MP.new o h) Q) (S : Sim G μ h H) {p : Addr} {u : HO} (hp : H p = none) (ho : ObjS G (μ ++ [p]) (upd H p u) p o) : Q (.ref p) (upd H p u) :=
  w (μ ++ [p]) _ _ len_pre (S.alloc hp ho) ⟨p, by rw [S.len, List.getElem?_append_right (Nat.le_refl _)]; simp, rfl⟩
end
theorem bnd_ret {α : Type} (x : EV α) : bnd x ret = x := by
  cases x with
  | none => rfl
  | some o => cases o <;> rfl
theorem bnd_fin (x : EV V) : bnd x (fin false) = x := bnd_ret x
/-! ### lists of one kind -/
theorem Paired.app {α β : Type} {F : α → β → Prop} : ∀ {l₁ l₂ : List α} {k₁ k₂ : List β}, Paired F l₁ k₁ → Paired F l₂ k₂ → Paired F (l₁ ++ l₂) (k₁ ++ k₂)
  | _, _, _, _, .nil, s => s
  | _, _, _, _, .cons r t, s => .cons r (Paired.app t s)
theorem Paired.getP {α β : Type} {F : α → β → Prop} : ∀ {xs : List α} {us : List β} {i : Nat} {x : α}, Paired F xs us → xs[i]? = some x → ∃ u, us[i]? = some u ∧ F x u
  | _, _, _, _, .nil, e => by simp at e
  | _, _, 0, _, .cons r _, e => by simp at e; subst e; exact ⟨_, rfl, r⟩
  | _, _, i + 1, x, .cons _ t, e => by
    obtain ⟨u, h1, h2⟩ := Paired.getP (i := i) (x := x) t (by simpa using e)
    exact ⟨u, by simpa using h1, h2⟩
theorem Paired.setP {α β : Type} {F : α → β → Prop} {x : α} {u : β} (r : F x u) : ∀ {xs : List α} {us : List β} (i : Nat), Paired F xs us → Paired F (xs.set i x) (us.set i u)
  | _, _, _, .nil => .nil
  | _, _, 0, .cons _ t => .cons r t
  | _, _, i + 1, .cons q t => .cons q (Paired.setP r i t)
theorem Paired.takeP {α β : Type} {F : α → β → Prop} : ∀ {xs : List α} {us : List β} (n : Nat), Paired F xs us → Paired F (xs.take n) (us.take n)
  | _, _, 0, _ => .nil
  | _, _, _ + 1, .nil => .nil
  | _, _, n + 1, .cons r t => .cons r (Paired.takeP n t)
theorem Paired.dropP {α β : Type} {F : α → β → Prop} : ∀ {xs : List α} {us : List β} (n : Nat), Paired F xs us → Paired F (xs.drop n) (us.drop n)
  | _, _, 0, r => r
  | _, _, _ + 1, .nil => .nil
  | _, _, n + 1, .cons _ t => Paired.dropP n t
theorem RVs.ints {μ : List Addr} : ∀ {xs ys : List V} {is : List Int}, intsOf xs = some is → RVs μ xs ys → ys = is.map V.int
  | [], _, _, e, .nil => by cases e; rfl
  | .int i :: r, _, is, e, .cons q t => by
    unfold intsOf at e
    obtain ⟨js, e1, rfl⟩ := Option.map_eq_some_iff.mp e
    cases (show _ = V.int i from q)
    rw [RVs.ints e1 t]; rfl
theorem RVs.bools {μ : List Addr} : ∀ {xs ys : List V} {is : List Bool}, boolsOf xs = some is → RVs μ xs ys → ys = is.map V.bl
  | [], _, _, e, .nil => by cases e; rfl
  | .bl i :: r, _, is, e, .cons q t => by
    unfold boolsOf at e
    obtain ⟨js, e1, rfl⟩ := Option.map_eq_some_iff.mp e
    cases (show _ = V.bl i from q)
    rw [RVs.bools e1 t]; rfl
theorem RVs.strs {μ : List Addr} : ∀ {xs ys : List V} {is : List Str}, strsOf xs = some is → RVs μ xs ys → ys = is.map V.str
  | [], _, _, e, .nil => by cases e; rfl
  | .str i :: r, _, is, e, .cons q t => by
    unfold strsOf at e
    obtain ⟨js, e1, rfl⟩ := Option.map_eq_some_iff.mp e
    cases (show _ = V.str i from q)
    rw [RVs.strs e1 t]; rfl
/-- a list or a tuple that is read -/
theorem Sim.seq {G : Stat} {μ : List Addr} {h : IH} {H : Hp} (S : Sim G μ h H) {v v' : V} {xs : List V} (e : seqOf h v = some xs) (r : RV μ v v') : ∃ b ys, v' = .ref b ∧ RVs μ xs ys ∧ (SqL G.K H b ys ∨ SqT G.K H b ys) := by
  unfold seqOf at e
  split at e
  · rename_i a
    obtain ⟨b, hb, rfl⟩ := r
    split at e
    · rename_i zs ho
      cases e
      obtain ⟨ys, ry, eb⟩ := S.obj _ _ _ ho hb
      exact ⟨b, ys, rfl, ry, .inl (SqL.of eb)⟩
    · rename_i zs ho
      cases e
      obtain ⟨ys, ry, eb⟩ := S.obj _ _ _ ho hb
      exact ⟨b, ys, rfl, ry, .inl (eb.elim (fun ⟨o, z⟩ => .inl (.inr ⟨o, z⟩)) fun z => z H)⟩
    · rename_i zs ho
      cases e
      obtain ⟨ys, ry, eb⟩ := S.obj _ _ _ ho hb
      exact ⟨b, ys, rfl, ry, .inr (eb.elim (fun z => .inl z.1) fun z => z.1 H)⟩
    · cases e
  · cases e
theorem Sim.lseq {G : Stat} {μ : List Addr} {h : IH} {H : Hp} (S : Sim G μ h H) {v v' : V} {xs : List V} (e : lstOf h v = some xs) (r : RV μ v v') : ∃ b ys, v' = .ref b ∧ RVs μ xs ys ∧ SqL G.K H b ys := by
  unfold lstOf at e
  split at e
  · rename_i a
    obtain ⟨b, hb, rfl⟩ := r
    split at e
    · rename_i zs ho
      cases e
      obtain ⟨ys, ry, eb⟩ := S.obj _ _ _ ho hb
      exact ⟨b, ys, rfl, ry, SqL.of eb⟩
    · rename_i zs ho
      cases e
      obtain ⟨ys, ry, eb⟩ := S.obj _ _ _ ho hb
      exact ⟨b, ys, rfl, ry, eb.elim (fun ⟨o, z⟩ => .inl (.inr ⟨o, z⟩)) fun z => z H⟩
    · cases e
  · cases e
theorem Sim.lst {G : Stat} {μ : List Addr} {h : IH} {H : Hp} (S : Sim G μ h H) {a : Nat} {b : Addr} {xs : List V} (e : h[a]? = some (.lst xs)) (r : μ[a]? = some b) : ∃ ys, RVs μ xs ys ∧ H b = some (.lst ys) := S.obj _ _ _ e r
theorem Sim.tupR {G : Stat} {μ : List Addr} {h : IH} {H : Hp} (S : Sim G μ h H) {a : Nat} {b : Addr} {xs : List V} {k : Bool} (e : h[a]? = some (.tup xs k)) (r : μ[a]? = some b) : ∃ ys, RVs μ xs ys ∧ SqT G.K H b ys := by
  obtain ⟨ys, r1, e1⟩ := S.obj _ _ _ e r
  exact ⟨ys, r1, e1.elim (fun z => .inl z.1) fun z => z.1 H⟩
theorem Sim.lstR {G : Stat} {μ : List Addr} {h : IH} {H : Hp} (S : Sim G μ h H) {a : Nat} {b : Addr} {xs : List V} (e : h[a]? = some (.lst xs) ∨ h[a]? = some (.flst xs)) (r : μ[a]? = some b) : ∃ ys, RVs μ xs ys ∧ SqL G.K H b ys := by
  rcases e with e | e
  · obtain ⟨ys, r1, e1⟩ := S.obj _ _ _ e r
    exact ⟨ys, r1, SqL.of e1⟩
  · obtain ⟨ys, r1, e1⟩ := S.obj _ _ _ e r
    exact ⟨ys, r1, e1.elim (fun ⟨o, z⟩ => .inl (.inr ⟨o, z⟩)) fun z => z H⟩
/-- new lists, new tuples -/
theorem objs_lst {G : Stat} {μ : List Addr} {H : Hp} {p : Addr} {xs ys : List V} (r : RVs μ xs ys) : ObjS G (μ ++ [p]) (upd H p (.lst ys)) p (.lst xs) := ⟨ys, r.mono len_pre, upd_same⟩
theorem objs_tup {G : Stat} {μ : List Addr} {H : Hp} {p : Addr} {xs ys : List V} (r : RVs μ xs ys) : ObjS G (μ ++ [p]) (upd H p (.tup ys)) p (.tup xs) := ⟨ys, r.mono len_pre, .inl ⟨.inl upd_same, rfl⟩⟩

/-! ### operators -/
def rBin (K : PySem.W.Frag) : Operator → R2
  | .Add => fun x y H Q => rI0 (fun i j => .int (i + j)) x y H Q ∨ (∃ i j, x = .str i ∧ y = .str j ∧ i.length + j.length ≤ sizeLine ∧ Q (.str (i ++ j)) H) ∨ rCat x y H Q ∨ rCatA K x y H Q
  | .Sub => rI0 fun i j => .int (i - j)
  | .Mult => fun x y H Q => rI CMulW (fun i j => .int (i * j)) x y H Q ∨ rRep x y H Q
  | .FloorDiv => rI CDivW fun i j => .int (i / j)
  | .Mod => rI (fun _ j => 0 < j) fun i j => .int (i % j)
  | .Pow => rI CPow fun i j => .int (i ^ j.toNat)
  | _ => fun _ _ _ _ => False
theorem op_bin {X : Cx} : ∀ op : Operator, OpR X (binaryOp op) (rBin X.K op)
  | .Add => op_add.or (op_add_str.or (op_cat.or op_catA))
  | .Sub => op_sub
  | .Mult => op_mulW.or op_rep
  | .FloorDiv => op_fdivW
  | .Mod => op_mod
  | .Pow => op_pow
  | .MatMult => fun _ _ _ _ _ _ _ _ _ _ _ _ z => z.elim
  | .Div => fun _ _ _ _ _ _ _ _ _ _ _ _ z => z.elim
  | .LShift => fun _ _ _ _ _ _ _ _ _ _ _ _ z => z.elim
  | .RShift => fun _ _ _ _ _ _ _ _ _ _ _ _ z => z.elim
  | .BitOr => fun _ _ _ _ _ _ _ _ _ _ _ _ z => z.elim
  | .BitXor => fun _ _ _ _ _ _ _ _ _ _ _ _ z => z.elim
  | .BitAnd => fun _ _ _ _ _ _ _ _ _ _ _ _ z => z.elim
section
variable {G : Stat} {W : WX} {τ : St} {μ : List Addr} {h : IH} {H : Hp} {x y x' y' : V} {Q : V → Hp → Prop}
theorem binop_ok {op : Operator} (S : Sim G μ h H) (rx : RV μ x x') (ry : RV μ y y') (w : WP G W τ RV μ (binop op x y h) Q) : rBin G.K op x' y' H Q := by
  unfold binop at w
  split at w
  · cases rx; cases ry
    exact .inl ⟨_, _, rfl, rfl, w.val S rfl⟩
  · cases rx; cases ry
    exact ⟨_, _, rfl, rfl, w.val S rfl⟩
  · cases rx; cases ry
    split at w
    · rename_i hm
      exact .inl ⟨_, _, rfl, rfl, by have z := hm; simp only [mulOk, decide_eq_true_eq] at z; exact z, w.val S rfl⟩
    · exact w.elim
  · cases rx; cases ry
    split at w
    · rename_i hm
      exact ⟨_, _, rfl, rfl, by have z := hm; simp only [divOk, decide_eq_true_eq] at z; exact z, w.val S rfl⟩
    · exact w.elim
  · cases rx; cases ry
    split at w
    · rename_i hm
      exact ⟨_, _, rfl, rfl, hm, w.val S rfl⟩
    · exact w.elim
  · cases rx; cases ry
    split at w
    · rename_i hm
      exact ⟨_, _, rfl, rfl, hm, w.val S rfl⟩
    · exact w.elim
  · cases rx; cases ry
    split at w
    · rename_i hm
      exact .inr (.inl ⟨_, _, rfl, rfl, hm, w.val S rfl⟩)
    · exact w.elim
  · obtain ⟨p, hp, rfl⟩ := rx
    obtain ⟨q, hq, rfl⟩ := ry
    split at w
    · rename_i xs ys e1 e2
      obtain ⟨zs, r1, o1⟩ := S.lst e1 hp
      obtain ⟨us, r2, o2⟩ := S.lst e2 hq
      split at w
      · rename_i hl
        have l1 := Paired.length r1
        have l2 := Paired.length r2
        exact .inr (.inr (.inl ⟨p, q, zs, us, rfl, rfl, o1, o2, by omega, fun c hc => w.new S hc (objs_lst (Paired.app r1 r2))⟩))
      · exact w.elim
    · rename_i xs _ ys _ e1 e2
      obtain ⟨zs, r1, o1⟩ := S.tupR e1 hp
      obtain ⟨us, r2, o2⟩ := S.tupR e2 hq
      split at w
      · rename_i hl
        have l1 := Paired.length r1
        have l2 := Paired.length r2
        have z1 : xs.isEmpty = true ↔ zs = [] := by cases r1 <;> simp
        have z2 : ys.isEmpty = true ↔ us = [] := by cases r2 <;> simp
        refine .inr (.inr (.inr ⟨p, q, zs, us, rfl, rfl, o1, o2, by omega, fun e => ?_, fun n e => ?_, fun n1 n2 c hc => ?_⟩))
        · rw [if_pos (z1.mpr e)] at w
          exact w.val S ⟨q, hq, rfl⟩
        · rw [if_neg (fun k => n (z1.mp k)), if_pos (z2.mpr e)] at w
          exact w.val S ⟨p, hp, rfl⟩
        · rw [if_neg (fun k => n1 (z1.mp k)), if_neg (fun k => n2 (z2.mp k))] at w
          exact w.new S hc (objs_tup (Paired.app r1 r2))
      · exact w.elim
    · exact w.elim
  · obtain ⟨p, hp, rfl⟩ := rx
    cases ry
    split at w
    · rename_i xs e1
      obtain ⟨zs, r1, o1⟩ := S.lst e1 hp
      split at w
      · rename_i hl
        have l1 := Paired.length r1
        refine .inr ⟨p, _, zs, rfl, rfl, o1, hl.1, hl.2.1, by rw [← l1]; exact hl.2.2, fun c hc => w.new S hc (objs_lst ?_)⟩
        generalize (Int.toNat _) = n
        induction n with
        | zero => exact .nil
        | succ n ih => rw [List.replicate_succ, List.replicate_succ, List.flatten_cons, List.flatten_cons]; exact Paired.app r1 ih
      · exact w.elim
    · exact w.elim
  · exact w.elim
end
end MP
end
section
set_option Elab.async false
set_option linter.all false
set_option maxHeartbeats 400000
namespace MP
open PySem L2
theorem SqL.w {K : PySem.W.Frag} {H : Hp} {a : Addr} {xs : List V} (h : SqL K H a xs ∨ SqT K H a xs) : True := trivial
theorem flat_eq {μ : List Addr} : ∀ {v v' : V}, flatV v = true → RV μ v v' → v' = v
  | .non, _, _, h => h
  | .bl _, _, _, h => h
  | .int _, _, _, h => h
  | .str _, _, _, h => h
  | .byt _, _, e, _ => by cases e
  | .flt _, _, e, _ => by cases e
  | .ty _, _, e, _ => by cases e
  | .ref _, _, e, _ => by cases e
theorem flats_eq {μ : List Addr} : ∀ {xs ys : List V}, xs.all flatV = true → RVs μ xs ys → ys = xs
  | _, _, _, .nil => rfl
  | x :: xs, _, e, .cons r t => by
    rw [List.all_cons, Bool.and_eq_true] at e
    rw [flat_eq e.1 r, flats_eq e.2 t]
theorem dp_of {G : Stat} {μ : List Addr} {h : IH} {H : Hp} (S : Sim G μ h H) : ∀ (n : Nat) {v v' : V} {d : PyData}, toD h n v = some d → RV μ v v' → Dp G.K H v' d
  | 0, _, _, _, e, _ => by cases e
  | n + 1, v, v', d, e, r => by
    have all : ∀ {xs ys : List V} {ds : List PyData}, dataL (toD h n) xs = some ds → RVs μ xs ys → DpAll G.K H ys ds := by
      intro xs
      induction xs with
      | nil =>
        intro ys ds e r
        cases r
        cases e
        exact .nil
      | cons x xs ih =>
        intro ys ds e r
        cases r with
        | cons r t =>
          unfold dataL at e
          split at e
          · rename_i d0 ds0 e1 e2
            cases e
            exact .cons (dp_of S n e1 r) (ih e2 t)
          · cases e
    unfold toD at e
    split at e
    · cases e; cases r; exact .non
    · cases e; cases r; exact .bl _
    · cases e; cases r; exact .int _
    · cases e; cases r; exact .str _
    · obtain ⟨b, hb, rfl⟩ := r
      split at e
      · rename_i xs o
        obtain ⟨ds, e1, rfl⟩ := Option.map_eq_some_iff.mp e
        obtain ⟨ys, r1, q⟩ := S.lstR (.inl o) hb
        exact .lst q (all e1 r1)
      · rename_i xs o
        obtain ⟨ds, e1, rfl⟩ := Option.map_eq_some_iff.mp e
        obtain ⟨ys, r1, q⟩ := S.lstR (.inr o) hb
        exact .lst q (all e1 r1)
      · rename_i xs _ o
        obtain ⟨ds, e1, rfl⟩ := Option.map_eq_some_iff.mp e
        obtain ⟨ys, r1, q⟩ := S.tupR o hb
        exact .tup q (all e1 r1)
      · cases e
    · cases e
/-! ### comparisons -/
def rCmp (K : PySem.W.Frag) : CmpOp → R2
  | .Eq => rEqD K
  | .NotEq => rNeD K
  | .Lt => fun x y H Q => rI0 (fun i j => .bl (decide (i < j))) x y H Q ∨ ∃ i j, x = .str i ∧ y = .str j ∧ Q (.bl (decide (i.cps.toList < j.cps.toList))) H
  | .LtE => rI0 fun i j => .bl (decide (i ≤ j))
  | .Gt => rI0 fun i j => .bl (decide (j < i))
  | .GtE => rI0 fun i j => .bl (decide (j ≤ i))
  | .Is => fun x y H Q => (y = .non ∧ Q (.bl (decide (x = .non))) H) ∨ ∃ a b, x = .bl a ∧ y = .bl b ∧ Q (.bl (decide (a = b))) H
  | .IsNot => fun x y H Q => (y = .non ∧ Q (.bl (!decide (x = .non))) H) ∨ ∃ a b, x = .bl a ∧ y = .bl b ∧ Q (.bl (!decide (a = b))) H
  | .In => fun x y H Q => (∃ i j, x = .str i ∧ y = .str j ∧ Q (.bl (!(Builtin.Str.occurrences j i 0 j.length 1).isEmpty)) H) ∨ rIn K false x y H Q
  | .NotIn => fun x y H Q => (∃ i j, x = .str i ∧ y = .str j ∧ Q (.bl (!(!(Builtin.Str.occurrences j i 0 j.length 1).isEmpty))) H) ∨ rIn K true x y H Q
theorem op_cmp {X : Cx} (hu : X.A.units + 64 < cLine) : ∀ op : CmpOp, OpR X (compareOp op) (rCmp X.K op)
  | .Eq => op_eqD hu
  | .NotEq => op_neD hu
  | .Lt => op_lt.or op_lt_str
  | .LtE => op_le
  | .Gt => op_gt
  | .GtE => op_ge
  | .Is => op_isN.or op_is_bl
  | .IsNot => op_notN.or op_isnot_bl
  | .In => op_in_str.or op_in_seq
  | .NotIn => op_notIn_str.or op_notIn_seq
section
variable {G : Stat} {W : WX} {τ : St} {μ : List Addr} {h : IH} {H : Hp} {x y x' y' : V} {Q : V → Hp → Prop}
theorem cmpop_ok {op : CmpOp} (S : Sim G μ h H) (rx : RV μ x x') (ry : RV μ y y') (w : WP G W τ RV μ (cmpop op x y h) Q) : rCmp G.K op x' y' H Q := by
  have isn : ∀ {b : Bool → Bool}, RV μ y y' → y = .non → Q (.bl (b (decide (x = .non)))) H → y' = .non ∧ Q (.bl (b (decide (x' = .non)))) H := fun {b} ry e q => by
    subst e
    cases ry
    refine ⟨rfl, ?_⟩
    have e : decide (x' = V.non) = decide (x = V.non) := by
      cases x with
      | ref a => obtain ⟨c, _, rfl⟩ := rx; simp
      | _ => cases rx; rfl
    rw [e]; exact q
  have seq : ∀ {xs : List V} {neg : Bool}, seqOf h y = some xs → (flatV x && xs.all flatV) = true → Q (.bl (if neg then !inV x xs else inV x xs)) H → rIn G.K neg x' y' H Q := fun {xs neg} e f q => by
    obtain ⟨b, ys, rfl, r1, hq⟩ := S.seq e ry
    rw [Bool.and_eq_true] at f
    have e1 := flat_eq f.1 rx
    have e2 := flats_eq f.2 r1
    subst e1 e2
    exact ⟨b, _, rfl, hq, f.1, f.2, q⟩
  have eqq : ∀ {b : Bool}, eqOp x y h = some b → ∃ d e, Dp G.K H x' d ∧ Dp G.K H y' e ∧ SeqAt.shaped d = true ∧ SeqAt.shaped e = true ∧ PyData.eqv d e = b := fun {b} e => by
    unfold eqOp at e
    split at e
    · rename_i d e0 e1 e2
      split at e
      · rename_i hs
        rw [Bool.and_eq_true] at hs
        exact ⟨d, e0, dp_of S 40 e1 rx, dp_of S 40 e2 ry, hs.1, hs.2, Option.some.inj e⟩
      · cases e
    · cases e
  unfold cmpop at w
  cases op with
  | Eq =>
    simp only at w
    split at w
    · rename_i b e
      obtain ⟨d, e0, h1, h2, h3, h4, rfl⟩ := eqq e
      exact ⟨d, e0, h1, h2, h3, h4, w.val S rfl⟩
    · exact w.elim
  | NotEq =>
    simp only at w
    split at w
    · rename_i b e
      obtain ⟨d, e0, h1, h2, h3, h4, rfl⟩ := eqq e
      exact ⟨d, e0, h1, h2, h3, h4, w.val S rfl⟩
    · exact w.elim
  | Lt =>
    simp only at w
    split at w
    · cases rx; cases ry; exact .inl ⟨_, _, rfl, rfl, w.val S rfl⟩
    · cases rx; cases ry; exact .inr ⟨_, _, rfl, rfl, w.val S rfl⟩
    · exact w.elim
  | LtE =>
    simp only at w
    split at w
    · cases rx; cases ry; exact ⟨_, _, rfl, rfl, w.val S rfl⟩
    · exact w.elim
  | Gt =>
    simp only at w
    split at w
    · cases rx; cases ry; exact ⟨_, _, rfl, rfl, w.val S rfl⟩
    · exact w.elim
  | GtE =>
    simp only at w
    split at w
    · cases rx; cases ry; exact ⟨_, _, rfl, rfl, w.val S rfl⟩
    · exact w.elim
  | Is =>
    simp only at w
    split at w
    · exact .inl (isn (b := id) ry rfl (w.val S rfl))
    · cases rx; cases ry; exact .inr ⟨_, _, rfl, rfl, w.val S rfl⟩
    · exact w.elim
  | IsNot =>
    simp only at w
    split at w
    · exact .inl (isn (b := not) ry rfl (w.val S rfl))
    · cases rx; cases ry; exact .inr ⟨_, _, rfl, rfl, w.val S rfl⟩
    · exact w.elim
  | In =>
    simp only at w
    split at w
    · cases rx; cases ry; exact .inl ⟨_, _, rfl, rfl, w.val S rfl⟩
    · split at w
      · rename_i xs e
        split at w
        · rename_i f
          exact .inr (seq (neg := false) e f (w.val S rfl))
        · exact w.elim
      · exact w.elim
  | NotIn =>
    simp only at w
    split at w
    · cases rx; cases ry; exact .inl ⟨_, _, rfl, rfl, w.val S rfl⟩
    · split at w
      · rename_i xs e
        split at w
        · rename_i f
          exact .inr (seq (neg := true) e f (w.val S rfl))
        · exact w.elim
      · exact w.elim
/-! ### subscripts, slices, truth, kinds -/
theorem atI_pair {α β : Type} {F : α → β → Prop} {xs : List α} {ys : List β} {i : Int} {v : α} (r : Paired F xs ys) (e : atI xs i = some v) : ∃ u, atI ys i = some u ∧ F v u := by
  unfold atI at e ⊢
  rw [← Paired.length r]
  cases q : ixN xs.length i with
  | none => rw [q] at e; cases e
  | some j =>
    rw [q] at e
    exact Paired.getP (i := j) r e
theorem getix_ok (S : Sim G μ h H) (rx : RV μ x x') (ry : RV μ y y') (w : WP G W τ RV μ (getix x y h) Q) : rIx G.K x' y' H Q := by
  unfold getix at w
  split at w
  · cases rx; cases ry
    split at w
    · rename_i hz
      split at w
      · rename_i c e
        exact .inr (.inr ⟨_, _, c, rfl, rfl, hz, e, w.val S rfl⟩)
      · exact w.elim
    · exact w.elim
  · cases ry
    split at w
    · rename_i xs e
      obtain ⟨b, ys, rfl, r1, hq⟩ := S.seq e rx
      split at w
      · rename_i v e1
        obtain ⟨u, e2, r2⟩ := atI_pair r1 e1
        rcases hq with hq | hq
        · exact .inl ⟨b, ys, _, u, rfl, rfl, hq, e2, w.val S r2⟩
        · exact .inr (.inl ⟨b, ys, _, u, rfl, rfl, hq, e2, w.val S r2⟩)
      · exact w.elim
    · exact w.elim
  · exact w.elim
def rSl (K : PySem.W.Frag) : V → Option Int → Option Int → Hp → VK → Prop := fun x lo hi H Q => rSlL K x lo hi H Q ∨ rSlS x lo hi H Q ∨ rSlA K x lo hi H Q
theorem sl_all {X : Cx} : SlR X (rSl X.K) := sl_list.or (sl_str.or sl_tupA)
theorem cut_pair {α : Type} {μ : List Addr} {xs ys : List V} (r : RVs μ xs ys) (lo hi : Option Int) : RVs μ (cutV xs lo hi) (cutV ys lo hi) := by
  unfold cutV
  rw [← Paired.length r]
  exact Paired.takeP _ (Paired.dropP _ r)
theorem getsl_ok {lo hi : Option Int} (S : Sim G μ h H) (rx : RV μ x x') (w : WP G W τ RV μ (getsl x lo hi h) Q) : rSl G.K x' lo hi H Q := by
  unfold getsl at w
  split at w
  · cases rx
    split at w
    · rename_i hz
      exact .inr (.inl ⟨_, rfl, hz, w.val S rfl⟩)
    · exact w.elim
  · obtain ⟨b, hb, rfl⟩ := rx
    split at w
    · rename_i xs e
      obtain ⟨ys, r1, q⟩ := S.lstR (.inl e) hb
      exact .inl ⟨b, ys, rfl, q, fun p hp => w.new S hp (objs_lst (cut_pair (α := V) r1 lo hi))⟩
    · rename_i xs e
      obtain ⟨ys, r1, q⟩ := S.lstR (.inr e) hb
      exact .inl ⟨b, ys, rfl, q, fun p hp => w.new S hp (objs_lst (cut_pair (α := V) r1 lo hi))⟩
    · rename_i xs _ e
      obtain ⟨ys, r1, q⟩ := S.tupR e hb
      have l1 := Paired.length r1
      refine .inr (.inr ⟨b, ys, rfl, q, fun c => ?_, fun c p hp => ?_⟩)
      · rw [← l1] at c
        rw [if_pos c] at w
        exact w.val S ⟨b, hb, rfl⟩
      · rw [← l1] at c
        rw [if_neg c] at w
        exact w.new S hp (objs_tup (cut_pair (α := V) r1 lo hi))
    · exact w.elim
  · exact w.elim
theorem truth_ok (S : Sim G μ h H) (rx : RV μ x x') {k : Bool} (e : truth h x = some k) : TruV G.K x' H k := by
  unfold truth at e
  split at e
  · cases rx; cases e; rfl
  · cases rx; cases e; rfl
  · cases rx; cases e; rfl
  · cases rx
    split at e
    · rename_i hz; cases e; exact ⟨hz, rfl⟩
    · cases e
  · obtain ⟨b, hb, rfl⟩ := rx
    have em : ∀ {α β : Type} {F : α → β → Prop} {xs : List α} {ys : List β}, Paired F xs ys → (!xs.isEmpty) = !ys.isEmpty := fun r => by cases r <;> rfl
    split at e
    · rename_i xs o
      obtain ⟨ys, r1, q⟩ := S.lstR (.inl o) hb
      cases e
      exact .inl ⟨ys, q, em r1⟩
    · rename_i xs o
      obtain ⟨ys, r1, q⟩ := S.lstR (.inr o) hb
      cases e
      exact .inl ⟨ys, q, em r1⟩
    · rename_i xs _ o
      obtain ⟨ys, r1, q⟩ := S.tupR o hb
      cases e
      exact .inr (.inl ⟨ys, q, em r1⟩)
    · rename_i kvs o
      obtain ⟨ks, r1, q⟩ := S.obj _ _ _ o hb
      cases e
      exact .inr (.inr ⟨ks, q, em r1⟩)
    · cases e
  · cases e
end
end MP
end
section
set_option Elab.async false
set_option linter.all false
set_option maxHeartbeats 400000
namespace MP
open PySem L2
theorem CallR.or {X : Cx} {f : Value} {r r' : List V → Hp → VK → Prop} (a : CallR X f r) (b : CallR X f r') : CallR X f (fun xs H Q => r xs H Q ∨ r' xs H Q) := fun pins s σ H xs us Q I v z => by
  rcases z with z | z
  · exact a pins s σ H xs us Q I v z
  · exact b pins s σ H xs us Q I v z
theorem fold_max : ∀ (l : List Int) (i : Int), let m := l.foldl (fun a b => if a < b then b else a) i; (m = i ∨ m ∈ l) ∧ i ≤ m ∧ ∀ y ∈ l, y ≤ m
  | [], i => ⟨.inl rfl, Int.le_refl _, fun _ h => by cases h⟩
  | j :: l, i => by
    have ih := fold_max l (if i < j then j else i)
    simp only [List.foldl_cons] at ih ⊢
    obtain ⟨h1, h2, h3⟩ := ih
    refine ⟨?_, ?_, fun y hy => ?_⟩
    · rcases h1 with h1 | h1
      · rw [h1]
        by_cases c : i < j
        · rw [if_pos c]; exact .inr List.mem_cons_self
        · rw [if_neg c]; exact .inl rfl
      · exact .inr (List.mem_cons_of_mem _ h1)
    · refine Int.le_trans ?_ h2
      by_cases c : i < j
      · rw [if_pos c]; omega
      · rw [if_neg c]; exact Int.le_refl _
    · rcases List.mem_cons.mp hy with rfl | hy
      · refine Int.le_trans ?_ h2
        by_cases c : i < y
        · rw [if_pos c]; exact Int.le_refl _
        · rw [if_neg c]; omega
      · exact h3 y hy
theorem fold_min : ∀ (l : List Int) (i : Int), let m := l.foldl (fun a b => if b < a then b else a) i; (m = i ∨ m ∈ l) ∧ m ≤ i ∧ ∀ y ∈ l, m ≤ y
  | [], i => ⟨.inl rfl, Int.le_refl _, fun _ h => by cases h⟩
  | j :: l, i => by
    have ih := fold_min l (if j < i then j else i)
    simp only [List.foldl_cons] at ih ⊢
    obtain ⟨h1, h2, h3⟩ := ih
    refine ⟨?_, ?_, fun y hy => ?_⟩
    · rcases h1 with h1 | h1
      · rw [h1]
        by_cases c : j < i
        · rw [if_pos c]; exact .inr List.mem_cons_self
        · rw [if_neg c]; exact .inl rfl
      · exact .inr (List.mem_cons_of_mem _ h1)
    · refine Int.le_trans h2 ?_
      by_cases c : j < i
      · rw [if_pos c]; omega
      · rw [if_neg c]; exact Int.le_refl _
    · rcases List.mem_cons.mp hy with rfl | hy
      · refine Int.le_trans h2 ?_
        by_cases c : y < i
        · rw [if_pos c]; exact Int.le_refl _
        · rw [if_neg c]; omega
      · exact h3 y hy
theorem maxI_eq {l : List Int} {m k : Int} (e : maxI l = some k) (h : m ∈ l) (g : ∀ y, y ∈ l → y ≤ m) : m = k := by
  cases l with
  | nil => cases h
  | cons i r =>
    cases e
    obtain ⟨h1, h2, h3⟩ := fold_max r i
    have a : m ≤ r.foldl (fun a b => if a < b then b else a) i := by
      rcases List.mem_cons.mp h with rfl | h
      · exact h2
      · exact h3 m h
    have b : r.foldl (fun a b => if a < b then b else a) i ≤ m := by
      rcases h1 with h1 | h1
      · rw [h1]; exact g i List.mem_cons_self
      · exact g _ (List.mem_cons_of_mem _ h1)
    exact Int.le_antisymm a b
theorem minI_eq {l : List Int} {m k : Int} (e : minI l = some k) (h : m ∈ l) (g : ∀ y, y ∈ l → m ≤ y) : m = k := by
  cases l with
  | nil => cases h
  | cons i r =>
    cases e
    obtain ⟨h1, h2, h3⟩ := fold_min r i
    have a : r.foldl (fun a b => if b < a then b else a) i ≤ m := by
      rcases List.mem_cons.mp h with rfl | h
      · exact h2
      · exact h3 m h
    have b : m ≤ r.foldl (fun a b => if b < a then b else a) i := by
      rcases h1 with h1 | h1
      · rw [h1]; exact g i List.mem_cons_self
      · exact g _ (List.mem_cons_of_mem _ h1)
    exact Int.le_antisymm b a
/-- repr of data, of a dict with ints for keys -/
def rReprA (K : PySem.W.Frag) : List V → Hp → VK → Prop := fun xs H Q => ∃ x d, xs = [x] ∧ Dp K H x d ∧ PyData.showable d = true ∧ PyData.hasDict d = false ∧ d.shown.length ≤ sizeLine ∧ d.depth ≤ 60 ∧ Q (.str d.shown) H
theorem call_reprA {X : Cx} (hg : X.A.guards = some []) (hu : X.A.units + 64 < cLine) : CallR X (.builtin "repr") (rReprA X.K) := by
  intro pins s σ H xs us Q I r z
  obtain ⟨x, d, rfl, dp, h1, h2, h3, h4, q⟩ := z
  obtain ⟨u, rfl, ru⟩ := vals1 r
  cases dp with
  | non =>
    cases ru
    exact PySem.P.repr_of_none ⟨.str _, H, I.tok _, ⟨_, rfl⟩, by simpa only [PyData.shown] using q⟩
  | bl b =>
    cases ru
    exact PySem.P.repr_of_bool ⟨.str _, H, I.tok _, ⟨_, rfl⟩, by simpa only [PyData.shown] using q⟩
  | int i =>
    obtain ⟨t, rfl⟩ := ru
    exact PySem.P.repr_of_int (by simpa [PyData.showable] using h1) ⟨.str _, H, I.tok _, ⟨_, rfl⟩, by simpa only [PyData.shown] using q⟩
  | str z =>
    obtain ⟨t, rfl⟩ := ru
    exact PySem.P.repr_of_str ⟨.str _, H, I.tok _, ⟨_, rfl⟩, by simpa only [PyData.shown] using q⟩ (by simpa only [PyData.shown] using h3)
  | lst hs ha =>
    obtain ⟨as, rd⟩ := Dp.reads I _ _ _ (Dp.lst hs ha) ru
    cases ru
    exact repr_of_reads' rd h1 (fun e => by rw [h2] at e; cases e) hg (by omega) (fun _ _ e => e) (fun h' u tk hk => ⟨.str _, H, I.kept hk, ⟨u, rfl⟩, q⟩) h3
  | tup hs ha =>
    obtain ⟨as, rd⟩ := Dp.reads I _ _ _ (Dp.tup hs ha) ru
    cases ru
    exact repr_of_reads' rd h1 (fun e => by rw [h2] at e; cases e) hg (by omega) (fun _ _ e => e) (fun h' u tk hk => ⟨.str _, H, I.kept hk, ⟨u, rfl⟩, q⟩) h3

def rReprB : List V → Hp → VK → Prop := fun xs H Q => ∃ a kvs ds, xs = [V.ref a] ∧ H a = some (.dK kvs) ∧ pairsD kvs = some ds ∧ (PyData.dict ds).showable = true ∧ (PyData.dict ds).shown.length ≤ sizeLine ∧ (PyData.dict ds).depth ≤ 60 ∧ Q (.str (PyData.dict ds).shown) H
theorem flat_reads {h : Heap} {v : V} {u : Value} {d : PyData} (e : flatD v = some d) (r : RelV v u) : Reads h u d [] := by
  cases v with
  | non => cases e; cases r; exact .none
  | bl b => cases e; cases r; exact .bool b
  | int i => cases e; obtain ⟨t, rfl⟩ := r; exact .int i t
  | str z => cases e; obtain ⟨t, rfl⟩ := r; exact .str z t
  | _ => cases e
theorem pairs_reads {P : Program} {w : World} {h : Heap} : ∀ {kvs : List (Key × V)} {vs : List (Key × Value)} {es : List DictEntry} {ds : List (PyData × PyData)}, pairsD kvs = some ds → KV kvs vs → Pairs (mixKind P w) es vs →
    ReadsAll h (es.map (·.key)) (ds.map (·.1)) [] ∧ ReadsAll h (es.map (·.val)) (ds.map (·.2)) []
  | [], _, _, _, e, .nil, p => by
    cases e
    cases p
    exact ⟨.nil, .nil⟩
  | (k, v) :: kvs, _, _, ds, e, .cons r t, p => by
    cases k with
    | inr x => cases e
    | inl i =>
      unfold pairsD at e
      split at e
      · rename_i d0 ds0 e1 e2
        cases e
        cases p with
        | @cons en q es ves h1 h0 h2 =>
          obtain ⟨q1, q2⟩ := pairs_reads (h := h) e2 t h2
          obtain ⟨r1, r2⟩ := r
          have hk : keyIs (Sum.inl i) en.key = true := by
            have z := h1
            rw [← r1] at z
            exact z
          obtain ⟨t, et⟩ := Value.isInt_shape (k := i) (v := en.key) hk
          refine ⟨?_, ?_⟩
          · show ReadsAll h (en.key :: es.map (·.key)) _ _
            rw [et]
            exact .cons (as := []) (.int i t) q1
          · show ReadsAll h (en.val :: es.map (·.val)) _ _
            rw [h0]
            exact .cons (as := []) (flat_reads e1 r2) q2
      · cases e
theorem call_reprB {X : Cx} (hg : X.A.guards = some []) (hu : X.A.units + 64 < cLine) : CallR X (.builtin "repr") rReprB := by
  intro pins s σ H xs us Q I r z
  obtain ⟨a, kvs, ds, rfl, ha, e, h1, h3, h4, q⟩ := z
  obtain ⟨u, rfl, ru⟩ := vals1 r
  cases ru
  obtain ⟨_, ns, vs, kv, o, es, ep, ho, hx, hd, _, hp, _⟩ := (show ObjOk X.prog X.w H s.heap a (.dK kvs) from I.hok a _ ha)
  obtain ⟨q1, q2⟩ := pairs_reads (h := s.heap) e kv hp
  have rd : Reads s.heap (.ref a) (.dict ds) (a :: [] ++ []) := .dict ho hx.1 hd q1 q2
  refine repr_of_reads' rd h1 (fun _ z => ?_) hg (by omega) (fun _ _ e => e) (fun h' u tk hk => ⟨.str _, H, I.kept hk, ⟨u, rfl⟩, q⟩) h3
  have z : sysModules = a := by simpa using z
  rw [← z] at ns
  simp at ns
def rRepr (K : PySem.W.Frag) : List V → Hp → VK → Prop := fun xs H Q => rReprA K xs H Q ∨ rReprB xs H Q
theorem call_reprD {X : Cx} (hg : X.A.guards = some []) (hu : X.A.units + 64 < cLine) : CallR X (.builtin "repr") (rRepr X.K) := (call_reprA hg hu).or (call_reprB hg hu)
theorem flatD_eq {μ : List Addr} {v v' : V} {d : PyData} (e : flatD v = some d) (r : RV μ v v') : v' = v := by
  cases v <;> first | exact r | cases e
theorem pairsD_eq {μ : List Addr} : ∀ {kvs ks : List (Key × V)} {ds : List (PyData × PyData)}, pairsD kvs = some ds → RKV μ kvs ks → ks = kvs
  | [], _, _, _, .nil => rfl
  | (k, v) :: kvs, _, ds, e, .cons r t => by
    cases k with
    | inr x => cases e
    | inl i =>
      unfold pairsD at e
      split at e
      · rename_i d0 ds0 e1 e2
        obtain ⟨r1, r2⟩ := r
        rw [pairsD_eq e2 t]
        congr 1
        exact Prod.ext r1 (flatD_eq e1 r2)
      · cases e
/-! ### built-in functions -/
def bifId : Bif → Option (Str × Value)
  | .len => some ("len", .builtin "len")
  | .all => some ("all", .builtin "all")
  | .any => some ("any", .builtin "any")
  | .sum => some ("sum", .builtin "sum")
  | .max1 => some ("max", .builtin "max")
  | .min1 => some ("min", .builtin "min")
  | .max2 => some ("max", .builtin "max")
  | .min2 => some ("min", .builtin "min")
  | .int => some ("int", .type "int")
  | .str => some ("str", .type "str")
  | .repr => some ("repr", .builtin "repr")
  | .list => some ("list", .type "list")
  | .tuple => some ("tuple", .type "tuple")
  | .ord => some ("ord", .builtin "ord")
  | _ => none
def bifV : Bif → Value
  | .len => .builtin "len"
  | .all => .builtin "all"
  | .any => .builtin "any"
  | .sum => .builtin "sum"
  | .max1 => .builtin "max"
  | .min1 => .builtin "min"
  | .max2 => .builtin "max"
  | .min2 => .builtin "min"
  | .int => .type "int"
  | .str => .type "str"
  | .repr => .builtin "repr"
  | .list => .type "list"
  | .tuple => .type "tuple"
  | .ord => .builtin "ord"
  | .lenSet => .none
  | .sorted => .none
def rBif (K : PySem.W.Frag) : Bif → List V → Hp → VK → Prop
  | .len => fun xs H Q => (∃ x n, xs = [x] ∧ LenV K x H n ∧ Q (.int n) H) ∨ ∃ a kvs, xs = [V.ref a] ∧ H a = some (.dK kvs) ∧ Q (.int kvs.length) H
  | .all => rAll K
  | .any => rAny K
  | .sum => rSum K
  | .max1 => rMax K
  | .min1 => rMin K
  | .max2 => fun xs H Q => ∃ i j, xs = [.int i, .int j] ∧ Q (.int (if j > i then j else i)) H
  | .min2 => fun xs H Q => ∃ i j, xs = [.int i, .int j] ∧ Q (.int (if j < i then j else i)) H
  | .int => fun xs H Q => ((∃ i, xs = [.int i] ∧ Q (.int i) H) ∨ ∃ k, xs = [.bl k] ∧ Q (.int (if k then 1 else 0)) H) ∨ ∃ a n, xs = [.str a] ∧ PySem.intText? a = some n ∧ a.length ≤ 640 ∧ Q (.int n) H
  | .str => fun xs H Q => (∃ i, xs = [.int i] ∧ i.natAbs.log2 < 1920 ∧ Q (.str (toString i)) H) ∨ ∃ a, xs = [.str a] ∧ Q (.str a) H
  | .repr => rRepr K
  | .list => fun xs H Q => ∃ p ys, xs = [.ref p] ∧ (SqL K H p ys ∨ SqT K H p ys) ∧ ∀ l, H l = none → Q (.ref l) (upd H l (.lst ys))
  | .tuple => fun xs H Q => ∃ p ys, xs = [.ref p] ∧ ((SqL K H p ys ∧ ∀ l, H l = none → Q (.ref l) (upd H l (.tup ys))) ∨ (SqT K H p ys ∧ Q (.ref p) H))
  | .ord => fun xs H Q => ∃ x, xs = [.str x] ∧ x.length = 1 ∧ Q (.int (x.cps.getD 0 0 : Nat)) H
  | .lenSet => fun _ _ _ => False
  | .sorted => fun _ _ _ => False
def bifHot : Bif → Bool
  | .len | .int | .str | .repr | .list | .tuple | .ord => true
  | _ => false
theorem call_bif {X : Cx} (hg : X.A.guards = some []) (hu : X.A.units + 64 < cLine) : ∀ b : Bif, (X.calm = true ∨ bifHot b = true) → (b ≠ .lenSet ∧ b ≠ .sorted) → CallR X (bifV b) (rBif X.K b)
  | .len, _, _ => call_len.or call_lenD
  | .all, c, _ => cr_all (c.resolve_right (by decide))
  | .any, c, _ => cr_any (c.resolve_right (by decide))
  | .sum, c, _ => cr_sum (c.resolve_right (by decide))
  | .max1, c, _ => cr_max (c.resolve_right (by decide))
  | .min1, c, _ => cr_min (c.resolve_right (by decide))
  | .max2, c, _ => call_max2 (c.resolve_right (by decide))
  | .min2, c, _ => call_min2 (c.resolve_right (by decide))
  | .int, _, _ => call_int1.or call_int_str
  | .str, _, _ => call_str_int.or SkE.call_str_str
  | .repr, _, _ => call_reprD hg hu
  | .list, _, _ => call_list_of
  | .tuple, _, _ => call_tuple_of
  | .ord, _, _ => call_ord
  | .lenSet, _, n => absurd rfl n.1
  | .sorted, _, n => absurd rfl n.2
section
variable {G : Stat} {W : WX} {τ : St} {μ : List Addr} {h : IH} {H : Hp} {x y x' y' : V} {Q : V → Hp → Prop}
theorem len_ok (S : Sim G μ h H) (rx : RV μ x x') {n : Nat} (e : lenOf x h = some n) : LenV G.K x' H n ∨ ∃ a kvs, x' = V.ref a ∧ H a = some (.dK kvs) ∧ n = kvs.length := by
  unfold lenOf at e
  split at e
  · cases rx
    split at e
    · rename_i hz; cases e; exact .inl ⟨hz, rfl⟩
    · cases e
  · obtain ⟨b, hb, rfl⟩ := rx
    split at e
    · rename_i xs o
      obtain ⟨ys, r1, q⟩ := S.lstR (.inl o) hb
      cases e
      exact .inl (.inl ⟨ys, q, Paired.length r1⟩)
    · rename_i xs o
      obtain ⟨ys, r1, q⟩ := S.lstR (.inr o) hb
      cases e
      exact .inl (.inl ⟨ys, q, Paired.length r1⟩)
    · rename_i xs _ o
      obtain ⟨ys, r1, q⟩ := S.tupR o hb
      cases e
      exact .inl (.inr ⟨ys, q, Paired.length r1⟩)
    · rename_i kvs o
      obtain ⟨ks, r1, q⟩ := S.obj _ _ _ o hb
      cases e
      exact .inr ⟨b, ks, rfl, q, Paired.length r1⟩
    · cases e
  · cases e
theorem bif_ok {b : Bif} {vs vs' : List V} (nb : b ≠ .lenSet) (S : Sim G μ h H) (r : RVs μ vs vs') (w : WP G W τ RV μ (bifn b vs h) Q) : rBif G.K b vs' H Q := by
  have one : ∀ {x : V} {ws : List V}, RVs μ [x] ws → ∃ x', ws = [x'] ∧ RV μ x x' := fun r => by
    cases r with
    | cons rx t => cases t; exact ⟨_, rfl, rx⟩
  unfold bifn at w
  split at w
  · obtain ⟨x', rfl, rx⟩ := one r
    split at w
    · rename_i n e
      rcases len_ok S rx e with z | ⟨a, kvs, rfl, z, rfl⟩
      · exact .inl ⟨_, n, rfl, z, w.val S rfl⟩
      · exact .inr ⟨a, kvs, rfl, z, w.val S rfl⟩
    · exact w.elim
  · obtain ⟨x', rfl, rx⟩ := one r
    split at w
    · rename_i xs e
      obtain ⟨p, ys, rfl, r1, hq⟩ := S.lseq e rx
      split at w
      · rename_i bs e1
        have ey := r1.bools e1
        subst ey
        exact ⟨p, bs, rfl, hq, w.val S rfl⟩
      · exact w.elim
    · exact w.elim
  · obtain ⟨x', rfl, rx⟩ := one r
    split at w
    · rename_i xs e
      obtain ⟨p, ys, rfl, r1, hq⟩ := S.lseq e rx
      split at w
      · rename_i bs e1
        have ey := r1.bools e1
        subst ey
        exact ⟨p, bs, rfl, hq, w.val S rfl⟩
      · exact w.elim
    · exact w.elim
  · obtain ⟨x', rfl, rx⟩ := one r
    split at w
    · rename_i xs e
      obtain ⟨p, ys, rfl, r1, hq⟩ := S.lseq e rx
      split at w
      · rename_i bs e1
        have ey := r1.ints e1
        subst ey
        exact ⟨p, bs, rfl, hq, w.val S rfl⟩
      · exact w.elim
    · exact w.elim
  · obtain ⟨x', rfl, rx⟩ := one r
    split at w
    · rename_i xs e
      obtain ⟨p, ys, rfl, r1, hq⟩ := S.lseq e rx
      split at w
      · rename_i k e1
        obtain ⟨is, e2, e3⟩ := Option.bind_eq_some_iff.mp e1
        have ey := r1.ints e2
        subst ey
        refine ⟨p, is, rfl, hq, ?_, fun m h1 h2 => ?_⟩
        · cases is with
          | nil => cases e3
          | cons i l => exact Nat.succ_pos _
        · have em := maxI_eq e3 h1 h2
          subst em
          exact w.val S rfl
      · exact w.elim
    · exact w.elim
  · obtain ⟨x', rfl, rx⟩ := one r
    split at w
    · rename_i xs e
      obtain ⟨p, ys, rfl, r1, hq⟩ := S.lseq e rx
      split at w
      · rename_i k e1
        obtain ⟨is, e2, e3⟩ := Option.bind_eq_some_iff.mp e1
        have ey := r1.ints e2
        subst ey
        refine ⟨p, is, rfl, hq, ?_, fun m h1 h2 => ?_⟩
        · cases is with
          | nil => cases e3
          | cons i l => exact Nat.succ_pos _
        · have em := minI_eq e3 h1 h2
          subst em
          exact w.val S rfl
      · exact w.elim
    · exact w.elim
  · cases r with
    | cons r1 t =>
      cases t with
      | cons r2 t =>
        cases t; cases r1; cases r2
        exact ⟨_, _, rfl, w.val S rfl⟩
  · cases r with
    | cons r1 t =>
      cases t with
      | cons r2 t =>
        cases t; cases r1; cases r2
        exact ⟨_, _, rfl, w.val S rfl⟩
  · obtain ⟨x', rfl, rx⟩ := one r
    cases rx
    exact .inl (.inl ⟨_, rfl, w.val S rfl⟩)
  · obtain ⟨x', rfl, rx⟩ := one r
    cases rx
    exact .inl (.inr ⟨_, rfl, w.val S rfl⟩)
  · obtain ⟨x', rfl, rx⟩ := one r
    cases rx
    split at w
    · rename_i n e
      split at w
      · rename_i hl
        exact .inr ⟨_, n, rfl, e, hl, w.val S rfl⟩
      · exact w.elim
    · exact w.elim
  · obtain ⟨x', rfl, rx⟩ := one r
    cases rx
    split at w
    · rename_i hl
      exact .inl ⟨_, rfl, hl, w.val S rfl⟩
    · exact w.elim
  · obtain ⟨x', rfl, rx⟩ := one r
    cases rx
    exact .inr ⟨_, rfl, w.val S rfl⟩
  · obtain ⟨x', rfl, rx⟩ := one r
    split at w
    · rename_i d e
      split at w
      · rename_i hc
        simp only [Bool.and_eq_true, Bool.not_eq_true', decide_eq_true_eq] at hc
        obtain ⟨⟨⟨h1, h2⟩, h3⟩, h4⟩ := hc
        exact .inl ⟨_, d, rfl, dp_of S 40 e rx, h1, h2, by omega, h4, w.val S rfl⟩
      · exact w.elim
    · split at w
      · rename_i d e
        split at w
        · rename_i hc
          simp only [Bool.and_eq_true, decide_eq_true_eq] at hc
          obtain ⟨⟨h1, h3⟩, h4⟩ := hc
          unfold dicD at e
          split at e
          · obtain ⟨b, hb, rfl⟩ := rx
            split at e
            · rename_i kvs ho
              obtain ⟨ds, e1, rfl⟩ := Option.map_eq_some_iff.mp e
              obtain ⟨ks, rk, hH⟩ := S.obj _ _ _ ho hb
              have := pairsD_eq e1 rk
              subst this
              exact .inr ⟨b, ks, ds, rfl, hH, e1, h1, by omega, h4, w.val S rfl⟩
            · cases e
          · cases e
        · exact w.elim
      · exact w.elim
  · obtain ⟨x', rfl, rx⟩ := one r
    split at w
    · rename_i xs e
      obtain ⟨p, ys, rfl, r1, hq⟩ := S.seq e rx
      exact ⟨p, ys, rfl, hq, fun l hl => w.new S hl (objs_lst r1)⟩
    · exact w.elim
  · obtain ⟨x', rfl, rx⟩ := one r
    obtain ⟨p, hp, rfl⟩ := rx
    split at w
    · rename_i xs e
      obtain ⟨ys, r1, hq⟩ := S.lstR (.inl e) hp
      exact ⟨p, ys, rfl, .inl ⟨hq, fun l hl => w.new S hl (objs_tup r1)⟩⟩
    · rename_i xs e
      obtain ⟨ys, r1, hq⟩ := S.lstR (.inr e) hp
      exact ⟨p, ys, rfl, .inl ⟨hq, fun l hl => w.new S hl (objs_tup r1)⟩⟩
    · rename_i xs _ e
      obtain ⟨ys, r1, hq⟩ := S.tupR e hp
      exact ⟨p, ys, rfl, .inr ⟨hq, w.val S ⟨p, hp, rfl⟩⟩⟩
    · exact w.elim
  · exact absurd rfl nb
  · obtain ⟨x', rfl, rx⟩ := one r
    cases rx
    split at w
    · rename_i hl
      exact ⟨_, rfl, hl, w.val S rfl⟩
    · exact w.elim
  · exact w.elim
end
end MP
end
section
set_option Elab.async false
set_option linter.all false
set_option maxHeartbeats 400000
namespace MP
open PySem L2

/-! ### what a def promises, where no guard runs -/
structure FnG (P : Program) (w : World) (K : PySem.W.Frag) (mg : Str → Option Value) (base : Heap) (k : Nat) (f : Addr) (fd : FuncData) (ps : List Str) (sp : Sp) : Prop where
  len : ∀ vs H Q E, sp vs H Q E → vs.length = ps.length
  run : ∀ (A : Around) (outer : List Env) (s : Shared) (H : Hp) (args : Args) (us : List Value) (vs : List V) (Q : VK) (E : XK), A.guards = some [] → Room k A →
    Env0 P w K mg base A outer s H → BindsTo s fd args (ps.zip us) → Vals vs us → sp vs H Q E → codeAny (model P w) A (.call (.ref f) args) (CR (L2.CX P w) outer P w H s Q E) s
section
variable {X : Cx} {W : WX} {k : Nat} {f : Addr} {fd : FuncData} {ps : List Str} {sp : Sp} {pins : List (Addr × Obj)} {σ : St} {H : Hp} {s : Shared}
theorem codeG (F : FnG X.prog X.w X.K X.mg X.base k f fd ps sp) (hg : X.A.guards = some []) (hr : Room k X.A) (hb : Binds X.K fd ps []) (tk : Takes X W) {Q : VK} {us : List Value} {vs : List V}
    (I : Inv X pins σ H s) (r : Vals vs us) (q : sp vs H Q fun c d H' => W c d σ H') : codeAny (model X.prog X.w) X.A (.call (.ref f) ⟨us, []⟩) (fun r s' => match r with | .ok (.ret v) => EP X pins σ Q v s' | .ok _ => False | .error e => X.xe e s') s := by
  have n : (us ++ []).length = ps.length := by rw [List.append_nil, ← r.length]; exact F.len _ _ _ _ q
  have b := hb s us I.kIn n
  rw [List.append_nil] at b
  have run := F.run X.A X.stack s H ⟨us, []⟩ us vs Q _ hg hr I.env0 b r q
  refine codeAny_mono run fun res s' z => ?_
  match res, z with
  | .error e, z => exact tk e s' (XE.of_call I (fun _ _ _ y => y) z)
  | .ok (.ret u), z => exact I.after z
  | .ok .next, z => exact False.elim z
  | .ok .brk, z => exact False.elim z
  | .ok .cont, z => exact False.elim z
theorem callG (F : FnG X.prog X.w X.K X.mg X.base k f fd ps sp) (hg : X.A.guards = some []) (hr : Room k X.A) (hb : Binds X.K fd ps []) (tk : Takes X W) {Q : VK} {us : List Value} {vs : List V}
    (I : Inv X pins σ H s) (r : Vals vs us) (q : sp vs H Q fun c d H' => W c d σ H') : wpAny (model X.prog X.w) X.A (call (.ref f) us) (EP X pins σ Q) X.xe s := wpAny_call (codeG F hg hr hb tk I r q)
theorem guards_make {A : Around} {C : Addr} {us : List Value} (hg : A.guards = some []) : (A.under (.builtin "type.__call__" ⟨.ref C :: us, []⟩)).guards = some [] := by
  have e : (Code.builtin "type.__call__" ⟨.ref C :: us, []⟩).guards = [] := by
    unfold Code.guards
    have z : (Code.builtin "type.__call__" ⟨.ref C :: us, []⟩).isGuard = false := by
      show guardIds.contains "type.__call__" = false
      decide +kernel
    rw [z]; rfl
  unfold Around.under
  simp only
  rw [e]
  exact hg
theorem makeG {C : Addr} (M : Mk X.K C f) (F : FnG X.prog X.w X.K X.mg X.base k f fd ps sp) (hg : X.A.guards = some []) (hr : Room (k + 1) X.A) (hb : Binds X.K fd ps []) (tk : Takes X W) {Q : VK} {us : List Value} {vs : List V}
    (I : Inv X pins σ H s) (r : Vals vs us)
    (q : ∀ x dx, H x = none → H dx = none → dx ≠ x → sp (.ref x :: vs) (upd (upd H dx (.own x)) x (.ins C dx [])) (fun v H2 => v = .non ∧ Q (.ref x) H2) fun c d H' => W c d σ H') :
    wpAny (model X.prog X.w) X.A (call (.ref C) us) (EP X pins σ Q) X.xe s := by
  have fr0 := I.hok.fresh (Nat.le_refl s.heap.objs.size)
  have fr1 := I.hok.fresh (Nat.le_succ s.heap.objs.size)
  have q1 := q _ _ fr1 fr0 (Nat.ne_of_lt (Nat.lt_succ_self _))
  have J := Inv.made (C := C) I
  have rr : Vals (V.ref (s.heap.objs.size + 1) :: vs) (Value.ref (s.heap.objs.size + 1) :: us) := .cons rfl r
  have n : ((Value.ref (s.heap.objs.size + 1) :: us) ++ []).length = ps.length := by
    rw [List.append_nil, ← rr.length]; exact F.len _ _ _ _ q1
  have b := fun s' kin => hb s' (Value.ref (s.heap.objs.size + 1) :: us) kin n
  simp only [List.append_nil] at b
  have run := F.run _ X.stack _ _ ⟨Value.ref (s.heap.objs.size + 1) :: us, []⟩ (Value.ref (s.heap.objs.size + 1) :: us) _ _ _ (guards_make hg) (hr.make C us []) (J.env0.make C us []) (b _ J.kIn) rr q1
  refine wpAny_call (make_map (f := f) I.kIn M.makes M.init (beq_iff_eq.mp M.fn) (codeAny_mono run fun res s' z => ?_))
  match res, z with
  | .error e, z => exact tk e s' (XE.of_call J (fun _ _ _ y => y) z)
  | .ok (.ret u), z =>
    obtain ⟨v, H', J', rv, ev, q3⟩ := J.after z
    subst ev
    exact ⟨rv, .ref (s.heap.objs.size + 1), H', J', rfl, q3⟩
  | .ok .next, z => exact False.elim z
  | .ok .brk, z => exact False.elim z
  | .ok .cont, z => exact False.elim z
end

/-! ### the text's facts and the reading of expressions -/
/-- a def of the text as it stands -/
structure Fn where
  f : Addr
  fd : FuncData
  ps : List Str
structure Nms where
  fn : Nat → Str
  cl : Nat → Str
  gl : Nat → Str
  fl : Nat → Str
structure Dat where
  G : Stat
  Γ : Gam
  nm : Nms
  fn : Nat → Option Fn
  gv : Nat → Option Value
/-- the promise of a def by the interpreter -/
def spI (D : Dat) (f : Nat) : Sp := fun vs' H Q E => ∃ F μ h vs, Sim (D.G.wf F) μ h H ∧ RVs μ vs vs' ∧ WP (D.G.wf F) (fun c d _ H' => E c d H') [] RV μ (D.Γ.call f vs h) Q
/-- the classes' and names' facts over K -/
structure Facts (D : Dat) (X : Cx) : Prop where
  K : X.K = D.G.K
  mg : X.mg = D.G.mg
  fl : D.nm.fl = D.G.fld
  cls : ∀ C, D.Γ.clsAt C ≠ none → Cls D.G.K (D.G.cls C)
structure Syn where
  N : List Str
  sc : Scope
  calm : Bool
def vis (sc : Scope) (x : Str) : Bool := match sc.names.lookup x with
  | some .local => true
  | some .cell => true
  | some .free => true
  | _ => false
def gbl (sc : Scope) (x : Str) : Bool := match sc.names.lookup x with
  | some .globalImplicit => true
  | _ => false
def okName (x : Str) : Bool := !(x == ("__debug__" : Str)) && !(x == ("__classdict__" : Str)) && !(x == ("__name__" : Str))
theorem vis_ok {sc : Scope} {x : Str} (h : vis sc x = true) : Vis sc x := by
  unfold vis at h
  unfold Vis
  split at h
  · rename_i e; exact .inl e
  · rename_i e; exact .inr (.inl e)
  · rename_i e; exact .inr (.inr e)
  · cases h
theorem gbl_ok {sc : Scope} {x : Str} (h : gbl sc x = true) : sc.names.lookup x = some .globalImplicit := by
  unfold gbl at h
  split at h
  · rename_i e; exact e
  · cases h
theorem okName_ok {x : Str} (h : okName x = true) : (x == ("__debug__" : Str)) = false ∧ (x == ("__classdict__" : Str)) = false ∧ x ≠ "__name__" := by
  unfold okName at h
  simp only [Bool.and_eq_true, Bool.not_eq_true'] at h
  exact ⟨h.1.1, h.1.2, fun e => by have z := h.2; rw [e] at z; simp at z⟩
/-- the exception that is being handled: its name's slot, its place, its class, its dict -/
abbrev CurR := Option (Option Nat × Addr × Value × Option Addr)
def CurOk (G : Stat) (μ : List Addr) (τ : St) : CurR → Option (Nat × Nat) → Prop
  | none, none => True
  | some (i, a, cv, dA), some (C, d) => cv = .ref (G.cls C) ∧ (∃ d', dA = some d' ∧ μ[d]? = some d') ∧ ∀ n, i = some n → τ[n]? = some (some (.ref a))
  | _, _ => False
theorem CurOk.mono {G : Stat} {μ μ' : List Addr} {τ : St} (p : μ <+: μ') : ∀ {r : CurR} {c : Option (Nat × Nat)}, CurOk G μ τ r c → CurOk G μ' τ r c
  | none, none, _ => trivial
  | some _, some _, ⟨e, ⟨d', e1, e2⟩, k⟩ => ⟨e, ⟨d', e1, pre_get p e2⟩, k⟩
  | none, some _, h => h.elim
  | some _, none, h => h.elim
def tE (D : Dat) (W : WX) (R : CurR) (m : ME) : TE := fun τ H Q => ∃ F μ σ h c, RS μ σ τ ∧ Sim (D.G.wf F) μ h H ∧ CurOk D.G μ τ R c ∧ WP (D.G.wf F) W τ RV μ (evE D.Γ c false m σ h) Q
def RB (_ : List Addr) (v : V) (b : Bool) : Prop := v = .bl b
def tT (D : Dat) (W : WX) (R : CurR) (m : ME) : TT := fun τ H Q => ∃ F μ σ h c, RS μ σ τ ∧ Sim (D.G.wf F) μ h H ∧ CurOk D.G μ τ R c ∧ WP (D.G.wf F) W τ RB μ (evE D.Γ c true m σ h) Q
def tA (D : Dat) (W : WX) (R : CurR) (m : MA) : TA := fun τ H Q => ∃ F μ σ h c, RS μ σ τ ∧ Sim (D.G.wf F) μ h H ∧ CurOk D.G μ τ R c ∧ WP (D.G.wf F) W τ RVs μ (evA D.Γ c m σ h) Q
theorem _root_.L2.PE.imp {X : Cx} {e : Expr} {t t' : TE} (a : PE X e t) (f : ∀ σ H Q, t' σ H Q → t σ H Q) : PE X e t' := ⟨fun pins s σ H Q I z => a.run pins s σ H Q I (f σ H Q z)⟩
theorem _root_.L2.PT.imp {X : Cx} {e : Expr} {t t' : TT} (a : PT X e t) (f : ∀ σ H Q, t' σ H Q → t σ H Q) : PT X e t' := ⟨fun pins s σ H Q I z => a.run pins s σ H Q I (f σ H Q z)⟩
theorem _root_.L2.PA.imp {X : Cx} {e : List Expr} {t t' : TA} (a : PA X e t) (f : ∀ σ H Q, t' σ H Q → t σ H Q) : PA X e t' := ⟨fun pos pins s σ H Q I z => a.run pos pins s σ H Q I (f σ H Q z)⟩
/-- the rule hangs on the state -/
theorem _root_.L2.PE.some {X : Cx} {e : Expr} {t' : TE} (a : ∀ σ H Q, t' σ H Q → ∃ t, PE X e t ∧ t σ H Q) : PE X e t' := ⟨fun pins s σ H Q I z => let ⟨_, p, q⟩ := a σ H Q z; p.run pins s σ H Q I q⟩
end MP
end
section
set_option Elab.async false
set_option linter.all false
set_option maxHeartbeats 400000
namespace MP
open PySem L2
def notStar : Expr → Bool
  | .Starred _ _ => false
  | _ => true
theorem star_of {e : Expr} {es : List Expr} {env : Env} (h : notStar e = true) : starEach (e :: es) env = (false, eval e env) :: starEach es env := by
  cases e <;> first | rfl | cases h
theorem backTo_plain {pos : Pos} {env : Env} : ∀ {es : List Expr}, es.all notStar = true → (backTo pos (starEach es env)).any (·.1) = false
  | [], _ => rfl
  | e :: es, h => by
    rw [List.all_cons, Bool.and_eq_true] at h
    rw [star_of h.1]
    show ((false || (backTo pos (starEach es env)).any (·.1)) = false)
    rw [Bool.false_or]
    exact backTo_plain h.2
theorem cmpop_bl {op : CmpOp} {x y z : V} {h h' : IH} (e : cmpop op x y h = some (.val z h')) : ∃ k, z = .bl k := by
  unfold cmpop at e
  (repeat' split at e) <;> first | (cases e; exact ⟨_, rfl⟩) | cases e
theorem cmpop_no {op : CmpOp} {x y : V} {h h' : IH} {C d : Nat} (e : cmpop op x y h = some (.exn C d h')) : False := by
  unfold cmpop at e
  (repeat' split at e) <;> cases e
section
variable {X : Cx} {D : Dat} {W : WX} {R : CurR} {e a b c : Expr} {m ma mb mc : ME} {pos : Pos}
/-- an expression is read as m says -/
structure SE (X : Cx) (D : Dat) (W : WX) (R : CurR) (e : Expr) (m : ME) (t : Bool) : Prop where
  pe : PE X e (tE D W R m)
  pt : t = true → PT X e (tT D W R m)
  pw : t = true → (∃ op vs pos, e = .BoolOp op vs pos) → PW X e (tT D W R m)
  ns : notStar e = true
theorem pt_leaf (hp : PE X e (tE D W R m)) (hk : X.K = D.G.K) (ev : ∀ c σ h, evE D.Γ c true m σ h = bnd (evE D.Γ c false m σ h) (fin true))
    (he : ∀ whole, isTrue e X.env whole = (do let v ← whole; standAt e.pos; holding [v] (truthy v))) : PT X e (tT D W R m) :=
  (pt_truth hp he).imp fun τ H Q ⟨F, μ, σ, h, c, rs, S, hc, w⟩ => by
    rw [ev] at w
    refine ⟨F, μ, σ, h, c, rs, S, hc, WP.imp (WP.bnd (rel := RV) w) fun x' H1 ⟨μ1, x, h1, p1, S1, rx, w1⟩ => ?_⟩
    unfold fin at w1
    split at w1
    · contradiction
    · split at w1
      · rename_i k e
        rw [show X.K = (D.G.wf F).K from hk]
        exact ⟨k, truth_ok S1 rx e, w1.val S1 rfl⟩
      · exact w1.elim
theorem se_leaf (hp : PE X e (tE D W R m)) (hk : X.K = D.G.K) (ev : ∀ c σ h, evE D.Γ c true m σ h = bnd (evE D.Γ c false m σ h) (fin true))
    (he : ∀ whole, isTrue e X.env whole = (do let v ← whole; standAt e.pos; holding [v] (truthy v))) (nb : ∀ op vs pos, e ≠ .BoolOp op vs pos) (ns : notStar e = true) : SE X D W R e m true :=
  ⟨hp, fun _ => pt_leaf hp hk ev he, fun _ ⟨op, vs, pos, z⟩ => absurd z (nb op vs pos), ns⟩
theorem RS.get {μ : List Addr} {σ τ : St} {i : Nat} {v : V} (r : RS μ σ τ) (e : σ[i]? = some (some v)) : ∃ v', τ[i]? = some (some v') ∧ RV μ v v' := by
  obtain ⟨u, h1, h2⟩ := Paired.getP r e
  cases u with
  | none => exact h2.elim
  | some v' => exact ⟨v', h1, h2⟩
theorem ev_fin (m : ME) (h : ∀ (Γ : Gam) (c : Option (Nat × Nat)) (σ : St) (h : IH), ∃ x : EV V, (∀ t, evE Γ c t m σ h = bnd x (fin t))) : ∀ (Γ : Gam) (c : Option (Nat × Nat)) (σ : St) (h : IH), evE Γ c true m σ h = bnd (evE Γ c false m σ h) (fin true) := fun Γ c σ hh => by
  obtain ⟨x, e⟩ := h Γ c σ hh
  rw [e true, e false, bnd_fin]
/-! ### names, constants -/
theorem se_var {i : Nat} {x : Str} (hk : X.K = D.G.K) (hN : X.N[i]? = some x) (hv : Vis X.env.scope x) (ok : okName x = true) : SE X D W R (.Name x pos) (.var i) true := by
  obtain ⟨o1, o2, _⟩ := okName_ok ok
  refine se_leaf ((pe_var hN hv o1 o2).imp fun τ H Q ⟨F, μ, σ, h, c, rs, S, hc, w⟩ => ?_) hk (fun c σ h => ev_fin _ (fun Γ c σ h => ⟨slotV σ i h, fun t => rfl⟩) _ c σ h) (fun _ => rfl) (by intros; intro z; cases z) rfl
  have w : WP (D.G.wf F) W τ RV μ (bnd (slotV σ i h) (fin false)) Q := w
  rw [bnd_fin] at w
  unfold slotV at w
  split at w
  · rename_i v e
    obtain ⟨v', e', r⟩ := RS.get rs e
    exact ⟨v', e', w.val S r⟩
  · exact w.elim
theorem rv_cst {μ : List Addr} {v : V} (h : ∀ a, v ≠ .ref a) : RV μ v v := by
  cases v with
  | ref a => exact absurd rfl (h a)
  | _ => rfl
theorem se_cst {v : V} {e : Expr} (hk : X.K = D.G.K) (hp : PE X e (tC v)) (hv : ∀ a, v ≠ .ref a) (he : ∀ whole, isTrue e X.env whole = (do let v ← whole; standAt e.pos; holding [v] (truthy v))) (nb : ∀ op vs pos, e ≠ .BoolOp op vs pos) (ns : notStar e = true) : SE X D W R e (.cst v) true := by
  refine se_leaf (hp.imp fun τ H Q ⟨F, μ, σ, h, c, rs, S, hc, w⟩ => ?_) hk (fun c σ h => by show fin true v h = bnd (fin false v h) (fin true); rfl) he nb ns
  have w : WP (D.G.wf F) W τ RV μ (ret v h) Q := w
  exact w.val S (rv_cst hv)
/-! ### operators -/
theorem pe_binS {op : Operator} (hk : X.K = D.G.K) (ha : PE X a (tE D W R ma)) (hb : PE X b (tE D W R mb)) : PE X (.BinOp a op b pos) (tE D W R (.bin op ma mb)) :=
  (pe_op (op_bin op) ha hb).imp fun τ H Q ⟨F, μ, σ, h, c, rs, S, hc, w⟩ => by
    simp only [evE, bnd_fin] at w
    refine ⟨F, μ, σ, h, c, rs, S, hc, WP.imp (WP.bnd (rel := RV) w) fun x' H1 ⟨μ1, x, h1, p1, S1, rx, w1⟩ => ?_⟩
    refine ⟨F, μ1, σ, h1, c, rs.mono p1, S1, hc.mono p1, WP.imp (WP.bnd (rel := RV) w1) fun y' H2 ⟨μ2, y, h2, p2, S2, ry, w2⟩ => ?_⟩
    rw [show X.K = (D.G.wf F).K from hk]
    exact binop_ok S2 (rx.mono p2) ry w2
theorem se_bin {op : Operator} (hk : X.K = D.G.K) (ha : PE X a (tE D W R ma)) (hb : PE X b (tE D W R mb)) : SE X D W R (.BinOp a op b pos) (.bin op ma mb) true :=
  se_leaf (pe_binS hk ha hb) hk (fun c σ h => ev_fin _ (fun Γ c σ h => ⟨_, fun t => rfl⟩) _ c σ h) (fun _ => rfl) (by intros; intro z; cases z) rfl
theorem se_neg (hk : X.K = D.G.K) (ha : PE X a (tE D W R ma)) : SE X D W R (.UnaryOp .USub a pos) (.neg ma) true :=
  se_leaf ((pe_un un_neg ha).imp fun τ H Q ⟨F, μ, σ, h, c, rs, S, hc, w⟩ => by
    simp only [evE, bnd_fin] at w
    refine ⟨F, μ, σ, h, c, rs, S, hc, WP.imp (WP.bnd (rel := RV) w) fun x' H1 ⟨μ1, x, h1, p1, S1, rx, w1⟩ => ?_⟩
    unfold negV at w1
    split at w1
    · cases rx
      exact ⟨_, rfl, w1.val S1 rfl⟩
    · exact w1.elim) hk (fun c σ h => ev_fin _ (fun Γ c σ h => ⟨_, fun t => rfl⟩) _ c σ h) (fun _ => rfl) (by intros; intro z; cases z) rfl
theorem pe_cmpS {op : CmpOp} (hk : X.K = D.G.K) (hu : X.A.units + 64 < cLine) (ha : PE X a (tE D W R ma)) (hb : PE X b (tE D W R mb)) (hm : behindInMarks op b = false) : PE X (.Compare a [op] [b] pos) (tE D W R (.cmp op ma mb)) :=
  (pe_cmpR (op_cmp hu op) ha hb hm).imp fun τ H Q ⟨F, μ, σ, h, c, rs, S, hc, w⟩ => by
    simp only [evE, bnd_fin] at w
    refine ⟨F, μ, σ, h, c, rs, S, hc, WP.imp (WP.bnd (rel := RV) w) fun x' H1 ⟨μ1, x, h1, p1, S1, rx, w1⟩ => ?_⟩
    refine ⟨F, μ1, σ, h1, c, rs.mono p1, S1, hc.mono p1, WP.imp (WP.bnd (rel := RV) w1) fun y' H2 ⟨μ2, y, h2, p2, S2, ry, w2⟩ => ?_⟩
    rw [show X.K = (D.G.wf F).K from hk]
    exact cmpop_ok S2 (rx.mono p2) ry w2
theorem bnd_assoc {α β γ : Type} (x : EV α) (k : α → IH → EV β) (l : β → IH → EV γ) : bnd (bnd x k) l = bnd x fun a h => bnd (k a h) l := by
  cases x with
  | none => rfl
  | some o => cases o <;> rfl
/-- what a comparison gives, as a test -/
theorem cmp_test {G : Stat} {τ : St} {μ : List Addr} {op : CmpOp} {x y : V} {h : IH} {Q : Bool → Hp → Prop} (w : WP G W τ RB μ (bnd (cmpop op x y h) (fin true)) Q) : WP G W τ RV μ (cmpop op x y h) fun z H' => ∃ k, z = .bl k ∧ Q k H' := by
  cases e : cmpop op x y h with
  | none => rw [e] at w; exact w
  | some o =>
    cases o with
    | exn C d h' => exact (cmpop_no e).elim
    | val z h' =>
      obtain ⟨k, rfl⟩ := cmpop_bl e
      rw [e] at w
      intro μ' H' v' p S r
      cases r
      exact ⟨k, rfl, w μ' H' k p S rfl⟩
theorem se_cmp {op : CmpOp} (hk : X.K = D.G.K) (hu : X.A.units + 64 < cLine) (ha : PE X a (tE D W R ma)) (hb : PE X b (tE D W R mb)) (hm : behindInMarks op b = false) : SE X D W R (.Compare a [op] [b] pos) (.cmp op ma mb) true :=
  ⟨pe_cmpS hk hu ha hb hm, fun _ => (pt_cmpR (op_cmp hu op) ha hb hm).imp fun τ H Q ⟨F, μ, σ, h, c, rs, S, hc, w⟩ => by
    simp only [evE, bnd_assoc] at w
    refine ⟨F, μ, σ, h, c, rs, S, hc, WP.imp (WP.bnd (rel := RV) w) fun x' H1 ⟨μ1, x, h1, p1, S1, rx, w1⟩ => ?_⟩
    refine ⟨F, μ1, σ, h1, c, rs.mono p1, S1, hc.mono p1, WP.imp (WP.bnd (rel := RV) w1) fun y' H2 ⟨μ2, y, h2, p2, S2, ry, w2⟩ => ?_⟩
    rw [show X.K = (D.G.wf F).K from hk]
    exact cmpop_ok S2 (rx.mono p2) ry (cmp_test w2), fun _ ⟨_, _, _, z⟩ => (by cases z), rfl⟩
theorem se_cmp2 {op op' : CmpOp} (hk : X.K = D.G.K) (hu : X.A.units + 64 < cLine) (ha : PE X a (tE D W R ma)) (hb : PE X b (tE D W R mb)) (hc' : PE X c (tE D W R mc)) (hm : behindInMarks op' c = false) : SE X D W R (.Compare a [op, op'] [b, c] pos) (.cmp2 op op' ma mb mc) true := by
  have sub : ∀ {τ : St} {H : Hp} {β : Type} {rel : List Addr → V → β → Prop} {Q : β → Hp → Prop} {Q' : VK} {t : Bool},
      (∀ {F : Hp} {μ : List Addr} {y w : V} {h : IH}, WP (D.G.wf F) W τ rel μ (bnd (cmpop op' y w h) (fin t)) Q → WP (D.G.wf F) W τ RV μ (cmpop op' y w h) Q') → (∀ {F : Hp} {μ : List Addr} {h : IH} {H : Hp}, Sim (D.G.wf F) μ h H → WP (D.G.wf F) W τ rel μ (ret (.bl false) h) Q → Q' (.bl false) H) →
      (∃ F μ σ h c, RS μ σ τ ∧ Sim (D.G.wf F) μ h H ∧ CurOk D.G μ τ R c ∧ WP (D.G.wf F) W τ rel μ (evE D.Γ c t (.cmp2 op op' ma mb mc) σ h) Q) → tChain (rCmp X.K op) (rCmp X.K op') (tE D W R ma) (tE D W R mb) (tE D W R mc) τ H Q' := by
    intro τ H β rel Q Q' t h1 h2 ⟨F, μ, σ, h, c, rs, S, hc, w⟩
    simp only [evE] at w
    refine ⟨F, μ, σ, h, c, rs, S, hc, WP.imp (WP.bnd (rel := RV) w) fun x' H1 ⟨μ1, x, h1', p1, S1, rx, w1⟩ => ?_⟩
    refine ⟨F, μ1, σ, h1', c, rs.mono p1, S1, hc.mono p1, WP.imp (WP.bnd (rel := RV) w1) fun y' H2 ⟨μ2, y, h2', p2, S2, ry, w2⟩ => ?_⟩
    rw [show X.K = (D.G.wf F).K from hk]
    refine cmpop_ok S2 (rx.mono p2) ry (WP.imp (WP.bnd (rel := RV) w2) fun z' H3 ⟨μ3, z, h3', p3, S3, rz, w3⟩ => ?_)
    split at w3
    · cases rz
      refine ⟨true, rfl, ?_⟩
      rw [if_pos rfl]
      refine ⟨F, μ3, σ, h3', c, ((rs.mono p1).mono p2).mono p3, S3, ((hc.mono p1).mono p2).mono p3, WP.imp (WP.bnd (rel := RV) w3) fun u' H4 ⟨μ4, u, h4', p4, S4, ru, w4⟩ => ?_⟩
      exact cmpop_ok S4 ((ry.mono p3).mono p4) ru (h1 w4)
    · cases rz
      refine ⟨false, rfl, ?_⟩
      rw [if_neg Bool.false_ne_true]
      exact h2 S3 w3
    · exact w3.elim
  refine ⟨(pe_chain (op_cmp hu op) (op_cmp hu op') ha hb hc' hm).imp fun τ H Q z => sub (β := V) (rel := RV) (t := false) (fun w => by rw [bnd_fin] at w; exact w) (fun S w => w.val S rfl) z, fun _ => (pt_chain (op_cmp hu op) (op_cmp hu op') ha hb hc' hm).imp fun τ H Q z => sub (β := Bool) (rel := RB) (t := true) (fun w => cmp_test w) (fun S w => ⟨false, rfl, w.val S rfl⟩) z, fun _ ⟨_, _, _, z⟩ => (by cases z), rfl⟩
end
end MP
end
section
set_option Elab.async false
set_option linter.all false
set_option maxHeartbeats 400000
namespace MP
open PySem L2
/-- what every context of a body bears -/
structure EX (X : Cx) (D : Dat) : Prop where
  K : X.K = D.G.K
  gd : X.A.guards = some []
  un : X.A.units + 64 < cLine
structure EC (k : Nat) (X : Cx) (D : Dat) (W : WX) : Prop extends EX X D where
  rm : Room k X.A
  tk : Takes X W
  cm : X.calm = true
section
variable {X : Cx} {D : Dat} {W : WX} {R : CurR} {e a b c : Expr} {m ma mb mc : ME} {pos : Pos} {t : Bool} {es rest : List Expr} {ms : MA}
theorem SE.any (h : SE X D W R e m true) : SE X D W R e m t := ⟨h.pe, fun _ => h.pt rfl, fun _ => h.pw rfl, h.ns⟩
theorem SE.val (h : SE X D W R e m t) : SE X D W R e m false := ⟨h.pe, fun z => (by cases z), fun z => (by cases z), h.ns⟩
theorem se_one {op : BoolOp} (ha : SE X D W R a ma t) : SE X D W R (.BoolOp op [a] pos) ma t :=
  have pw : t = true → PW X (.BoolOp op [a] pos) (tT D W R ma) := fun z => match op with
    | .And => pw_and1 (ha.pt z)
    | .Or => pw_or1 (ha.pt z)
  ⟨pe_one ha.pe, fun z => (pw z).pt, fun z _ => pw z, rfl⟩
theorem and_step {F : Hp} {β : Type} {rel : List Addr → V → β → Prop} {τ : St} {H : Hp} {μ : List Addr} {σ : St} {h : IH} {cu : Option (Nat × Nat)} {x : V} {Q : β → Hp → Prop} {k : Bool}
    (w : WP (D.G.wf F) W τ rel μ (match x with
      | .bl true => evE D.Γ cu t mb σ h
      | .bl false => ret (.bl false) h
      | _ => none) Q) : (x = .bl true ∧ WP (D.G.wf F) W τ rel μ (evE D.Γ cu t mb σ h) Q) ∨ (x = .bl false ∧ WP (D.G.wf F) W τ rel μ (ret (.bl false) h) Q) := by
  split at w
  · exact .inl ⟨rfl, w⟩
  · exact .inr ⟨rfl, w⟩
  · exact w.elim
theorem or_step {F : Hp} {β : Type} {rel : List Addr → V → β → Prop} {τ : St} {H : Hp} {μ : List Addr} {σ : St} {h : IH} {cu : Option (Nat × Nat)} {x : V} {Q : β → Hp → Prop} {k : Bool}
    (w : WP (D.G.wf F) W τ rel μ (match x with
      | .bl false => evE D.Γ cu t mb σ h
      | .bl true => ret (.bl true) h
      | _ => none) Q) : (x = .bl false ∧ WP (D.G.wf F) W τ rel μ (evE D.Γ cu t mb σ h) Q) ∨ (x = .bl true ∧ WP (D.G.wf F) W τ rel μ (ret (.bl true) h) Q) := by
  split at w
  · exact .inl ⟨rfl, w⟩
  · exact .inr ⟨rfl, w⟩
  · exact w.elim
theorem se_and (ha : SE X D W R a ma t) (hb : SE X D W R (.BoolOp .And (b :: rest) pos) mb t) : SE X D W R (.BoolOp .And (a :: b :: rest) pos) (.andE ma mb) t := by
  have pw : t = true → PW X (.BoolOp .And (a :: b :: rest) pos) (tT D W R (.andE ma mb)) := fun z => by
    subst z
    refine ⟨fun wh pins s τ H Q I y => (pw_and (ha.pt rfl) (hb.pw rfl ⟨_, _, _, rfl⟩)).run wh pins s τ H Q I ?_⟩
    obtain ⟨F, μ, σ, h, cu, rs, S, hc, w⟩ := y
    simp only [evE] at w
    refine ⟨F, μ, σ, h, cu, rs, S, hc, WP.imp (WP.bnd (rel := RB) w) fun x' H1 ⟨μ1, x, h1, p1, S1, rx, w1⟩ => ?_⟩
    rcases and_step (H := H) (k := true) w1 with ⟨e, w2⟩ | ⟨e, w2⟩
    · have : x' = true := by rw [show x = .bl x' from rx] at e; cases e; rfl
      subst this
      rw [if_pos rfl]
      exact ⟨F, μ1, σ, h1, cu, rs.mono p1, S1, hc.mono p1, w2⟩
    · have : x' = false := by rw [show x = .bl x' from rx] at e; cases e; rfl
      subst this
      rw [if_neg Bool.false_ne_true]
      exact w2.val S1 rfl
  refine ⟨(pe_and ha.pe hb.pe).imp fun τ H Q ⟨F, μ, σ, h, cu, rs, S, hc, w⟩ => ?_, fun z => (pw z).pt, fun z _ => pw z, rfl⟩
  simp only [evE] at w
  refine ⟨F, μ, σ, h, cu, rs, S, hc, WP.imp (WP.bnd (rel := RV) w) fun x' H1 ⟨μ1, x, h1, p1, S1, rx, w1⟩ => ?_⟩
  rcases and_step (H := H) (k := true) w1 with ⟨rfl, w2⟩ | ⟨rfl, w2⟩
  · cases rx
    refine ⟨true, rfl, ?_⟩
    rw [if_pos rfl]
    exact ⟨F, μ1, σ, h1, cu, rs.mono p1, S1, hc.mono p1, w2⟩
  · cases rx
    refine ⟨false, rfl, ?_⟩
    rw [if_neg Bool.false_ne_true]
    exact w2.val S1 rfl
theorem se_or (ha : SE X D W R a ma t) (hb : SE X D W R (.BoolOp .Or (b :: rest) pos) mb t) : SE X D W R (.BoolOp .Or (a :: b :: rest) pos) (.orE ma mb) t := by
  have pw : t = true → PW X (.BoolOp .Or (a :: b :: rest) pos) (tT D W R (.orE ma mb)) := fun z => by
    subst z
    refine ⟨fun wh pins s τ H Q I y => (pw_or (ha.pt rfl) (hb.pw rfl ⟨_, _, _, rfl⟩)).run wh pins s τ H Q I ?_⟩
    obtain ⟨F, μ, σ, h, cu, rs, S, hc, w⟩ := y
    simp only [evE] at w
    refine ⟨F, μ, σ, h, cu, rs, S, hc, WP.imp (WP.bnd (rel := RB) w) fun x' H1 ⟨μ1, x, h1, p1, S1, rx, w1⟩ => ?_⟩
    rcases or_step (H := H) (k := true) w1 with ⟨e, w2⟩ | ⟨e, w2⟩
    · have : x' = false := by rw [show x = .bl x' from rx] at e; cases e; rfl
      subst this
      rw [if_neg Bool.false_ne_true]
      exact ⟨F, μ1, σ, h1, cu, rs.mono p1, S1, hc.mono p1, w2⟩
    · have : x' = true := by rw [show x = .bl x' from rx] at e; cases e; rfl
      subst this
      rw [if_pos rfl]
      exact w2.val S1 rfl
  refine ⟨(pe_or ha.pe hb.pe).imp fun τ H Q ⟨F, μ, σ, h, cu, rs, S, hc, w⟩ => ?_, fun z => (pw z).pt, fun z _ => pw z, rfl⟩
  simp only [evE] at w
  refine ⟨F, μ, σ, h, cu, rs, S, hc, WP.imp (WP.bnd (rel := RV) w) fun x' H1 ⟨μ1, x, h1, p1, S1, rx, w1⟩ => ?_⟩
  rcases or_step (H := H) (k := true) w1 with ⟨rfl, w2⟩ | ⟨rfl, w2⟩
  · cases rx
    refine ⟨false, rfl, ?_⟩
    rw [if_neg Bool.false_ne_true]
    exact ⟨F, μ1, σ, h1, cu, rs.mono p1, S1, hc.mono p1, w2⟩
  · cases rx
    refine ⟨true, rfl, ?_⟩
    rw [if_pos rfl]
    exact w2.val S1 rfl
theorem se_not (ha : SE X D W R a ma t) : SE X D W R (.UnaryOp .Not a pos) (.notE ma) t := by
  refine ⟨(pe_not ha.pe).imp fun τ H Q ⟨F, μ, σ, h, cu, rs, S, hc, w⟩ => ?_, fun z => ?_, fun _ ⟨_, _, _, z⟩ => (by cases z), rfl⟩
  · simp only [evE] at w
    refine ⟨F, μ, σ, h, cu, rs, S, hc, WP.imp (WP.bnd (rel := RV) w) fun x' H1 ⟨μ1, x, h1, p1, S1, rx, w1⟩ => ?_⟩
    unfold notV at w1
    split at w1
    · cases rx
      exact ⟨_, rfl, w1.val S1 rfl⟩
    · exact w1.elim
  · subst z
    refine (pt_not (ha.pt rfl)).imp fun τ H Q ⟨F, μ, σ, h, cu, rs, S, hc, w⟩ => ?_
    simp only [evE] at w
    refine ⟨F, μ, σ, h, cu, rs, S, hc, WP.imp (WP.bnd (rel := RB) w) fun x' H1 ⟨μ1, x, h1, p1, S1, rx, w1⟩ => ?_⟩
    have rx : x = .bl x' := rx
    subst rx
    exact w1.val S1 rfl
theorem se_ife (hc' : SE X D W R c mc true) (ha : SE X D W R a ma false) (hb : SE X D W R b mb false) : SE X D W R (.IfExp c a b pos) (.ife mc ma mb) false := by
  refine ⟨(pe_ifExp (hc'.pt rfl) ha.pe hb.pe).imp fun τ H Q ⟨F, μ, σ, h, cu, rs, S, hc, w⟩ => ?_, fun z => (by cases z), fun z => (by cases z), rfl⟩
  simp only [evE, bnd_fin] at w
  refine ⟨F, μ, σ, h, cu, rs, S, hc, WP.imp (WP.bnd (rel := RB) w) fun x' H1 ⟨μ1, x, h1, p1, S1, rx, w1⟩ => ?_⟩
  have rx : x = .bl x' := rx
  subst rx
  cases x' with
  | true => rw [if_pos rfl]; exact ⟨F, μ1, σ, h1, cu, rs.mono p1, S1, hc.mono p1, w1⟩
  | false => rw [if_neg Bool.false_ne_true]; exact ⟨F, μ1, σ, h1, cu, rs.mono p1, S1, hc.mono p1, w1⟩
/-- argument lists -/
structure SA (X : Cx) (D : Dat) (W : WX) (R : CurR) (es : List Expr) (ms : MA) : Prop where
  pa : PA X es (tA D W R ms)
  ns : es.all notStar = true
theorem sa_nil : SA X D W R [] .nil := ⟨pa_nil.imp fun τ H Q ⟨F, μ, σ, h, cu, rs, S, hc, w⟩ => by
  simp only [evA] at w
  exact w.val S .nil, rfl⟩
theorem sa_cons (ha : SE X D W R e m false) (hr : SA X D W R es ms) : SA X D W R (e :: es) (.cons m ms) := ⟨(pa_cons ha.pe hr.pa (star_of ha.ns)).imp fun τ H Q ⟨F, μ, σ, h, cu, rs, S, hc, w⟩ => by
  simp only [evA] at w
  refine ⟨F, μ, σ, h, cu, rs, S, hc, WP.imp (WP.bnd (rel := RV) w) fun x' H1 ⟨μ1, x, h1, p1, S1, rx, w1⟩ => ?_⟩
  refine ⟨F, μ1, σ, h1, cu, rs.mono p1, S1, hc.mono p1, WP.imp (WP.bnd (rel := RVs) w1) fun xs' H2 ⟨μ2, xs, h2, p2, S2, rxs, w2⟩ => ?_⟩
  exact w2.val S2 (.cons (rx.mono p2) rxs), by rw [List.all_cons, ha.ns, hr.ns]; rfl⟩
theorem se_lst (hk : EX X D) (ha : SA X D W R es ms) : SE X D W R (.List es pos) (.lst ms) t :=
  (se_leaf ((pe_lst ha.pa).imp fun τ H Q ⟨F, μ, σ, h, c, rs, S, hc, w⟩ => by
    simp only [evE, bnd_fin] at w
    refine ⟨F, μ, σ, h, c, rs, S, hc, WP.imp (WP.bnd (rel := RVs) w) fun xs' H1 ⟨μ1, xs, h1, p1, S1, rx, w1⟩ => ?_⟩
    unfold listV at w1
    split at w1
    · rename_i hl
      exact ⟨by rw [← Paired.length rx]; exact hl, fun p hp => w1.new S1 hp (objs_lst rx)⟩
    · exact w1.elim) hk.K (fun c σ h => ev_fin _ (fun Γ c σ h => ⟨_, fun t => rfl⟩) _ c σ h) (fun _ => rfl) (by intros; intro z; cases z) rfl).any
theorem se_tup {x1 : Nat} (hk : EX X D) (ha : SA X D W R es ms) : SE X D W R (.Tuple es x1 pos) (.tup ms) t :=
  (se_leaf ((pe_tup ha.pa).imp fun τ H Q ⟨F, μ, σ, h, c, rs, S, hc, w⟩ => by
    simp only [evE, bnd_fin] at w
    refine ⟨F, μ, σ, h, c, rs, S, hc, WP.imp (WP.bnd (rel := RVs) w) fun xs' H1 ⟨μ1, xs, h1, p1, S1, rx, w1⟩ => ?_⟩
    unfold tupV at w1
    split at w1
    · rename_i hl
      exact ⟨by rw [← Paired.length rx]; exact hl, fun p hp => w1.new S1 hp (objs_tup rx)⟩
    · exact w1.elim) hk.K (fun c σ h => ev_fin _ (fun Γ c σ h => ⟨_, fun t => rfl⟩) _ c σ h) (fun _ => rfl) (by intros; intro z; cases z) rfl).any
theorem se_ix (hk : EX X D) (ha : SE X D W R a ma false) (hb : SE X D W R b mb false) (hp : PlainIx b) : SE X D W R (.Subscript a b pos) (.ix ma mb) t :=
  (se_leaf ((pe_ix ix_seq ha.pe hb.pe hp).imp fun τ H Q ⟨F, μ, σ, h, c, rs, S, hc, w⟩ => by
    simp only [evE, bnd_fin] at w
    refine ⟨F, μ, σ, h, c, rs, S, hc, WP.imp (WP.bnd (rel := RV) w) fun x' H1 ⟨μ1, x, h1, p1, S1, rx, w1⟩ => ?_⟩
    refine ⟨F, μ1, σ, h1, c, rs.mono p1, S1, hc.mono p1, WP.imp (WP.bnd (rel := RV) w1) fun y' H2 ⟨μ2, y, h2, p2, S2, ry, w2⟩ => ?_⟩
    rw [show X.K = (D.G.wf F).K from hk.K]
    exact getix_ok S2 (rx.mono p2) ry w2) hk.K (fun c σ h => ev_fin _ (fun Γ c σ h => ⟨_, fun t => rfl⟩) _ c σ h) (fun _ => rfl) (by intros; intro z; cases z) rfl).any
/-- a bound of a slice -/
def RI (_ : List Addr) (x y : Option Int) : Prop := x = y
def tO (D : Dat) (W : WX) (R : CurR) (m : MO) : TO := fun τ H Q => ∃ F μ σ h c, RS μ σ τ ∧ Sim (D.G.wf F) μ h H ∧ CurOk D.G μ τ R c ∧ WP (D.G.wf F) W τ RI μ (evO D.Γ c m σ h) Q
theorem _root_.L2.PO.imp {X : Cx} {e : Option Expr} {t t' : TO} (a : PO X e t) (f : ∀ σ H Q, t' σ H Q → t σ H Q) : PO X e t' := ⟨fun pins s σ H Q I z => a.run pins s σ H Q I (f σ H Q z)⟩
theorem so_none : PO X none (tO D W R .none) := po_none.imp fun τ H Q ⟨F, μ, σ, h, c, rs, S, hc, w⟩ => by
  simp only [evO] at w
  exact w.val S rfl
theorem so_some (ha : SE X D W R a ma false) : PO X (some a) (tO D W R (.some ma)) := (po_some ha.pe).imp fun τ H Q ⟨F, μ, σ, h, c, rs, S, hc, w⟩ => by
  simp only [evO] at w
  refine ⟨F, μ, σ, h, c, rs, S, hc, WP.imp (WP.bnd (rel := RV) w) fun x' H1 ⟨μ1, x, h1, p1, S1, rx, w1⟩ => ?_⟩
  unfold oneInt at w1
  split at w1
  · cases rx
    exact ⟨_, rfl, w1.val S1 rfl⟩
  · exact w1.elim
theorem se_sl {lo hi : Option Expr} {ml mh : MO} {p2 : Pos} (hk : EX X D) (ha : SE X D W R a ma false) (hl : PO X lo (tO D W R ml)) (hh : PO X hi (tO D W R mh)) : SE X D W R (.Subscript a (.Slice lo hi none p2) pos) (.sl ma ml mh) t :=
  (se_leaf ((pe_slice sl_all ha.pe hl hh).imp fun τ H Q ⟨F, μ, σ, h, c, rs, S, hc, w⟩ => by
    simp only [evE, bnd_fin] at w
    refine ⟨F, μ, σ, h, c, rs, S, hc, WP.imp (WP.bnd (rel := RV) w) fun x' H1 ⟨μ1, x, h1, p1, S1, rx, w1⟩ => ?_⟩
    refine ⟨F, μ1, σ, h1, c, rs.mono p1, S1, hc.mono p1, WP.imp (WP.bnd (rel := RI) w1) fun y' H2 ⟨μ2, y, h2, p2, S2, ry, w2⟩ => ?_⟩
    refine ⟨F, μ2, σ, h2, c, (rs.mono p1).mono p2, S2, (hc.mono p1).mono p2, WP.imp (WP.bnd (rel := RI) w2) fun z' H3 ⟨μ3, z, h3, p3, S3, rz, w3⟩ => ?_⟩
    have ry : y = y' := ry
    have rz : z = z' := rz
    subst ry rz
    rw [show X.K = (D.G.wf F).K from hk.K]
    exact getsl_ok S3 ((rx.mono p2).mono p3) w3) hk.K (fun c σ h => ev_fin _ (fun Γ c σ h => ⟨_, fun t => rfl⟩) _ c σ h) (fun _ => rfl) (by intros; intro z; cases z) rfl).any
/-- a global value -/
theorem se_glb {x : Str} {u : Value} {g : Nat} {v v' : V} (hk : EX X D) (hg : Gl X x) (hm : X.mg x = some u) (r : RelV v' u) (rv : RV D.G.pre v v') (hv : D.Γ.glob g = some v) (hd : (x == ("__debug__" : Str)) = false) : SE X D W R (.Name x pos) (.glb g) t :=
  (se_leaf ((pe_glob hg hm r hd).imp fun τ H Q ⟨F, μ, σ, h, c, rs, S, hc, w⟩ => by
    simp only [evE, hv, optV, bnd_fin] at w
    exact w.val S (rv.mono S.pre)) hk.K (fun c σ h => ev_fin _ (fun Γ c σ h => ⟨_, fun t => rfl⟩) _ c σ h) (fun _ => rfl) (by intros; intro z; cases z) rfl).any
end
end MP
end
section
set_option Elab.async false
set_option linter.all false
set_option maxHeartbeats 400000
namespace MP
open PySem L2
/-- a def at its place a, its promise with room 2 * k -/
structure FK (P : Program) (w : World) (K : PySem.W.Frag) (mg : Str → Option Value) (base : Heap) (D : Dat) (k f : Nat) (a : Addr) : Prop where
  ex : ∃ fd ps, FnG P w K mg base (2 * k) a fd ps (spI D f) ∧ Binds K fd ps []
/-- the classes of the text -/
structure Dyn (P : Program) (w : World) (K : PySem.W.Frag) (mg : Str → Option Value) (base : Heap) (D : Dat) (k : Nat) : Prop where
  init : ∀ C f, D.Γ.init C = some f → ∃ a, Mk K (D.G.cls C) a ∧ FK P w K mg base D k f a
  callm : ∀ C f, D.Γ.callm C = some f → ∃ a, Cls K (D.G.cls C) ∧ StX.CallO K (D.G.cls C) a ∧ FK P w K mg base D k f a
  prop : ∀ C x f, D.Γ.prop C x = some f → ∃ p a, Cls K (D.G.cls C) ∧ PropOf K (D.G.cls C) (D.G.fld x) p a ∧ FK P w K mg base D k f a
  meth : ∀ C x f, D.Γ.meth C x = some f → x < D.G.M ∧ ∃ a, Cls K (D.G.cls C) ∧ Meth K (D.G.cls C) (D.G.fld x) a ∧ FK P w K mg base D k f a
  isF : ∀ C x, D.Γ.isF C x = true → x < D.G.M ∧ Cls K (D.G.cls C) ∧ NoAttr K (D.G.cls C) (D.G.fld x)
  con : ∀ C x v, D.Γ.con C x = some v → ∃ mc v' u, ClX.CRead K (D.G.cls C) mc ∧ ClX.CVal K (D.G.cls C) mc (D.G.fld x) v' u ∧ RV D.G.pre v v'
  cmeth : ∀ C x f c, D.Γ.cmeth C x = some (f, true) → D.Γ.clsAt C = some c → D.G.pre[c]? = some (D.G.cls C) ∧ ∃ mc p a, ClX.CRead K (D.G.cls C) mc ∧ ClX.CMet K (D.G.cls C) mc (D.G.fld x) p a ∧ FK P w K mg base D k f a
  smeth : ∀ C x f, D.Γ.cmeth C x = some (f, false) → ∃ mc p a rest, ClX.CRead K (D.G.cls C) mc ∧ PySem.W.findCls K (.ref (D.G.cls C)) mc (D.G.fld x) = some (.get (.builtin "staticmethod.__get__") (.ref p) .none (.ref (D.G.cls C))) ∧
    PySem.W.recIn K p "staticmethod" = some (.ref a :: rest) ∧ PySem.W.keepIn K (.ref a) = true ∧ FK P w K mg base D k f a
/-- where calls may be -/
structure EY (k : Nat) (X : Cx) (D : Dat) (W : WX) : Prop extends EX X D where
  rm : Room (2 * k + 1) X.A
  tk : Takes X W
  cm : X.calm = true
  dy : Dyn X.prog X.w X.K X.mg X.base D k
theorem WP.at {α β : Type} {G : Stat} {W : WX} {τ τ' : St} {rel : List Addr → α → β → Prop} {μ : List Addr} {r : EV α} {Q : β → Hp → Prop} (w : WP G W τ rel μ r Q) : WP G (fun c d _ H => W c d τ H) τ' rel μ r Q := by
  cases r with
  | none => exact w
  | some o => cases o <;> exact w
theorem Sim.fresh {G : Stat} {μ : List Addr} {h : IH} {H : Hp} (S : Sim G μ h H) {p : Addr} {u : HO} (hp : H p = none) : Sim G μ h (upd H p u) :=
  ⟨S.len, fun a o b e1 e2 => ObjS.keep (S.obj a o b e1 e2) fun w z => .inl fun e => (by rw [e, hp] at z; cases z), S.inj, S.pre, fun b o e => (by
    have q := S.frm b o e
    rw [upd_ne (fun z => by rw [z, hp] at q; cases q)]
    exact q), S.fro⟩
section
variable {X : Cx} {D : Dat} {W : WX} {R : CurR} {e a b c o : Expr} {m ma mb mc mo : ME} {pos p apos : Pos} {t : Bool} {es rest : List Expr} {ms : MA} {k f : Nat} {g : Addr}
/-- the call of a def of the text -/
theorem callK {Fr : Hp} (E : EY k X D W) (F : FK X.prog X.w X.K X.mg X.base D k f g) {pins : List (Addr × Obj)} {τ : St} {H : Hp} {s : Shared} {us : List Value} {vs vs' : List V} {μ : List Addr} {h : IH} {Q : VK}
    (I : Inv X pins τ H s) (r : Vals vs' us) (S : Sim (D.G.wf Fr) μ h H) (rv : RVs μ vs vs') (w : WP (D.G.wf Fr) W τ RV μ (D.Γ.call f vs h) Q) : wpAny (model X.prog X.w) X.A (call (.ref g) us) (EP X pins τ Q) X.xe s := by
  obtain ⟨fd, ps, F, hb⟩ := F.ex
  exact callG F E.gd (E.rm.mono (Nat.le_succ _)) hb E.tk I r ⟨Fr, μ, h, vs, S, rv, w.at⟩
/-- an instance made -/
theorem makeK {Fr : Hp} (E : EY k X D W) {C : Nat} {pins : List (Addr × Obj)} {τ : St} {H : Hp} {s : Shared} {us : List Value} {vs vs' : List V} {μ : List Addr} {h : IH} {Q : VK}
    (I : Inv X pins τ H s) (r : Vals vs' us) (S : Sim (D.G.wf Fr) μ h H) (rv : RVs μ vs vs') (w : WP (D.G.wf Fr) W τ RV μ (makeV D.Γ C vs h) Q) : wpAny (model X.prog X.w) X.A (call (.ref (D.G.cls C)) us) (EP X pins τ Q) X.xe s := by
  unfold makeV at w
  split at w
  · rename_i f e
    obtain ⟨g, M, F⟩ := E.dy.init C f e
    obtain ⟨fd, ps, F, hb⟩ := F.ex
    refine makeG M F E.gd E.rm hb E.tk I r fun x dx hx hd ne => ?_
    have S1 := (S.fresh (u := .own x) hd).alloc (p := x) (u := .ins (D.G.cls C) dx []) (o := .ins C []) (by rw [upd_ne (Ne.symm ne)]; exact hx) ⟨dx, [], .nil, upd_same⟩
    have hl : (μ ++ [x])[h.length]? = some x := by rw [S.len, List.getElem?_append_right (Nat.le_refl _)]; simp
    refine ⟨Fr, μ ++ [x], h ++ [.ins C []], .ref h.length :: vs, S1, .cons ⟨x, hl, rfl⟩ (rv.mono len_pre), WP.at (WP.imp (WP.bnd (rel := RV) (w.mono len_pre)) fun v' H2 ⟨μ2, z, h2, p2, S2, rz, w2⟩ => ?_)⟩
    split at w2
    · cases rz
      exact ⟨rfl, w2.val S2 ⟨x, pre_get p2 hl, rfl⟩⟩
    · exact w2.elim
  · exact w.elim
theorem pt_fin (hp : PE X e (tE D W R m)) (hk : X.K = D.G.K) (ev : ∀ (Γ : Gam) (c : Option (Nat × Nat)) (σ : St) (h : IH), ∃ x : EV V, (∀ t, evE Γ c t m σ h = bnd x (fin t))) (he : ∀ whole, isTrue e X.env whole = (do let v ← whole; standAt e.pos; holding [v] (truthy v))) (nb : ∀ op vs pos, e ≠ .BoolOp op vs pos) (ns : notStar e = true) : SE X D W R e m t :=
  (se_leaf hp hk (fun c σ h => ev_fin _ ev _ c σ h) he nb ns).any
/-- f(e, ..), f a def -/
theorem se_call {x : Str} (E : EY k X D W) (hd : (x == ("__debug__" : Str)) = false) (hg : Gl X x) (hm : X.mg x = some (.ref g)) (hk : PySem.W.keepIn X.K (.ref g) = true) (F : FK X.prog X.w X.K X.mg X.base D k f g) (ha : SA X D W R (e :: es) ms) : SE X D W R (.Call (.Name x p) (e :: es) [] pos) (.call f ms) t := by
  have ns := ha.ns
  rw [List.all_cons, Bool.and_eq_true] at ns
  refine pt_fin ⟨fun pins s τ H Q I y => ?_⟩ E.K (fun Γ c σ h => ⟨_, fun t => rfl⟩) (fun _ => rfl) (by intros; intro z; cases z) rfl
  obtain ⟨Fr, μ, σ, h, cu, rs, S, hc, w⟩ := y
  simp only [evE, bnd_fin] at w
  refine wpAny_Call_Name_kw (ld_glob I hg hm ?_ hd)
  refine PySem.W.callWith_K (h₀ := X.base) I.ok.mod.kin hk (thn (ha.pa.run pos pins s τ H _ I ⟨Fr, μ, σ, h, cu, rs, S, hc, WP.bnd (rel := RVs) w⟩) fun us s1 z => ?_) (star_of ns.1) (backTo_plain ns.2)
  obtain ⟨vs', H1, I1, r, μ1, vs, h1, p1, S1, rv, w1⟩ := z
  exact ⟨I1.kIn, callK E F I1 r S1 rv w1⟩
/-- C(e, ..) -/
theorem se_make {x : Str} {C : Nat} (E : EY k X D W) (hd : (x == ("__debug__" : Str)) = false) (hg : Gl X x) (hm : X.mg x = some (.ref (D.G.cls C))) (hk : PySem.W.keepIn X.K (.ref (D.G.cls C)) = true) (ha : SA X D W R (e :: es) ms) : SE X D W R (.Call (.Name x p) (e :: es) [] pos) (.make C ms) t := by
  have ns := ha.ns
  rw [List.all_cons, Bool.and_eq_true] at ns
  refine pt_fin ⟨fun pins s τ H Q I y => ?_⟩ E.K (fun Γ c σ h => ⟨_, fun t => rfl⟩) (fun _ => rfl) (by intros; intro z; cases z) rfl
  obtain ⟨Fr, μ, σ, h, cu, rs, S, hc, w⟩ := y
  simp only [evE, bnd_fin] at w
  refine wpAny_Call_Name_kw (ld_glob I hg hm ?_ hd)
  refine PySem.W.callWith_K (h₀ := X.base) I.ok.mod.kin hk (thn (ha.pa.run pos pins s τ H _ I ⟨Fr, μ, σ, h, cu, rs, S, hc, WP.bnd (rel := RVs) w⟩) fun us s1 z => ?_) (star_of ns.1) (backTo_plain ns.2)
  obtain ⟨vs', H1, I1, r, μ1, vs, h1, p1, S1, rv, w1⟩ := z
  exact ⟨I1.kIn, makeK E I1 r S1 rv w1⟩
/-- the reading of one attribute -/
theorem RF.some {G : Stat} {μ : List Addr} {fs : List (Nat × V)} {gs : List (Str × V)} {f : Nat} {v : V} (r : RF G μ fs gs) (e : lookF f fs = some v) : f < G.M ∧ ∃ v', gs.lookup (G.fld f) = some v' ∧ RV μ v v' := by
  induction r with
  | nil => cases e
  | @cons p q fs gs h r ih =>
    obtain ⟨g, u⟩ := p
    obtain ⟨y, u'⟩ := q
    obtain ⟨h1, h2, h3⟩ := h
    unfold lookF at e
    have h2 : y = G.fld g := h2
    subst h2
    split at e
    · rename_i eq
      cases e
      subst eq
      exact ⟨h1, u', by simp [List.lookup], h3⟩
    · rename_i ne
      obtain ⟨hf, v', l, rv⟩ := ih e
      refine ⟨hf, v', ?_, rv⟩
      have : (G.fld f == G.fld g) = false := by
        rw [beq_eq_false_iff_ne]
        exact fun z => ne (G.fok _ _ hf h1 z)
      rw [List.lookup, this]
      exact l
theorem RF.none {G : Stat} {μ : List Addr} {fs : List (Nat × V)} {gs : List (Str × V)} {f : Nat} (r : RF G μ fs gs) (hf : f < G.M) (e : lookF f fs = none) : gs.lookup (G.fld f) = none := by
  induction r with
  | nil => rfl
  | @cons p q fs gs h r ih =>
    obtain ⟨g, u⟩ := p
    obtain ⟨y, u'⟩ := q
    obtain ⟨h1, h2, h3⟩ := h
    unfold lookF at e
    have h2 : y = G.fld g := h2
    subst h2
    split at e
    · cases e
    · rename_i ne
      have : (G.fld f == G.fld g) = false := by
        rw [beq_eq_false_iff_ne]
        exact fun z => ne (G.fok _ _ hf h1 z)
      rw [List.lookup, this]
      exact ih e
theorem WP.noExn {G : Stat} {τ : St} {μ : List Addr} {r : EV V} {Q : V → Hp → Prop} (w : WP G W τ RV μ (bndN r ret) Q) : WP G (fun _ _ _ _ => False) τ RV μ r Q := by
  cases r with
  | none => exact w
  | some o =>
    cases o with
    | val v h => exact w
    | exn C d h => exact (show False from w).elim
theorem Room.in0 {k : Nat} {A : Around} (r : Room (k + 1) A) : Room k A.in1 := r.in1
theorem att_ok {Fr : Hp} (E : EY k X D W) {x : Nat} {pins : List (Addr × Obj)} {τ : St} {H : Hp} {s : Shared} {u : Value} {v v' : V} {μ : List Addr} {h : IH} {Q : VK} {b : Bool}
    (I : Inv X pins τ H s) (r : RelV v' u) (S : Sim (D.G.wf Fr) μ h H) (rv : RV μ v v') (w : WP (D.G.wf Fr) W τ RV μ (attV D.Γ x v h) Q) : wpAny (model X.prog X.w) X.A (getAttr u (D.G.fld x) b) (EP X pins τ Q) X.xe s := by
  unfold attV at w
  split at w
  · rename_i q
    obtain ⟨a, ha, rfl⟩ := rv
    obtain rfl : u = Value.ref a := r
    split at w
    · rename_i C fs ho
      obtain ⟨dx, gs, rf, oa⟩ := S.obj _ _ _ ho ha
      split at w
      · rename_i y hl
        split at w
        · rename_i hF
          obtain ⟨_, c, n⟩ := E.dy.isF C x hF
          obtain ⟨_, y', l, ry⟩ := rf.some hl
          exact getattr_ok I oa c n l fun u' s2 I2 ru => ⟨y', H, I2, ru, w.val S ry⟩
        · exact w.elim
      · rename_i hl
        split at w
        · rename_i f hp
          obtain ⟨pa, g, c, po, F⟩ := E.dy.prop C x f hp
          obtain ⟨fd, ps, F, hb⟩ := F.ex
          obtain ⟨mA, O, _, _, _, _⟩ := ins_get I.hok oa
          obtain ⟨od, J, _⟩ := O.look
          obtain ⟨rest, hrec⟩ := po.rec_
          have I1 := I.tok (s.toks + 1)
          have hcl : (PySem.W.clsIn X.K (D.G.cls C)).isSome = true := by
            obtain ⟨cd, hcd, _⟩ := PySem.W.any_some c.hd
            rw [hcd]
            rfl
          have sp0 : spI D f [V.ref a] H Q (fun _ _ _ => False) := ⟨Fr, μ, h, [.ref q], S, .cons ⟨a, ha, rfl⟩ .nil, (WP.noExn w).at⟩
          have hl2 := F.len _ _ _ _ sp0
          refine PySem.W.get_bind I.kIn J (PySem.W.plainGet_of (c.get (D.G.fld x))).1 (PySem.W.findObj_data hcl po.at_ po.get po.tak) (PySem.W.plainGet_of (c.get (D.G.fld x))).2 (wpAny_call (PySem.W.prop_get (s := { s with toks := s.toks + 1 }) I.kIn hrec ?_))
          have hb1 := hb { s with toks := s.toks + 1 } [.ref a] I1.kIn (by simpa using hl2)
          rw [List.append_nil] at hb1
          refine codeAny_mono (F.run X.A.in1 X.stack { s with toks := s.toks + 1 } H ⟨[.ref a], []⟩ [.ref a] [.ref a] Q (fun _ _ _ => False) E.gd E.rm.in1 I1.env0.in1 hb1 (.cons rfl .nil) sp0) fun res s' hq => ?_
          match res, hq with
          | .error er, hq =>
            obtain ⟨_, _, _, _, _, _, _, _, _, _, _, _, z⟩ := hq
            exact z.elim
          | .ok (.ret u), hq =>
            obtain ⟨v2, H', I3, rv2, q3⟩ := I1.after hq
            show wpAny _ _ (handedOut u) _ _ _
            rw [PySem.W.handedOut_of (handed_of rv2)]
            exact wpAny_pure ⟨v2, H', I3, rv2, q3⟩
          | .ok .next, hq => exact False.elim hq
          | .ok .brk, hq => exact False.elim hq
          | .ok .cont, hq => exact False.elim hq
        · exact w.elim
    · rename_i C ho
      have hC : a = D.G.cls C := S.obj _ _ _ ho ha
      subst hC
      unfold optV at w
      split at w
      · rename_i y hy
        obtain ⟨mc, v', u, cr, cv, ry⟩ := E.dy.con C x y hy
        exact ClX.getcval_ok I cr cv fun s2 I2 => ⟨v', H, I2, cv.rel, w.val S (ry.mono S.pre)⟩
      · exact w.elim
    · exact w.elim
  · exact w.elim
/-- e.f -/
theorem se_att {x : Nat} {f : Str} (E : EY k X D W) (hf : D.G.fld x = f) (ha : SE X D W R a ma false) (hb : attributeBase a f X.env (eval a X.env) = eval a X.env) : SE X D W R (.Attribute a f pos) (.att ma x) t := by
  subst hf
  refine pt_fin ⟨fun pins s τ H Q I y => ?_⟩ E.K (fun Γ c σ h => ⟨_, fun t => rfl⟩) (fun _ => rfl) (by intros; intro z; cases z) rfl
  obtain ⟨Fr, μ, σ, h, cu, rs, S, hc, w⟩ := y
  simp only [evE, bnd_fin] at w
  refine attr_of hb (thn (ha.pe.run pins s τ H _ I ⟨Fr, μ, σ, h, cu, rs, S, hc, WP.bnd (rel := RV) w⟩) fun u s1 z => ?_)
  obtain ⟨v', H1, I1, r, μ1, v, h1, p1, S1, rv, w1⟩ := z
  exact att_ok E I1 r S1 rv w1
end
end MP
end
section
set_option Elab.async false
set_option linter.all false
set_option maxHeartbeats 400000
namespace MP
open PySem L2
section
variable {X : Cx} {D : Dat} {W : WX} {R : CurR} {e a b c o : Expr} {m ma mb mc mo : ME} {pos p apos : Pos} {t : Bool} {es rest : List Expr} {ms : MA} {k f : Nat} {g : Addr}
/-- C.m(e, ..): a classmethod, a staticmethod -/
theorem se_clm {x : Str} {C n : Nat} {mname : Str} {pl : Sem Bool} (E : EY k X D W) (hd : (x == ("__debug__" : Str)) = false) (hg : Gl X x) (hm : X.mg x = some (.ref (D.G.cls C))) (hn : D.G.fld n = mname) (ha : SA X D W R (e :: es) ms)
    (ht : eval (.Call (.Attribute (.Name x p) mname apos) (e :: es) [] pos) X.env = (do
      let ov ← eval (.Name x p) X.env
      standAt apos.atName
      let (q, first) ← holding [ov] (getMethod ov mname pl)
      callWith pos q first (backTo pos (starEach (e :: es) X.env)) (backToKw pos (keywordEach [] X.env)))) :
    SE X D W R (.Call (.Attribute (.Name x p) mname apos) (e :: es) [] pos) (.clm C n ms) t := by
  subst hn
  have ns := ha.ns
  rw [List.all_cons, Bool.and_eq_true] at ns
  refine pt_fin ⟨fun pins s τ H Q I y => ?_⟩ E.K (fun Γ c σ h => ⟨_, fun t => rfl⟩) (fun _ => rfl) (by intros; intro z; cases z) rfl
  obtain ⟨Fr, μ, σ, h, cu, rs, S, hc, w⟩ := y
  simp only [evE, bnd_fin] at w
  refine PySem.W.methodCall_KW (pl := pl) (ld_glob I hg hm ?_ hd) ht
  split at w
  · rename_i f c e1 e2
    obtain ⟨hpre, mc, pp, ga, cr, cm, F⟩ := E.dy.cmeth C n f c e1 e2
    obtain ⟨fd, ps, F, hb⟩ := F.ex
    refine ClX.getmethcm_ok I cr cm fun s2 I2 => ?_
    refine ClX.callwith_cm I2 (ClX.base_none I (Nat.le_refl _)) cm.fi (thn (ha.pa.run pos _ s2 τ H _ I2 ⟨Fr, μ, σ, h, cu, rs, S, hc, WP.bnd (rel := RVs) w⟩) fun us s3 z => ?_) (star_of ns.1) (backTo_plain ns.2)
    obtain ⟨vs', H1, I3, r, μ1, vs, h1, p1, S1, rv, w1⟩ := z
    refine ⟨⟨ClX.pin_at I3, I3.kIn⟩, ?_⟩
    have z : wpAny (model X.prog X.w) X.A (call (.ref s.heap.objs.size) us) (EP X ((s.heap.objs.size, PySem.W.methodObj (.ref ga) (.ref (D.G.cls C))) :: pins) τ Q) X.xe s3 := by
      have hs : spI D f (V.ref (D.G.cls C) :: vs') H1 Q (fun c d H' => W c d τ H') := ⟨Fr, μ1, h1, V.ref c :: vs, S1, .cons ⟨_, pre_get (S1.pre) hpre, rfl⟩ rv, w1.at⟩
      have cg := codeG F E.gd (E.rm.mono (Nat.le_succ _)) hb E.tk I3 (us := .ref (D.G.cls C) :: us) (vs := V.ref (D.G.cls C) :: vs') (.cons rfl r) hs
      refine wpAny_call (PySem.W.method_call (ClX.pin_at I3) ?_)
      exact cg
    exact thn z fun _ _ y => ClX.unpinE y
  · rename_i f e1
    obtain ⟨mc, pp, ga, rest, cr, cv, hr, hk, F⟩ := E.dy.smeth C n f e1
    refine PySem.W.method_cls I.kIn cr.ga (PySem.W.cls_bind I.kIn cr.rd cv (wpAny_call (PySem.W.sm_get (s := { s with toks := s.toks + 1 }) I.kIn hr (PySem.W.handed_on rfl ?_))))
    refine PySem.W.callWith_K (h₀ := X.base) I.ok.mod.kin hk (thn (ha.pa.run pos pins _ τ H _ (I.tok (s.toks + 1)) ⟨Fr, μ, σ, h, cu, rs, S, hc, WP.bnd (rel := RVs) w⟩) fun us s1 z => ?_) (star_of ns.1) (backTo_plain ns.2)
    obtain ⟨vs', H1, I1, r, μ1, vs, h1, p1, S1, rv, w1⟩ := z
    exact ⟨I1.kIn, callK E F I1 r S1 rv w1⟩
  · exact w.elim
/-- x(e, ..), x a local: a class, an instance -/
theorem se_callv {x : Str} {i : Nat} (E : EY k X D W) (hN : X.N[i]? = some x) (hv : Vis X.env.scope x) (ok : okName x = true) (hk : ∀ C f, D.Γ.init C = some f → PySem.W.keepIn X.K (.ref (D.G.cls C)) = true) (ha : SA X D W R (e :: es) ms) :
    SE X D W R (.Call (.Name x p) (e :: es) [] pos) (.callv i ms) t := by
  obtain ⟨o1, o2, _⟩ := okName_ok ok
  have ns := ha.ns
  rw [List.all_cons, Bool.and_eq_true] at ns
  refine pt_fin ⟨fun pins s τ H Q I y => ?_⟩ E.K (fun Γ c σ h => ⟨_, fun t => rfl⟩) (fun _ => rfl) (by intros; intro z; cases z) rfl
  obtain ⟨Fr, μ, σ, h, cu, rs, S, hc, w⟩ := y
  simp only [evE, bnd_fin] at w
  unfold slotV at w
  split at w
  · rename_i v hv0
    obtain ⟨v', ev', rv⟩ := RS.get rs hv0
    simp only [bnd] at w
    split at w
    · rename_i ca e1
      refine wpAny_Call_Name_kw (thn ((pe_var hN hv o1 o2).run pins s τ H (fun y H' => y = v' ∧ H' = H) I ⟨v', ev', rfl, rfl⟩) fun u s0 z => ?_)
      obtain ⟨y, H0, I0, ry, rfl, rfl⟩ := z
      unfold calV at e1
      split at e1
      · rename_i q
        obtain ⟨ad, had, rfl⟩ := rv
        obtain rfl : u = Value.ref ad := ry
        split at e1
        · rename_i C ho
          split at e1
          · rename_i hi
            cases e1
            have hC : ad = D.G.cls C := S.obj _ _ _ ho had
            subst hC
            obtain ⟨f, ei⟩ := Option.isSome_iff_exists.mp hi
            refine PySem.W.callWith_K (h₀ := X.base) I.ok.mod.kin (hk C f ei) (thn (ha.pa.run pos pins s0 τ _ _ I0 ⟨Fr, μ, σ, h, cu, rs, S, hc, WP.bnd (rel := RVs) w⟩) fun us s1 z => ?_) (star_of ns.1) (backTo_plain ns.2)
            obtain ⟨vs', H1, I1, r, μ1, vs, h1, p1, S1, rv, w1⟩ := z
            exact ⟨I1.kIn, makeK E I1 r S1 rv w1⟩
          · cases e1
        · rename_i C0 fs0 ho
          cases e1
          refine StX.callO_with (thn (ha.pa.run pos pins s0 τ _ _ I0 ⟨Fr, μ, σ, h, cu, rs, S, hc, WP.bnd (rel := RVs) w⟩) fun us s1 z => ?_) (star_of ns.1) (backTo_plain ns.2)
          obtain ⟨vs', H1, I1, r, μ1, vs, h1, p1, S1, rvs, w1⟩ := z
          simp only [runCal] at w1
          split at w1
          · rename_i C fs hq
            split at w1
            · rename_i f ec
              obtain ⟨ga, cl, co, F⟩ := E.dy.callm C f ec
              obtain ⟨fd, ps, F, hb⟩ := F.ex
              have hq1 : μ1[q]? = some ad := pre_get p1 had
              obtain ⟨dx, gs, rf, oa⟩ := S1.obj _ _ _ hq hq1
              obtain ⟨ox, od, J, hd⟩ := StX.insC_at I1 (C := D.G.cls C) (a := ad) (.inr ⟨dx, gs, oa⟩)
              refine ⟨⟨_, ox, od, J, hd⟩, ?_⟩
              have hs : spI D f (V.ref ad :: vs') H1 Q (fun c d H' => W c d τ H') := ⟨Fr, μ1, h1, V.ref q :: vs, S1, .cons ⟨_, hq1, rfl⟩ rvs, w1.at⟩
              have cg := codeG F E.gd (E.rm.mono (Nat.le_succ _)) hb E.tk I1 (us := .ref ad :: us) (vs := V.ref ad :: vs') (.cons rfl r) hs
              exact wpAny_call (PySem.W.kco_code I1.kIn J hd co.at_ co.fn co.fi cg)
            · exact w1.elim
          · exact w1.elim
        · cases e1
      · cases e1
    · exact w.elim
  · exact w.elim
end
end MP
end
section
set_option Elab.async false
set_option linter.all false
set_option maxHeartbeats 400000
namespace MP
open PySem L2
/-! ### targets -/
mutual
def slT : MT → List Nat
  | .nm i => [i]
  | .tup ts => slTs ts
def slTs : MTs → List Nat
  | .nil => []
  | .cons t r => slT t ++ slTs r
end
theorem RS.set {μ : List Addr} {σ τ : St} {v v' : V} (r : RS μ σ τ) (i : Nat) (rv : RV μ v v') : RS μ (σ.set i (some v)) (τ.set i (some v')) := Paired.setP (show RO μ (some v) (some v') from rv) i r
/-- nothing but these slots is other -/
def But (js : List Nat) (τ τ' : St) : Prop := τ'.length = τ.length ∧ ∀ j, j ∉ js → τ'[j]? = τ[j]?
theorem But.refl {js : List Nat} {τ : St} : But js τ τ := ⟨rfl, fun _ _ => rfl⟩
theorem But.trans {js ks : List Nat} {τ τ' τ2 : St} (a : But js τ τ') (b : But ks τ' τ2) : But (js ++ ks) τ τ2 :=
  ⟨b.1.trans a.1, fun j hj => (b.2 j fun z => hj (List.mem_append_right _ z)).trans (a.2 j fun z => hj (List.mem_append_left _ z))⟩
theorem But.set {τ : St} {i : Nat} {o : Option V} : But [i] τ (τ.set i o) := ⟨List.length_set, fun j hj => List.getElem?_set_ne fun z => hj (by simp [z])⟩
theorem wipe_get {σ : St} {vs : List Nat} {j : Nat} : (wipe σ vs)[j]? = if j ∈ vs then (if j < σ.length then some none else none) else σ[j]? := by
  induction vs with
  | nil => simp [wipe]
  | cons v vs ih =>
    unfold wipe
    by_cases h : v = j
    · subst h
      rw [if_pos (by simp)]
      by_cases hl : v < σ.length
      · rw [List.getElem?_set_self (by rw [wipe_length]; exact hl), if_pos hl]
      · rw [if_neg hl]
        exact List.getElem?_eq_none (by rw [List.length_set, wipe_length]; omega)
    · rw [List.getElem?_set_ne h, ih]
      by_cases hm : j ∈ vs
      · rw [if_pos hm, if_pos (List.mem_cons_of_mem _ hm)]
      · rw [if_neg hm, if_neg (by simp [hm, Ne.symm h])]
theorem But.wipe {js vs : List Nat} {τ τ' : St} (a : But js τ τ') (h : ∀ j ∈ js, j ∈ vs) : L2.wipe τ' vs = L2.wipe τ vs := by
  apply List.ext_getElem?
  intro j
  rw [wipe_get, wipe_get, a.1]
  by_cases hj : j ∈ vs
  · rw [if_pos hj, if_pos hj]
  · rw [if_neg hj, if_neg hj]
    exact a.2 j fun z => hj (h j z)
theorem RS.wipe {μ : List Addr} {σ τ : St} (r : RS μ σ τ) : ∀ vs : List Nat, RS μ (L2.wipe σ vs) (L2.wipe τ vs)
  | [] => r
  | v :: vs => Paired.setP (show RO μ none none from trivial) v (RS.wipe r vs)
/-- what an iterator hands on -/
def YR (μ : List Addr) (H : Hp) : V × Option V → V → Prop
  | (v, none), x => RV μ v x
  | (v, some w), x => ∃ T v' w', x = .ref T ∧ H T = some (.tup [v', w']) ∧ RV μ v v' ∧ RV μ w w'
def lnTs : MTs → Nat
  | .nil => 0
  | .cons _ r => lnTs r + 1
theorem asgTs_len : ∀ {ms : MTs} {vs : List V} {σ σ' : St} {h : IH}, asgTs ms vs σ h = some σ' → vs.length = lnTs ms
  | .nil, [], _, _, _, _ => rfl
  | .nil, _ :: _, _, _, _, e => by simp only [asgTs] at e; cases e
  | .cons _ _, [], _, _, _, e => by simp only [asgTs] at e; cases e
  | .cons t r, v :: vs, σ, σ', h, e => by
    simp only [asgTs] at e
    split at e
    · show vs.length + 1 = lnTs r + 1
      rw [asgTs_len e]
    · cases e
structure SG (X : Cx) (D : Dat) (e : Expr) (m : MT) (g : TG) : Prop where
  pg : PG X e g
  rd : ∀ {F : Hp} {μ : List Addr} {σ σ' τ : St} {h : IH} {H : Hp} {v v' : V} {Q : St → Hp → Prop}, RS μ σ τ → Sim (D.G.wf F) μ h H → RV μ v v' → asgT m v σ h = some σ' → (∀ τ', RS μ σ' τ' → But (slT m) τ τ' → Q τ' H) → g v' τ H Q
  rx : ∀ {F : Hp} {μ : List Addr} {σ σ' τ : St} {h : IH} {H : Hp} {v : V × Option V} {v' : V} {Q : St → Hp → Prop}, RS μ σ τ → Sim (D.G.wf F) μ h H → YR μ H v v' → asgX m v σ h = some σ' → (∀ τ', RS μ σ' τ' → But (slT m) τ τ' → Q τ' H) → g v' τ H Q
structure SGs (X : Cx) (D : Dat) (es : List Expr) (m : MTs) (g : TGs) : Prop where
  pg : PGs X es g
  rd : ∀ {F : Hp} {μ : List Addr} {σ σ' τ : St} {h : IH} {H : Hp} {vs vs' : List V} {Q : St → Hp → Prop}, RS μ σ τ → Sim (D.G.wf F) μ h H → RVs μ vs vs' → asgTs m vs σ h = some σ' → (∀ τ', RS μ σ' τ' → But (slTs m) τ τ' → Q τ' H) → g vs' τ H Q
  ln : lnTs m = es.length
section
variable {X : Cx} {D : Dat} {e : Expr} {es : List Expr} {pos : Pos}
theorem sg_nm {i : Nat} {x : Str} (hN : X.N.Nodup) (hi : X.N[i]? = some x) (hx : Loc X.env.scope x) (hf : X.fn x = true ∨ X.env.scope.names.lookup x = some .local) : SG X D (.Name x pos) (.nm i) (gName i) :=
  have rd : ∀ {F : Hp} {μ : List Addr} {σ σ' τ : St} {h : IH} {H : Hp} {v v' : V} {Q : St → Hp → Prop}, RS μ σ τ → Sim (D.G.wf F) μ h H → RV μ v v' → asgT (.nm i) v σ h = some σ' → (∀ τ', RS μ σ' τ' → But (slT (.nm i)) τ τ' → Q τ' H) → gName i v' τ H Q := fun rs S rv e k => by
    simp only [asgT] at e
    cases e
    exact k _ (rs.set i rv) (by simp only [slT]; exact But.set)
  ⟨pg_name hN hi hx hf, rd, fun {F μ σ σ' τ h H v v' Q} rs S rv e k => by
    obtain ⟨v, o⟩ := v
    cases o with
    | none => exact rd rs S rv (by simpa only [asgX] using e) k
    | some w => simp only [asgX] at e; cases e⟩
theorem sgs_nil : SGs X D [] .nil gNil := ⟨pgs_nil, fun {F μ σ σ' τ h H vs vs' Q} rs S rv e k => (by
  cases rv with
  | nil =>
    simp only [asgTs] at e
    cases e
    exact ⟨rfl, k _ rs But.refl⟩
  | cons _ _ => simp only [asgTs] at e; cases e), rfl⟩
theorem sgs_cons {m : MT} {ms : MTs} {g : TG} {gs : TGs} (h1 : SG X D e m g) (h2 : SGs X D es ms gs) (hs : (assignEach (e :: es) X.env).map (·.2) = assign e X.env :: (assignEach es X.env).map (·.2)) : SGs X D (e :: es) (.cons m ms) (gCons g gs) := ⟨pgs_cons h1.pg h2.pg hs, fun {F μ σ σ' τ h H vs vs' Q} rs S rv e k => (by
  cases rv with
  | nil => simp only [asgTs] at e; cases e
  | @cons v v' vs vs' r rr =>
    simp only [asgTs] at e
    split at e
    · rename_i σ1 e1
      exact ⟨v', vs', rfl, h1.rd rs S r e1 fun τ1 rs1 b1 => h2.rd rs1 S rr e fun τ2 rs2 b2 => k τ2 rs2 (by simp only [slTs]; exact b1.trans b2)⟩
    · cases e), by show lnTs ms + 1 = es.length + 1; rw [h2.ln]⟩
theorem sg_tup {ms : MTs} {gs : TGs} {k : Nat} (hK : X.K = D.G.K) (hc : X.calm = true) (h : SGs X D es ms gs) (hn : (assignEach es X.env).length = es.length) (hst : (assignEach es X.env).findIdx? (·.1) = none) : SG X D (.Tuple es k pos) (.tup ms) (gTup X.K es.length gs) :=
  have go : ∀ {F : Hp} {μ : List Addr} {σ σ' τ : St} {hh : IH} {H : Hp} {b : Addr} {vs vs' : List V} {Q : St → Hp → Prop}, RS μ σ τ → Sim (D.G.wf F) μ hh H → RVs μ vs vs' → SqT X.K H b vs' → asgTs ms vs σ hh = some σ' → (∀ τ', RS μ σ' τ' → But (slTs ms) τ τ' → Q τ' H) → gTup X.K es.length gs (.ref b) τ H Q := fun rs S rv sq e k =>
    ⟨_, _, rfl, sq, by rw [← rv.length, asgTs_len e, h.ln], h.rd rs S rv e k⟩
  have rd : ∀ {F : Hp} {μ : List Addr} {σ σ' τ : St} {hh : IH} {H : Hp} {v v' : V} {Q : St → Hp → Prop}, RS μ σ τ → Sim (D.G.wf F) μ hh H → RV μ v v' → asgT (.tup ms) v σ hh = some σ' → (∀ τ', RS μ σ' τ' → But (slT (.tup ms)) τ τ' → Q τ' H) → gTup X.K es.length gs v' τ H Q := fun rs S rv e k => by
    simp only [asgT] at e
    split at e
    · rename_i a
      obtain ⟨b, hb, rfl⟩ := rv
      split at e
      · rename_i xs kk ho
        obtain ⟨ys, r1, sq⟩ := S.tupR ho hb
        refine go rs S r1 (by rw [hK]; exact sq) e fun τ' r' b' => k τ' r' (by simpa only [slT] using b')
      · cases e
    · cases e
  ⟨pg_tup hc h.pg hn hst, rd, fun {F μ σ σ' τ hh H v v' Q} rs S rv e k => by
    obtain ⟨v, o⟩ := v
    cases o with
    | none => exact rd rs S rv (by simpa only [asgX] using e) k
    | some w =>
      obtain ⟨T, a1, a2, rfl, hT, r1, r2⟩ := rv
      have e2 : asgTs ms [v, w] σ hh = some σ' := by
        unfold asgX at e
        split at e
        · rename_i t v2 σ2 h2 heq1 heq2
          cases heq2
        · rename_i t u v2 w2 σ2 h2 heq1 heq2
          cases heq1
          cases heq2
          simp only [asgTs]
          split at e
          · rename_i σ1 e1
            simp only [e1, e]
          · cases e
        · cases e
      exact go rs S (.cons r1 (.cons r2 .nil)) (.inl (.inl hT)) e2 fun τ' r' b' => k τ' r' (by simpa only [slT] using b')⟩
end
end MP
end
section
set_option Elab.async false
set_option linter.all false
set_option maxHeartbeats 400000
namespace MP
open PySem L2
/-! ### iterations -/
def JOk (D : Dat) (μ0 : List Addr) (is : Its) (J : It) : Prop := ∀ (F : Hp) (μ : List Addr) (h : IH) (H : Hp), μ0 <+: μ → Sim (D.G.wf F) μ h H → okG h is.gd = true →
  J.stop is.xs.length H ∧ (∀ i, i < is.xs.length → J.go i H) ∧ ∀ i x' H', i < is.xs.length → J.yld i H x' H' → Sim (D.G.wf F) μ h H' ∧ (∃ x, is.xs[i]? = some x ∧ YR μ H' x x') ∧ ∀ b o, H b = some o → H' b = some o
def tI (D : Dat) (W : WX) (R : CurR) (m : MI) : TI := fun τ H R' => ∃ F μ σ h c, RS μ σ τ ∧ Sim (D.G.wf F) μ h H ∧ CurOk D.G μ τ R c ∧ WP (D.G.wf F) W τ (JOk D) μ (evI D.Γ c m σ h) R'
theorem _root_.L2.PI.imp {X : Cx} {tg e : Expr} {t t' : TI} (a : PI X tg e t) (f : ∀ σ H R, t' σ H R → t σ H R) : PI X tg e t' := ⟨fun pins s σ H R I z => a.run pins s σ H R I (f σ H R z)⟩
theorem _root_.L2.PI.some {X : Cx} {tg e : Expr} {t' : TI} (a : ∀ σ H R, t' σ H R → ∃ t, PI X tg e t ∧ t σ H R) : PI X tg e t' := ⟨fun pins s σ H R I z => let ⟨_, p, q⟩ := a σ H R z; p.run pins s σ H R I q⟩
theorem okG1 {h : IH} {a : Nat} {o : IO} (e : okG h [(a, o)] = true) : h[a]? = some o := by
  simpa [okG] using e
theorem okG2 {h : IH} {a b : Nat} {o u : IO} (e : okG h [(a, o), (b, u)] = true) : h[a]? = some o ∧ h[b]? = some u := by
  simpa [okG] using e
theorem len_get {α β : Type} {F : α → β → Prop} {xs : List α} {ys : List β} (r : Paired F xs ys) {i : Nat} (hi : i < xs.length) : ∃ x y, xs[i]? = some x ∧ ys[i]? = some y ∧ F x y := by
  obtain ⟨y, h1, h2⟩ := Paired.getP (i := i) (x := xs[i]) r (List.getElem?_eq_getElem hi)
  exact ⟨_, y, List.getElem?_eq_getElem hi, h1, h2⟩
theorem jok_list {D : Dat} {μ0 : List Addr} {a : Nat} {b : Addr} {xs : List V} {o : IO} (hb : μ0[a]? = some b) (ho : o = .lst xs ∨ o = .flst xs) : JOk D μ0 ⟨xs.map (·, none), [(a, o)]⟩ (Itl D.G.K b) := by
  intro F μ h H p S g
  have e := okG1 g
  obtain ⟨ys, r, sq⟩ := S.lstR (a := a) (b := b) (xs := xs) (ho.imp (fun z => by rw [e, z]) fun z => by rw [e, z]) (pre_get p hb)
  refine ⟨⟨ys, sq, by simp [Paired.length r]⟩, fun i hi => ?_, fun i x' H' hi y => ?_⟩
  · obtain ⟨x, y, h1, h2, h3⟩ := len_get r (i := i) (by simpa using hi)
    exact ⟨ys, y, sq, h2⟩
  · obtain ⟨rfl, y⟩ := y
    obtain ⟨x, y', h1, h2, h3⟩ := len_get r (i := i) (by simpa using hi)
    have e2 := y ys sq
    rw [h2] at e2
    cases e2
    exact ⟨S, ⟨(x, none), by simp [h1], h3⟩, fun _ _ z => z⟩
theorem jok_tup {D : Dat} {μ0 : List Addr} {a : Nat} {b : Addr} {xs : List V} {k : Bool} (hb : μ0[a]? = some b) : JOk D μ0 ⟨xs.map (·, none), [(a, .tup xs k)]⟩ (Itt D.G.K b) := by
  intro F μ h H p S g
  have e := okG1 g
  obtain ⟨ys, r, sq⟩ := S.tupR (a := a) (b := b) e (pre_get p hb)
  refine ⟨⟨ys, sq, by simp [Paired.length r]⟩, fun i hi => ?_, fun i x' H' hi y => ?_⟩
  · obtain ⟨x, y, h1, h2, h3⟩ := len_get r (i := i) (by simpa using hi)
    exact ⟨ys, y, sq, h2⟩
  · obtain ⟨rfl, y⟩ := y
    obtain ⟨x, y', h1, h2, h3⟩ := len_get r (i := i) (by simpa using hi)
    have e2 := y ys sq
    rw [h2] at e2
    cases e2
    exact ⟨S, ⟨(x, none), by simp [h1], h3⟩, fun _ _ z => z⟩
theorem jok_str {D : Dat} {μ0 : List Addr} {s : Str} : JOk D μ0 ⟨s.cps.toList.map fun c => (V.str ⟨#[c]⟩, none), []⟩ (L2.Its s) := by
  intro F μ h H p S g
  refine ⟨by show s.cps.size ≤ _; simp, fun i hi => by show i < s.cps.size; simpa using hi, fun i x' H' hi y => ?_⟩
  obtain ⟨rfl, c, h1, rfl⟩ := y
  refine ⟨S, ⟨(V.str ⟨#[c]⟩, none), ?_, rfl⟩, fun _ _ z => z⟩
  simp [h1]
theorem jok_rng {D : Dat} {μ0 : List Addr} {lo : Int} {n : Nat} : JOk D μ0 ⟨rngOf lo n, []⟩ (Itr lo n) := by
  intro F μ h H p S g
  refine ⟨by show n ≤ _; simp [rngOf], fun i hi => by show i < n; simpa [rngOf] using hi, fun i x' H' hi y => ?_⟩
  obtain ⟨rfl, rfl⟩ := y
  refine ⟨S, ⟨(.int (lo + (i : Int)), none), ?_, rfl⟩, fun _ _ z => z⟩
  have hi : i < n := by simpa [rngOf] using hi
  simp [rngOf, hi]
theorem enum_get {xs : List V} : ∀ {n i : Nat} {x : V}, xs[i]? = some x → (enumOf n xs)[i]? = some (.int ((n + i : Nat) : Int), some x) := by
  induction xs with
  | nil => intro n i x e; simp at e
  | cons a r ih =>
    intro n i x e
    cases i with
    | zero => simp at e; subst e; simp [enumOf]
    | succ i =>
      have := ih (n := n + 1) (i := i) (x := x) (by simpa using e)
      simp only [enumOf, List.getElem?_cons_succ, this]
      congr 3
      omega
theorem enum_len {xs : List V} : ∀ {n : Nat}, (enumOf n xs).length = xs.length := by
  induction xs with
  | nil => intro n; rfl
  | cons a r ih => intro n; simp [enumOf, ih]
theorem jok_enum {D : Dat} {μ0 : List Addr} {a : Nat} {b : Addr} {xs : List V} {o : IO} (hb : μ0[a]? = some b) (ho : o = .lst xs ∨ o = .flst xs) : JOk D μ0 ⟨enumOf 0 xs, [(a, o)]⟩ (Ite D.G.K b) := by
  intro F μ h H p S g
  have e := okG1 g
  obtain ⟨ys, r, sq⟩ := S.lstR (a := a) (b := b) (xs := xs) (ho.imp (fun z => by rw [e, z]) fun z => by rw [e, z]) (pre_get p hb)
  refine ⟨⟨ys, sq, by simp [Paired.length r, enum_len]⟩, fun i hi => ?_, fun i x' H' hi y => ?_⟩
  · obtain ⟨x, y, h1, h2, h3⟩ := len_get r (i := i) (by simpa [enum_len] using hi)
    exact ⟨ys, y, sq, h2⟩
  · obtain ⟨T, y', rfl, hT, rfl, y⟩ := y
    obtain ⟨x, y2, h1, h2, h3⟩ := len_get r (i := i) (by simpa [enum_len] using hi)
    have e2 := y ys sq
    rw [h2] at e2
    cases e2
    refine ⟨S.fresh hT, ⟨_, enum_get h1, T, _, _, rfl, upd_same, by simp [RV], h3⟩, fun c o z => ?_⟩
    rw [upd_ne (fun w => by rw [w, hT] at z; cases z)]
    exact z
section
variable {X : Cx} {D : Dat} {W : WX} {R : CurR} {e a b tg : Expr} {m ma mb : ME} {pos p : Pos}
theorem si_ev (hk : X.K = D.G.K) (ha : SE X D W R e m false) : PI X tg e (tI D W R (.ev m)) := PI.some fun τ H R' ⟨F, μ, σ, h, c, rs, S, hc, w⟩ => by
  simp only [evI] at w
  cases er : evE D.Γ c false m σ h with
  | none => rw [er] at w; exact w.elim
  | some o =>
    cases o with
    | exn C d h1 =>
      rw [er] at w
      refine ⟨_, pi_list ha.pe, ?_⟩
      show tE D W R m τ H _
      exact ⟨F, μ, σ, h, c, rs, S, hc, by rw [er]; exact w⟩
    | val v h1 =>
      rw [er] at w
      have w : WP (D.G.wf F) W τ (JOk D) μ (evV v h1) R' := w
      unfold evV itsOf at w
      split at w
      · rename_i is e1
        split at e1
        · rename_i s
          cases e1
          refine ⟨_, pi_str ha.pe, ?_⟩
          show tE D W R m τ H _
          refine ⟨F, μ, σ, h, c, rs, S, hc, ?_⟩
          rw [er]
          intro μ' H' v' p S' rv
          cases rv
          exact ⟨s, rfl, w μ' H' _ p S' jok_str⟩
        · rename_i q
          split at e1
          · rename_i xs ho
            cases e1
            refine ⟨_, pi_list ha.pe, ?_⟩
            show tE D W R m τ H _
            refine ⟨F, μ, σ, h, c, rs, S, hc, ?_⟩
            rw [er]
            intro μ' H' v' p S' rv
            obtain ⟨b, hb, rfl⟩ := rv
            obtain ⟨ys, r, sq⟩ := S'.lstR (.inl ho) hb
            rw [hk]
            exact ⟨b, rfl, ⟨ys, sq⟩, w μ' H' _ p S' (jok_list hb (.inl rfl))⟩
          · rename_i xs ho
            cases e1
            refine ⟨_, pi_list ha.pe, ?_⟩
            show tE D W R m τ H _
            refine ⟨F, μ, σ, h, c, rs, S, hc, ?_⟩
            rw [er]
            intro μ' H' v' p S' rv
            obtain ⟨b, hb, rfl⟩ := rv
            obtain ⟨ys, r, sq⟩ := S'.lstR (.inr ho) hb
            rw [hk]
            exact ⟨b, rfl, ⟨ys, sq⟩, w μ' H' _ p S' (jok_list hb (.inr rfl))⟩
          · rename_i xs kk ho
            cases e1
            refine ⟨_, pi_tup ha.pe, ?_⟩
            show tE D W R m τ H _
            refine ⟨F, μ, σ, h, c, rs, S, hc, ?_⟩
            rw [er]
            intro μ' H' v' p S' rv
            obtain ⟨b, hb, rfl⟩ := rv
            obtain ⟨ys, r, sq⟩ := S'.tupR ho hb
            rw [hk]
            exact ⟨b, rfl, ⟨ys, sq⟩, w μ' H' _ p S' (jok_tup hb)⟩
          · cases e1
        · cases e1
      · exact w.elim
theorem si_rng1 {x : Str} (hx : x = "range") (hg : Gl X x) (hm : X.mg x = none) (ha : SE X D W R a ma false) : PI X tg (.Call (.Name x p) [a] [] pos) (tI D W R (.rng1 ma)) := by
  subst hx
  refine (pi_range1 hg hm (pa_cons ha.pe pa_nil (star_of ha.ns)) (by rw [star_of ha.ns]; rfl)).imp fun τ H R' ⟨F, μ, σ, h, c, rs, S, hc, w⟩ => ?_
  simp only [evI] at w
  refine ⟨F, μ, σ, h, c, rs, S, hc, WP.imp (WP.bnd (rel := RV) w) fun x' H1 ⟨μ1, x, h1, p1, S1, rx, w1⟩ => ?_⟩
  unfold rng1V at w1
  split at w1
  · rename_i j
    cases rx
    split at w1
    · rename_i hj
      exact ⟨j, rfl, hj.1, hj.2, WP.val w1 S1 jok_rng⟩
    · exact w1.elim
  · exact w1.elim
theorem si_rng2 {x : Str} (hx : x = "range") (hg : Gl X x) (hm : X.mg x = none) (ha : SE X D W R a ma false) (hb : SE X D W R b mb false) : PI X tg (.Call (.Name x p) [a, b] [] pos) (tI D W R (.rng2 ma mb)) := by
  subst hx
  refine (pi_range2 hg hm (pa_cons ha.pe (pa_cons hb.pe pa_nil (star_of hb.ns)) (star_of ha.ns)) (by rw [star_of ha.ns, star_of hb.ns]; rfl) (by rw [star_of hb.ns]; rfl)).imp fun τ H R' ⟨F, μ, σ, h, c, rs, S, hc, w⟩ => ?_
  simp only [evI] at w
  refine ⟨F, μ, σ, h, c, rs, S, hc, WP.imp (WP.bnd (rel := RV) w) fun x' H1 ⟨μ1, x, h1, p1, S1, rx, w1⟩ => ?_⟩
  refine ⟨F, μ1, σ, h1, c, rs.mono p1, S1, hc.mono p1, WP.imp (WP.bnd (rel := RV) w1) fun y' H2 ⟨μ2, y, h2, p2, S2, ry, w2⟩ => ?_⟩
  unfold rng2V at w2
  split at w2
  · cases rx
    cases ry
    split at w2
    · rename_i hj
      exact ⟨_, _, rfl, ⟨hj.1.1, hj.1.2, hj.2.1, hj.2.2⟩, WP.val w2 S2 jok_rng⟩
    · exact w2.elim
  · exact w2.elim
theorem si_enum {x : Str} {elts : List Expr} {kk : Nat} {tpos : Pos} (hk : X.K = D.G.K) (hx : x = "enumerate") (hg : Gl X x) (hm : X.mg x = none) (ha : SE X D W R a ma false) : PI X (.Tuple elts kk tpos) (.Call (.Name x p) [a] [] pos) (tI D W R (.enum ma)) := by
  subst hx
  refine (pi_enum hg hm (pa_cons ha.pe pa_nil (star_of ha.ns)) (by rw [star_of ha.ns]; rfl)).imp fun τ H R' ⟨F, μ, σ, h, c, rs, S, hc, w⟩ => ?_
  simp only [evI] at w
  refine ⟨F, μ, σ, h, c, rs, S, hc, WP.imp (WP.bnd (rel := RV) w) fun x' H1 ⟨μ1, x, h1, p1, S1, rx, w1⟩ => ?_⟩
  unfold enumV at w1
  split at w1
  · rename_i q
    obtain ⟨b, hb, rfl⟩ := rx
    split at w1
    · rename_i xs ho
      obtain ⟨ys, r, sq⟩ := S1.lstR (.inl ho) hb
      rw [hk]
      exact ⟨b, ys, rfl, sq, WP.val w1 S1 (jok_enum hb (.inl rfl))⟩
    · rename_i xs ho
      obtain ⟨ys, r, sq⟩ := S1.lstR (.inr ho) hb
      rw [hk]
      exact ⟨b, ys, rfl, sq, WP.val w1 S1 (jok_enum hb (.inr rfl))⟩
    · exact w1.elim
  · exact w1.elim
end
end MP
end
section
set_option Elab.async false
set_option linter.all false
set_option maxHeartbeats 400000
namespace MP
open PySem L2
abbrev WF : WX := fun _ _ _ _ => False
theorem WP.triv {α β : Type} {G : Stat} {W : WX} {τ : St} {rel : List Addr → α → β → Prop} {μ : List Addr} {v : α} {h : IH} {Q : β → Hp → Prop} (k : ∀ μ' H' v', μ <+: μ' → Sim G μ' h H' → rel μ' v v' → Q v' H') : WP G W τ rel μ (some (.val v h)) Q := k
theorem ObjS.keepL {G : Stat} {μ : List Addr} {H : Hp} {b : Addr} {u : HO} {xs : List V} (hb : H b = some (.lst xs)) : ∀ {o : IO}, ObjS G μ H b o → mutb o = false → ObjS G μ (upd H b u) b o
  | .lst _, _, m => by cases m
  | .dic _, _, m => by cases m
  | .ins _ _, _, m => by cases m
  | .flst _, ⟨ys, r, e⟩, _ => ⟨ys, r, .inr (e.elim (fun ⟨o, z⟩ => by rw [hb] at z; cases z) id)⟩
  | .tup _ _, ⟨ys, r, e⟩, _ => ⟨ys, r, .inr (e.elim (fun ⟨z, _⟩ => by
      rcases z with z | ⟨o, z⟩
      · rw [hb] at z; cases z
      · rw [hb] at z; cases z) id)⟩
  | .xd _ _, ⟨_, v', r, e⟩, _ => by rw [hb] at e; cases e
  | .cls _, e, _ => e
/-- a held list is written -/
theorem Sim.held {G : Stat} {F : Hp} {μ : List Addr} {h : IH} {H : Hp} {p : Addr} {ys zs : List V} (S : Sim (G.wf (upd F p (.lst ys))) μ h H) : Sim (G.wf (upd F p (.lst zs))) μ h (upd H p (.lst zs)) := by
  have hp : H p = some (.lst ys) := S.frm p _ (show upd F p (.lst ys) p = _ from upd_same)
  have fro : ∀ (a : Nat) (o : IO) (b : Addr), h[a]? = some o → μ[a]? = some b → mutb o = true → b ≠ p ∧ F b = none := fun a o b e1 e2 m => by
    have z : upd F p (.lst ys) b = none := S.fro a o b e1 e2 m
    by_cases hb : b = p
    · rw [hb, upd_same] at z; cases z
    · rw [upd_ne hb] at z; exact ⟨hb, z⟩
  refine ⟨S.len, fun a o b e1 e2 => ?_, S.inj, S.pre, fun b o e => ?_, fun a o b e1 e2 m => ?_⟩
  · have q := S.obj a o b e1 e2
    have q2 : ObjS (G.wf (upd F p (.lst ys))) μ (upd H p (.lst zs)) b o := by
      by_cases hb : b = p
      · subst hb
        cases hm : mutb o with
        | false => exact ObjS.keepL hp q hm
        | true => exact absurd rfl (fro a o b e1 e2 hm).1
      · exact ObjS.keep q fun _ _ => .inl hb
    cases o <;> exact q2
  · have e : upd F p (.lst zs) b = some o := e
    by_cases hb : b = p
    · subst hb
      rw [upd_same] at e ⊢
      exact e
    · rw [upd_ne hb] at e ⊢
      exact S.frm b o (show upd F p (.lst ys) b = some o by rw [upd_ne hb]; exact e)
  · obtain ⟨hb, z⟩ := fro a o b e1 e2 m
    show upd F p (.lst zs) b = none
    rw [upd_ne hb]
    exact z
theorem wipe_wipe (σ : St) (vs : List Nat) : L2.wipe (L2.wipe σ vs) vs = L2.wipe σ vs := by
  apply List.ext_getElem?
  intro j
  rw [wipe_get, wipe_get, wipe_length]
  by_cases hj : j ∈ vs
  · rw [if_pos hj, if_pos hj]
  · rw [if_neg hj, if_neg hj]
theorem bndN_val {α β : Type} {x : EV α} {k : α → IH → EV β} {v : β} {h : IH} (e : bndN x k = some (.val v h)) : ∃ a h1, x = some (.val a h1) ∧ k a h1 = some (.val v h) := by
  cases x with
  | none => cases e
  | some o =>
    cases o with
    | val a h1 => exact ⟨a, h1, rfl, e⟩
    | exn _ _ _ => cases e
/-- the conditions of a comprehension -/
def tCo (D : Dat) (mc : MO) : TT := fun τ H Q => ∃ F μ σ h, RS μ σ τ ∧ Sim (D.G.wf F) μ h H ∧ WP (D.G.wf F) WF τ RB μ (evC D.Γ mc σ h) Q
theorem _root_.L2.PTs.imp {X : Cx} {es : List Expr} {t t' : TT} (a : PTs X es t) (f : ∀ σ H R, t' σ H R → t σ H R) : PTs X es t' := ⟨fun pins s σ H R I z => a.run pins s σ H R I (f σ H R z)⟩
section
variable {X : Cx} {D : Dat} {W : WX} {R : CurR} {e a b tg elt iter : Expr} {m ma mb melt : ME} {mt : MT} {mi : MI} {mc : MO} {pos p : Pos} {t : Bool}
theorem sc_none : PTs X [] (tCo D .none) := pts_nil.imp fun τ H Q ⟨F, μ, σ, h, rs, S, w⟩ => by
  simp only [evC] at w
  exact w.val S rfl
theorem sc_one (ha : SE X D WF none a ma true) : PTs X [a] (tCo D (.some ma)) := (pts_one (ha.pt rfl)).imp fun τ H Q ⟨F, μ, σ, h, rs, S, w⟩ => by
  simp only [evC] at w
  exact ⟨F, μ, σ, h, none, rs, S, trivial, w⟩
theorem lc_read {ws : List Nat} {g : TG} {σ τ : St} {F : Hp} {μ1 : List Addr} {h1 hE : IH} {H1 : Hp} {is : Its} {J : It} {vs : List V} {Q : VK} {Dd : Addr} {X' : Cx} (hg : SG X' D tg mt g) (hws : ∀ j ∈ slT mt, j ∈ ws)
    (rs : RS μ1 σ τ) (S1 : Sim (D.G.wf F) μ1 h1 H1) (jok : JOk D μ1 is J) (hD : H1 Dd = none) (hl : vs.length ≤ sizeLine)
    (el : loopC (turnC mt ws σ (evC D.Γ mc) (evE D.Γ none false melt)) is.gd is.xs h1 = some (.val vs hE))
    (hq : ∀ μ' H' v', μ1 <+: μ' → Sim (D.G.wf F) μ' (hE ++ [.lst vs]) H' → RV μ' (.ref hE.length) v' → Q v' H') :
    ∃ Wm : Nat → Nat → Hp → Prop, (∃ m, Wm 0 m (upd H1 Dd (.lst []))) ∧ ∀ i m H, Wm i m H →
      (J.stop i H ∧ Q (.ref Dd) H) ∨ (J.go i H ∧ ∃ Nx : Hp → Prop, (∀ H', Nx H' → ∃ m', m' < m ∧ Wm (i + 1) m' H') ∧ ∀ x H', J.yld i H x H' → g x (L2.wipe τ ws) H' fun σ2 H2 => L2.wipe σ2 ws = L2.wipe τ ws ∧ tCo D mc σ2 H2 fun b H3 =>
        if b = true then tE D WF none melt σ2 H3 fun y H4 => ∃ acc, H4 Dd = some (.lst acc) ∧ acc.length < sizeLine ∧ Nx (upd H4 Dd (.lst (acc ++ [y]))) else Nx H3) := by
  have hF : F Dd = none := by
    cases ef : F Dd with
    | none => rfl
    | some o =>
      have q := S1.frm Dd o ef
      rw [hD] at q; cases q
  generalize hn : is.xs.length = n at *
  refine ⟨fun i m H => m = n - i ∧ i ≤ n ∧ ∃ μ' h' acc acc' rest, μ1 <+: μ' ∧ Sim (D.G.wf (upd F Dd (.lst acc'))) μ' h' H ∧ RVs μ' acc acc' ∧ loopC (turnC mt ws σ (evC D.Γ mc) (evE D.Γ none false melt)) is.gd (is.xs.drop i) h' = some (.val rest hE) ∧ acc ++ rest = vs, ⟨n, by simp, Nat.zero_le _, μ1, h1, [], [], vs, List.prefix_refl _, ?_, .nil, by simpa using el, rfl⟩, ?_⟩
  · refine Sim.refr (G := D.G.wf F) (S1.fresh hD) (upd F Dd (.lst [])) (fun b o e => ?_) (fun b e => ?_)
    · by_cases hb : b = Dd
      · subst hb
        rw [upd_same] at e ⊢
        exact e
      · rw [upd_ne hb] at e ⊢
        exact S1.frm b o e
    · by_cases hb : b = Dd
      · subst hb
        refine .inr fun a o e1 e2 m => ?_
        obtain ⟨u, hu⟩ := ObjS.mutAt (S1.obj a o b e1 e2) m
        rw [hD] at hu; cases hu
      · rw [upd_ne hb] at e
        exact .inl e
  · rintro i m H ⟨rfl, hi, μ', h', acc, acc', rest, p, S', ra, el', ev⟩
    by_cases hlt : i < n
    · have hix : i < is.xs.length := by rw [hn]; exact hlt
      rw [List.drop_eq_getElem_cons hix] at el'
      unfold loopC at el'
      split at el'
      · rename_i ok
        obtain ⟨o, h2, et, el2⟩ := bndN_val el'
        obtain ⟨rest', hE2, el3, er⟩ := bndN_val el2
        cases er
        obtain ⟨_, jgo, jy⟩ := jok _ μ' h' H p S' ok
        refine .inr ⟨jgo i hix, fun H' => n - (i + 1) = n - (i + 1) ∧ i + 1 ≤ n ∧ ∃ μ' h' acc acc' rest, μ1 <+: μ' ∧ Sim (D.G.wf (upd F Dd (.lst acc'))) μ' h' H' ∧ RVs μ' acc acc' ∧ loopC (turnC mt ws σ (evC D.Γ mc) (evE D.Γ none false melt)) is.gd (is.xs.drop (i + 1)) h' = some (.val rest hE) ∧ acc ++ rest = vs, fun H' z => ⟨n - (i + 1), by omega, z⟩, fun x' H' y => ?_⟩
        obtain ⟨S2, ⟨x, ex, yr⟩, kp⟩ := jy i x' H' hix y
        have ex2 : is.xs[i] = x := by
          rw [List.getElem?_eq_getElem hix] at ex
          exact Option.some.inj ex
        rw [ex2] at et
        unfold turnC at et
        split at et
        · rename_i σt ea
          obtain ⟨k, h3, ec, et2⟩ := bndN_val et
          refine hg.rx (rs.mono p |>.wipe ws) S2 yr ea fun τ' rs' bt => ⟨(bt.wipe hws).trans (wipe_wipe _ _), _, μ', σt, h', rs', S2, ?_⟩
          rw [ec]
          intro μ3 H3 kb p3 S3 rk
          have rk : k = .bl kb := rk
          subst rk
          cases kb with
          | true =>
            rw [if_pos rfl]
            obtain ⟨v, h4, ee, et3⟩ := bndN_val et2
            cases et3
            refine ⟨_, μ3, σt, h3, none, rs'.mono p3, S3, trivial, ?_⟩
            rw [ee]
            intro μ4 H4 v' p4 S4 rv
            refine ⟨acc', S4.frm Dd _ (show upd F Dd (.lst acc') Dd = _ from upd_same), ?_, rfl, hlt, μ4, h2, acc ++ [v], acc' ++ [v'], rest', (p.trans p3).trans p4, S4.held, Paired.app ((ra.mono p3).mono p4) (.cons rv .nil), el3, by rw [← ev]; simp⟩
            have e1 := congrArg List.length ev
            simp at e1
            rw [← Paired.length ra]
            omega
          | false =>
            rw [if_neg Bool.false_ne_true]
            cases et2
            exact ⟨rfl, hlt, μ3, h2, acc, acc', rest', p.trans p3, S3, ra.mono p3, el3, by rw [← ev]; simp⟩
        · cases et
      · cases el'
    · have e : i = n := by omega
      subst e
      rw [List.drop_eq_nil_of_le (by omega)] at el'
      unfold loopC at el'
      split at el'
      · rename_i ok
        cases el'
        obtain ⟨jst, _, _⟩ := jok _ μ' _ H p S' ok
        rw [List.append_nil] at ev
        subst ev
        refine .inl ⟨by rw [← hn]; exact jst, hq (μ' ++ [Dd]) H _ (p.trans len_pre) (S'.adopt hF ra) ⟨Dd, ?_, rfl⟩⟩
        rw [S'.len, List.getElem?_append_right (Nat.le_refl _)]
        simp
      · cases el'
theorem lc_tE {g : TG} {ws : List Nat} {X' : Cx} (hg : SG X' D tg mt g) (hws : ∀ j ∈ slT mt, j ∈ ws) {τ : St} {H : Hp} {Q : VK} (y : tE D W R (.lc ws melt mt mi mc) τ H Q) : tLc (tI D W R mi) g (tCo D mc) (tE D WF none melt) ws τ H Q := by
  obtain ⟨F, μ, σ, h, c, rs, S, hcu, w⟩ := y
  simp only [evE, bnd_fin] at w
  refine ⟨F, μ, σ, h, c, rs, S, hcu, WP.imp (WP.bnd (rel := JOk D) w) fun J H1 ⟨μ1, is, h1, p1, S1, jok, w1⟩ => fun Dd hD => ?_⟩
  cases el : loopC (turnC mt ws σ (evC D.Γ mc) (evE D.Γ none false melt)) is.gd is.xs h1 with
  | none => rw [el] at w1; exact w1.elim
  | some o =>
    cases o with
    | exn C d h2 => rw [el] at w1; exact (show False from w1).elim
    | val vs hE =>
      rw [el] at w1
      have w1 : WP (D.G.wf F) W τ RV μ1 (listV vs hE) Q := w1
      unfold listV at w1
      split at w1
      · rename_i hl
        exact lc_read hg hws (rs.mono p1) S1 jok hD hl el w1
      · exact w1.elim
theorem se_lc {ifs : List Expr} {scope : Scope} {own : List (Str × Nat)} {g : TG} {ws : List Nat} (hk : EX X D) (hc : X.calm = true) (hN : X.N.Nodup) (hi : PI X tg iter (tI D W R mi)) (ok : BlkOk X.N X.env.scope scope own)
    (hg : ∀ (s : Shared) (H : Hp) (C : Addr) (cl : List (Str × Addr)) (fp : List Addr), SG (X.blk s H scope (compEnvC scope cl C X.env) fp) D tg mt g)
    (ht : ∀ (s : Shared) (H : Hp) (C : Addr) (cl : List (Str × Addr)) (fp : List Addr), PTs (X.blk s H scope (compEnvC scope cl C X.env) fp) ifs (tCo D mc))
    (he : ∀ (s : Shared) (H : Hp) (C : Addr) (cl : List (Str × Addr)) (fp : List Addr), SE (X.blk s H scope (compEnvC scope cl C X.env) fp) D WF none elt melt false)
    (hs : ∀ x, foldedSetIterable iter X.env x = pure x) (hw : own.map (·.2) = ws) (hws : ∀ j ∈ slT mt, j ∈ ws) : SE X D W R (.ListComp elt [⟨tg, iter, ifs, 0⟩] scope pos) (.lc ws melt mt mi mc) t := by
  subst hw
  exact pt_fin ((L2.pe_lc hc hN hi ok (fun s H C cl fp => (hg s H C cl fp).pg) ht (fun s H C cl fp => (he s H C cl fp).pe) hs).imp fun τ H Q y => lc_tE (hg ⟨X.base, #[], X.s_0.drawn, 0, X.s_0.os⟩ H 0 [] []) hws y) hk.K (fun Γ c σ h => ⟨_, fun t => rfl⟩) (fun _ => rfl) (by intros; intro z; cases z) rfl
end
end MP
end
section
set_option Elab.async false
set_option linter.all false
set_option maxHeartbeats 400000
namespace MP
open PySem L2
def btN : BT → String
  | .non => "NoneType"
  | .bool => "bool"
  | .int => "int"
  | .str => "str"
  | .list => "list"
  | .tup => "tuple"
  | .dict => "dict"
theorem sqL_k {K : PySem.W.Frag} {b : Addr} {ys : List V} (h : ∀ H' : Hp, SqL K H' b ys) : ∃ o, K.lookup b = some o ∧ o.cls = .type "list" := by
  rcases h (fun _ => none) with (z | ⟨o, z⟩) | ⟨o, _, _, e, c, _⟩
  · cases z
  · cases z
  · exact ⟨o, e, c⟩
theorem sqT_k {K : PySem.W.Frag} {b : Addr} {ys : List V} (h : ∀ H' : Hp, SqT K H' b ys) : ∃ o, K.lookup b = some o ∧ o.cls = .type "tuple" := by
  rcases h (fun _ => none) with (z | ⟨o, z⟩) | ⟨o, _, _, e, c, _⟩
  · cases z
  · cases z
  · exact ⟨o, e, c⟩
theorem ty_ok {G : Stat} {μ : List Addr} {h : IH} {H : Hp} (S : Sim G μ h H) {v v' : V} (r : RV μ v v') {B : BT} (e : tyOf h v = some (.b B)) : TyX G.K H v' (.type (btN B)) := by
  unfold tyOf at e
  split at e
  · cases r; cases e; exact .base .non
  · cases r; cases e; exact .base (.bl _)
  · cases r; cases e; exact .base (.int _)
  · cases r; cases e; exact .base (.str _)
  · obtain ⟨b, hb, rfl⟩ := r
    split at e
    · rename_i xs ho
      cases e
      obtain ⟨ys, _, q⟩ := S.obj _ _ _ ho hb
      exact .base (.lst q)
    · rename_i xs ho
      cases e
      obtain ⟨ys, _, q⟩ := S.obj _ _ _ ho hb
      rcases q with ⟨o, q⟩ | q
      · exact .base (.frz q)
      · obtain ⟨o, k, c⟩ := sqL_k q
        exact .kList k c
    · rename_i xs k ho
      cases e
      obtain ⟨ys, _, q⟩ := S.obj _ _ _ ho hb
      rcases q with ⟨q | ⟨o, q⟩, _⟩ | ⟨q, _⟩
      · exact .base (.tup q)
      · exact .fTuple q
      · obtain ⟨o, k, c⟩ := sqT_k q
        exact .kTuple k c
    · rename_i xs ho
      cases e
      obtain ⟨ys, _, q⟩ := S.obj _ _ _ ho hb
      exact .base (.dK q)
    · cases e
    · cases e
  · cases e
theorem kit_bt {K : PySem.W.Frag} : ∀ B T : BT, PySem.W.kitOne K (.type (btN B)) (.type (btN T)) = some (B == T || (B == .bool && T == .int)) := fun B T => kit_ty (by cases B <;> cases T <;> decide +kernel)
theorem kitAny_bt {K : PySem.W.Frag} {B : BT} : ∀ ts : List BT, PySem.W.kitAny K (.type (btN B)) (ts.map fun T => Value.type (btN T)) = some (ts.any fun T => B == T || (B == .bool && T == .int))
  | [] => rfl
  | T :: ts => kitAny_cons (kit_bt B T) (fun e => by
      rw [kitAny_bt ts, List.any_cons, e, Bool.false_or]) fun e => by rw [List.any_cons, e, Bool.true_or]
theorem idx_first {z : Str} : ∀ {ys : List Str} {m : Nat}, m < ys.idxOf z → ys[m]? ≠ some z
  | [], m, h => by simp at h
  | a :: r, m, h => by
    rw [List.idxOf_cons] at h
    cases ha : a == z with
    | true => rw [ha] at h; simp at h
    | false =>
      rw [ha] at h
      cases m with
      | zero =>
        intro e
        simp at e
        rw [e] at ha
        simp at ha
      | succ m =>
        have := idx_first (ys := r) (m := m) (by simpa using h)
        simpa using this
section
variable {X : Cx} {D : Dat} {W : WX} {R : CurR} {e a b o : Expr} {m ma mb mo : ME} {pos p p2 apos : Pos} {t : Bool} {es : List Expr} {ms : MA}
/-! ### built-in functions -/
theorem se_biB {B : Bif} {id : String} {x : Str} (hk : EX X D) (hc : X.calm = true ∨ bifHot B = true) (nb : B ≠ .lenSet ∧ B ≠ .sorted) (hv : bifV B = .builtin id) (hg : Gl X x) (hm : X.mg x = none) (hb : bootBuiltins x = some (.builtin id)) (ok : okName x = true) (ha : SA X D W R (e :: es) ms) :
    SE X D W R (.Call (.Name x p) (e :: es) [] pos) (.bi B ms) t := by
  obtain ⟨o1, _, o3⟩ := okName_ok ok
  have ns := ha.ns
  rw [List.all_cons, Bool.and_eq_true] at ns
  have cr := call_bif hk.gd hk.un B hc nb
  rw [hv] at cr
  refine pt_fin ((pe_callB cr hg hm hb ha.pa o3 o1 (star_of ns.1) (backTo_plain ns.2)).imp fun τ H Q ⟨F, μ, σ, h, c, rs, S, hc, w⟩ => ?_) hk.K (fun Γ c σ h => ⟨_, fun t => rfl⟩) (fun _ => rfl) (by intros; intro z; cases z) rfl
  simp only [evE, bnd_fin] at w
  refine ⟨F, μ, σ, h, c, rs, S, hc, WP.imp (WP.bnd (rel := RVs) w) fun xs' H1 ⟨μ1, xs, h1, p1, S1, rx, w1⟩ => ?_⟩
  rw [show X.K = (D.G.wf F).K from hk.K]
  exact bif_ok nb.1 S1 rx w1
theorem se_biT {B : Bif} {T : String} {x : Str} (hk : EX X D) (hc : X.calm = true ∨ bifHot B = true) (nb : B ≠ .lenSet ∧ B ≠ .sorted) (hv : bifV B = .type T) (hg : Gl X x) (hm : X.mg x = none) (hb : bootBuiltins x = some (.type T)) (ok : okName x = true) (ha : SA X D W R (e :: es) ms) :
    SE X D W R (.Call (.Name x p) (e :: es) [] pos) (.bi B ms) t := by
  obtain ⟨o1, _, o3⟩ := okName_ok ok
  have ns := ha.ns
  rw [List.all_cons, Bool.and_eq_true] at ns
  have cr := call_bif hk.gd hk.un B hc nb
  rw [hv] at cr
  refine pt_fin ((pe_callTy cr hg hm hb ha.pa o3 o1 (star_of ns.1) (backTo_plain ns.2)).imp fun τ H Q ⟨F, μ, σ, h, c, rs, S, hc, w⟩ => ?_) hk.K (fun Γ c σ h => ⟨_, fun t => rfl⟩) (fun _ => rfl) (by intros; intro z; cases z) rfl
  simp only [evE, bnd_fin] at w
  refine ⟨F, μ, σ, h, c, rs, S, hc, WP.imp (WP.bnd (rel := RVs) w) fun xs' H1 ⟨μ1, xs, h1, p1, S1, rx, w1⟩ => ?_⟩
  rw [show X.K = (D.G.wf F).K from hk.K]
  exact bif_ok nb.1 S1 rx w1
/-! ### methods of built-in types -/
theorem se_bmG {M : Bm} {T id : String} {name : Str} {r : V → List V → Hp → VK → Prop} (hk : EX X D) (pa : PlainAttrs T) (slot : Slot T name id) (hty : typeOf (.builtin id) = pure (.type "method_descriptor")) (hm : MtR X id r)
    (okT : ∀ {F : Hp} {μ : List Addr} {h : IH} {H : Hp} {x x' : V}, Sim (D.G.wf F) μ h H → RV μ x x' → bmTy M x h = true → L2.tyV X.K T x' H)
    (ok : ∀ {F : Hp} {μ : List Addr} {h : IH} {H : Hp} {x x' : V} {vs vs' : List V} {τ : St} {Q : VK}, Sim (D.G.wf F) μ h H → RV μ x x' → RVs μ vs vs' → WP (D.G.wf F) W τ RV μ (bmeth M x vs h) Q → r x' vs' H Q)
    (ho : SE X D W R o mo false) (ha : SA X D W R (e :: es) ms) (hbase : attributeBase o name X.env (eval o X.env) = eval o X.env)
    (hfew : ((backTo pos (starEach (e :: es) X.env)).all (fun x => !x.1) && (backToKw pos (keywordEach [] X.env)).all (fun x => x.1.isSome)
      && decide ((e :: es).length + ([] : List Keyword).length + (if ([] : List Keyword).isEmpty then 0 else 1) < 30)) = true)
    (hline : (apos.endLine == pos.line) = true) : SE X D W R (.Call (.Attribute o name apos) (e :: es) [] pos) (.bm M mo ms) t := by
  have ns := ha.ns
  rw [List.all_cons, Bool.and_eq_true] at ns
  refine pt_fin ((pe_bm pa slot hty hm ho.pe ha.pa hbase hfew hline (star_of ns.1) (backTo_plain ns.2)).imp fun τ H Q ⟨F, μ, σ, h, c, rs, S, hc, w⟩ => ?_) hk.K (fun Γ c σ h => ⟨_, fun t => rfl⟩) (fun _ => rfl) (by intros; intro z; cases z) rfl
  simp only [evE, bnd_fin] at w
  refine ⟨F, μ, σ, h, c, rs, S, hc, WP.imp (WP.bnd (rel := RV) w) fun x' H1 ⟨μ1, x, h1, p1, S1, rx, w1⟩ => ?_⟩
  split at w1
  · rename_i hT
    refine ⟨okT S1 rx hT, F, μ1, σ, h1, c, rs.mono p1, S1, hc.mono p1, WP.imp (WP.bnd (rel := RVs) w1) fun ys' H2 ⟨μ2, ys, h2, p2, S2, ry, w2⟩ => ?_⟩
    exact ok S2 (rx.mono p2) ry w2
  · exact w1.elim
theorem tyStr {F : Hp} {μ : List Addr} {h : IH} {H : Hp} {x x' : V} (r : RV μ x x') (e : isStr x = true) : L2.tyV X.K "str" x' H := by
  cases x <;> first | (cases r; rfl) | cases e
theorem se_join {name : Str} (hn : name = "join") (hk : EX X D) (ho : SE X D W R o mo false) (ha : SA X D W R (e :: es) ms) (hbase : attributeBase o name X.env (eval o X.env) = eval o X.env)
    (hfew : ((backTo pos (starEach (e :: es) X.env)).all (fun x => !x.1) && (backToKw pos (keywordEach [] X.env)).all (fun x => x.1.isSome)
      && decide ((e :: es).length + ([] : List Keyword).length + (if ([] : List Keyword).isEmpty then 0 else 1) < 30)) = true)
    (hline : (apos.endLine == pos.line) = true) : SE X D W R (.Call (.Attribute o name apos) (e :: es) [] pos) (.bm .join mo ms) t := by
  subst hn
  refine se_bmG hk F.plainAttrs_str F.slot_str_join F.type_str_join mt_join (fun {F μ h H x x'} S r e => tyStr (F := F) (h := h) r e) (fun {F μ h H x x' vs vs' τ Q} S rx rv w => ?_) ho ha hbase hfew hline
  · have w : WP (D.G.wf F) W τ RV μ (mJoin x vs h) Q := w
    unfold mJoin at w
    split at w
    · cases rx
      cases rv with
      | cons r1 r2 =>
        cases r2
        split at w
        · rename_i xs e1
          split at w
          · rename_i ys e2
            split at w
            · rename_i hl
              obtain ⟨b, zs, rfl, rz, sq⟩ := S.seq e1 r1
              have ez := RVs.strs e2 rz
              subst ez
              rw [show X.K = (D.G.wf F).K from hk.K]
              exact ⟨_, b, ys, rfl, rfl, sq, hl, w.val S rfl⟩
            · exact w.elim
          · exact w.elim
        · exact w.elim
    · exact w.elim
theorem se_count {name : Str} (hn : name = "count") (hk : EX X D) (ho : SE X D W R o mo false) (ha : SA X D W R (e :: es) ms) (hbase : attributeBase o name X.env (eval o X.env) = eval o X.env)
    (hfew : ((backTo pos (starEach (e :: es) X.env)).all (fun x => !x.1) && (backToKw pos (keywordEach [] X.env)).all (fun x => x.1.isSome)
      && decide ((e :: es).length + ([] : List Keyword).length + (if ([] : List Keyword).isEmpty then 0 else 1) < 30)) = true)
    (hline : (apos.endLine == pos.line) = true) : SE X D W R (.Call (.Attribute o name apos) (e :: es) [] pos) (.bm .count mo ms) t := by
  subst hn
  refine se_bmG hk F.plainAttrs_str F.slot_str_count F.type_str_count mt_count (fun {F μ h H x x'} S r e => tyStr (F := F) (h := h) r e) (fun {F μ h H x x' vs vs' τ Q} S rx rv w => ?_) ho ha hbase hfew hline
  · have w : WP (D.G.wf F) W τ RV μ (mCount x vs h) Q := w
    unfold mCount at w
    split at w
    · cases rx
      cases rv with
      | cons r1 r2 =>
        cases r1
        cases r2
        exact ⟨_, _, rfl, rfl, w.val S rfl⟩
    · exact w.elim
theorem tyLst (hk : X.K = D.G.K) {F : Hp} {μ : List Addr} {h : IH} {H : Hp} {x x' : V} (S : Sim (D.G.wf F) μ h H) (r : RV μ x x') (e : isLst x h = true) : L2.tyV X.K "list" x' H := by
  unfold isLst at e
  split at e
  · obtain ⟨b, hb, rfl⟩ := r
    split at e
    · rename_i ho
      obtain ⟨ys, ry, eb⟩ := S.lst ho hb
      exact .inl ⟨rfl, ys, .inl (.inl eb)⟩
    · cases e
  · cases e
theorem se_append {name : Str} (hn : name = "append") (hk : EX X D) (ho : SE X D W R o mo false) (ha : SA X D W R (e :: es) ms) (hbase : attributeBase o name X.env (eval o X.env) = eval o X.env)
    (hfew : ((backTo pos (starEach (e :: es) X.env)).all (fun x => !x.1) && (backToKw pos (keywordEach [] X.env)).all (fun x => x.1.isSome)
      && decide ((e :: es).length + ([] : List Keyword).length + (if ([] : List Keyword).isEmpty then 0 else 1) < 30)) = true)
    (hline : (apos.endLine == pos.line) = true) : SE X D W R (.Call (.Attribute o name apos) (e :: es) [] pos) (.bm .append mo ms) t := by
  subst hn
  refine se_bmG hk F.plainAttrs_list F.slot_list_append F.type_list_append (show MtR X "list.append" rAppend from mt_append) (fun S r e => tyLst hk.K S r e) (fun {F μ h H x x' vs vs' τ Q} S rx rv w => ?_) ho ha hbase hfew hline
  · have w : WP (D.G.wf F) W τ RV μ (mAppend x vs h) Q := w
    unfold mAppend at w
    split at w
    · obtain ⟨b, hb, rfl⟩ := rx
      cases rv with
      | cons r1 r2 =>
        cases r2
        split at w
        · rename_i xs ho
          obtain ⟨zs, rz, oz⟩ := S.lst ho hb
          split at w
          · rename_i hl
            refine ⟨b, zs, _, rfl, rfl, oz, by rw [← Paired.length rz]; exact hl, ?_⟩
            exact w.val (S.write ho hb rfl rfl ⟨_, Paired.app rz (.cons r1 .nil), upd_same⟩) rfl
          · exact w.elim
        · exact w.elim
    · exact w.elim
theorem se_index {name : Str} (hn : name = "index") (hk : EX X D) (ho : SE X D W R o mo false) (ha : SA X D W R (e :: es) ms) (hbase : attributeBase o name X.env (eval o X.env) = eval o X.env)
    (hfew : ((backTo pos (starEach (e :: es) X.env)).all (fun x => !x.1) && (backToKw pos (keywordEach [] X.env)).all (fun x => x.1.isSome)
      && decide ((e :: es).length + ([] : List Keyword).length + (if ([] : List Keyword).isEmpty then 0 else 1) < 30)) = true)
    (hline : (apos.endLine == pos.line) = true) : SE X D W R (.Call (.Attribute o name apos) (e :: es) [] pos) (.bm .index mo ms) t := by
  subst hn
  refine se_bmG hk F.plainAttrs_tuple F.slot_tuple_index F.type_tuple_index mt_tup_index (fun {F μ h H x x'} S r e => ?_) (fun {F μ h H x x' vs vs' τ Q} S rx rv w => ?_) ho ha hbase hfew hline
  · have e : isTupK x h = true := e
    unfold isTupK at e
    split at e
    · obtain ⟨b, hb, rfl⟩ := r
      split at e
      · rename_i ho
        obtain ⟨ys, ry, q⟩ := S.obj _ _ _ ho hb
        rw [show X.K = (D.G.wf F).K from hk.K]
        exact (q.resolve_left (fun z => by cases z.2)).2 rfl H
      · cases e
    · cases e
  · have w : WP (D.G.wf F) W τ RV μ (mIndex x vs h) Q := w
    unfold mIndex at w
    split at w
    · rename_i a z
      obtain ⟨b, hb, rfl⟩ := rx
      cases rv with
      | cons r1 r2 =>
        cases r1
        cases r2
        split at w
        · rename_i xs ho
          obtain ⟨zs, rz, sq⟩ := S.tupR ho hb
          split at w
          · rename_i ys e2
            split at w
            · rename_i hz
              have ez := RVs.strs e2 rz
              subst ez
              rw [show X.K = (D.G.wf F).K from hk.K]
              refine ⟨b, ys, _, ys.idxOf _, rfl, rfl, sq, ?_, fun m hm => ?_, w.val S rfl⟩
              · rw [List.getElem?_eq_getElem (List.idxOf_lt_length_of_mem hz)]
                congr 1
                exact List.getElem_idxOf _
              · exact idx_first hm
            · exact w.elim
          · exact w.elim
        · exact w.elim
    · exact w.elim
/-! ### isinstance -/
inductive CL (X : Cx) : List Expr → List BT → Prop
  | nil : CL X [] []
  | cons {x : Str} {p : Pos} {T : BT} {es : List Expr} {ts : List BT} (hg : Gl X x) (hm : X.mg x = none) (hb : bootBuiltins x = some (.type (btN T))) (ok : okName x = true) (r : CL X es ts) : CL X (.Name x p :: es) (T :: ts)
theorem CL.pa {es : List Expr} {ts : List BT} (h : CL X es ts) : PA X es (fun _ H Q => Q (ts.map fun T => V.ty (btN T)) H) := by
  induction h with
  | nil => exact pa_nil
  | cons hg hm hb ok r ih =>
    obtain ⟨o1, _, o3⟩ := okName_ok ok
    exact (pa_cons (pe_bltn hg hm hb (v := .ty _) rfl o3 o1) ih (star_of rfl)).imp fun _ _ _ z => z
theorem isI_ok {F : Hp} {μ : List Addr} {h : IH} {H : Hp} {v v' : V} {τ : St} {β : Type} {rel : List Addr → V → β → Prop} {Q : β → Hp → Prop} {ts : List BT} (S : Sim (D.G.wf F) μ h H) (r : RV μ v v') (w : WP (D.G.wf F) W τ rel μ (tyV D.Γ (ts.map Ty.b) v h) Q) :
    ∃ B, TyX D.G.K H v' (.type (btN B)) ∧ WP (D.G.wf F) W τ rel μ (ret (.bl (ts.any fun T => B == T || (B == .bool && T == .int))) h) Q := by
  unfold tyV at w
  split at w
  · rename_i u e
    refine ⟨u, ty_ok S r e, ?_⟩
    rw [List.any_map] at w
    exact w
  · exact w.elim
end
end MP
end
section
set_option Elab.async false
set_option linter.all false
set_option maxHeartbeats 400000
/-! isinstance of an exception that bears a dict -/
namespace PySem.W
open PySem PySem.Spec PySem.Calls PyProof.Rows
section
variable {prog : Program} {w : World} {A : Around} {E : Value → Shared → Prop} {s : Shared} {Kf : Frag} {x Dd : Addr} {ox : Obj} {od0 : Obj}
set_option maxHeartbeats 1000000 in
theorem mp_class (Cx : L2.ExcC Kf Dd) {Q : Option Value → Shared → Prop} (Xi : Kf.In s.heap) (Ii : InstAt s.heap x ox Dd (some od0)) (hq : Q (some (.ref Dd)) { s with toks := s.toks + 1 }) : wpAny (model prog w) A (getAttr? (.ref x) "__class__") Q E s := by
  have hcls : (clsIn Kf Dd).isSome = true := by
    obtain ⟨cd, hc, _⟩ := any_some Cx.hd
    rw [hc] <;> rfl
  have found : findObj Kf Dd (some od0) "__class__" = some (.bind (.builtin "getset_descriptor.__get__") (.builtin "object.__class__")) := findObj_data hcls Cx.ha Cx.hn Cx.ht
  obtain ⟨hp, g, d, t, os⟩ := s
  have K0 := Ii.type (M := model prog w)
  have K1 := looks_findIn (M := model prog w) Xi Cx.hg
  have K2 := looks_findIn (M := model prog w) Xi Cx.hk
  have K3 := looks_find (M := model prog w) Xi Ii found
  have isB : Looks (model prog w) hp (isInstance (.ref x) (.type "BaseException")) true := K0.andThen (looks_subIn Xi Cx.hs)
  have n0 : (false && onTheHeap (Value.builtin "BaseException.__getattribute__")) = false := rfl
  have n1 : (onTheHeap (Value.ref Dd) && Value.builtin "BaseException.__getattribute__" == Value.builtin "object.__getattribute__") = false := by
    rw [show (Value.builtin "BaseException.__getattribute__" == Value.builtin "object.__getattribute__") = false from by decide +kernel]
    rfl
  unfold getAttr? getAttrBy? getAttrBy
  refine wpAny_bind (wpAny_mkText (wpAny_bind (wpAny_attempt (wpAny_holding (wpAny_bind (K0.at (wpAny_bind (K1.at ?_))))))))
  show wpAny _ _ (if (onTheHeap (Value.ref Dd) && Value.builtin "BaseException.__getattribute__" == Value.builtin "object.__getattribute__") = true then _ else _) _ _ _
  rw [n1, if_neg Bool.false_ne_true]
  unfold getAttrByItsOwn hookBefore; refine wpAny_bind ?_
  rw [if_pos (show onTheHeap (Value.ref Dd) = true from rfl)]
  refine K2.at ?_
  refine wpAny_bind (wpAny_attempt (wpAny_holding ?_)); unfold callGetattribute
  rw [n0, if_neg Bool.false_ne_true]; unfold boundAndCalled
  rw [PySem.F.excAttr_ValueError.ga.bind (.ref x)]; refine wpAny_bind (wpAny_pure ?_)
  show wpAny _ _ (call (.builtin "BaseException.__getattribute__") [.ref x, .str "__class__" t]) _ _ _; refine wpAny_call (codeAny_call_builtin PySem.F.excAttr_ValueError.ga.plain PySem.F.entry_bexc_ga ?_)
  refine @check_slot (model prog w) _ _ (Shared.mk hp g d (t + 1) os) "BaseException.__getattribute__" "BaseException" "__getattribute__" (Value.ref x) [Value.str "__class__" t] [] _
    (by decide +kernel) (by decide +kernel) isB (PySem.F.args_bexc_ga (Value.ref x) (.str "__class__" t)) ?_
  unfold Builtin.«object.__getattribute__»; refine wpAny_bind (wpAny_of_eq (a := ((Value.ref x : Value), [Value.str "__class__" t])) (by first | rfl | (simp only [slotArgs]; rfl)) ?_)
  refine wpAny_bind (wpAny_pure (wpAny_bind (K0.at (wpAny_bind (K3.at ?_)))))
  show wpAny _ _ (holding [Value.builtin "object.__class__"] (call (.builtin "getset_descriptor.__get__") [.builtin "object.__class__", .ref x, .ref Dd]) >>= ret) _ _ _
  refine wpAny_bind (wpAny_holding (wpAny_call (class_get (s := ⟨hp, g, d, t + 1, os⟩) (ox := ox) (od := some od0) Xi Ii Cx.hm ?_))); refine wpAny_pure ?_
  show wpAny _ _ (handedOut (.ref Dd)) _ _ _; rw [handedOut_of (v := .ref Dd) rfl]
  first
    | exact wpAny_pure (wpAny_pure hq)
    | exact wpAny_pure hq
    | exact wpAny_pure (wpAny_bind (wpAny_pure (wpAny_pure hq)))
theorem mp_kit (Cx : L2.ExcC Kf Dd) : KitX Kf (.ref x) (.ref Dd) (fun h => ∃ od0, InstAt h x ox Dd (some od0)) where
  ty := fun _ _ _ ⟨_, I⟩ => I.type
  it := fun _ _ Xi _ => by
    obtain ⟨cdD, hcD, _⟩ := any_some Cx.hd
    unfold clsIn at hcD; split at hcD
    · rename_i c' d' cd' sl' ho
      intro A' Q' E' s' k q
      unfold isType loadHead; exact wpAny_bind (wpAny_loadPart (k _ _ (Xi _ _ ho)) (wpAny_pure q))
    · cases hcD
  ne := fun h tp dd its n sl Xi htp => by
    obtain ⟨cdD, hcD, _⟩ := any_some Cx.hd
    refine Bool.eq_false_iff.mpr fun q => ?_
    have e : Dd = tp := Value.ref.inj (beq_iff_eq.mp q); subst e
    unfold clsIn at hcD; split at hcD
    · rename_i c' d' cd' sl' ho
      have z := (Xi _ _ ho).symm.trans htp; cases z
    · cases hcD
  ca := fun Xi ⟨_, I⟩ k => mp_class Cx Xi I k
end
end PySem.W
end
section
set_option Elab.async false
set_option linter.all false
set_option maxHeartbeats 400000
namespace MP
open PySem L2 PySem.Spec
section
variable {X : Cx} {D : Dat} {W : WX} {R : CurR} {e a b o : Expr} {m ma mb mo : ME} {pos p p2 apos : Pos} {t : Bool} {es : List Expr} {ms : MA}
theorem tyV_fin {Γ : Gam} {ts : List Ty} {x : EV V} : bnd (bnd x (tyV Γ ts)) (fin true) = bnd x (tyV Γ ts) := by
  rw [bnd_assoc]
  congr 1
  funext a h
  unfold tyV
  split <;> rfl
theorem se_isI {x y : Str} {T : BT} (hk : EX X D) (hx : x = "isinstance") (hg : Gl X x) (hm : X.mg x = none) (ha : SE X D W R a ma false) (hc : CL X [.Name y p2] [T]) : SE X D W R (.Call (.Name x p) [a, .Name y p2] [] pos) (.isI ma (.b T)) t := by
  subst hx
  refine pt_fin ((pe_callB call_isi hg hm (by decide +kernel) (pa_cons ha.pe hc.pa (star_of ha.ns)) (by decide) (by decide) (star_of ha.ns) (by rw [star_of (e := Expr.Name y p2) rfl]; rfl)).imp fun τ H Q ⟨F, μ, σ, h, c, rs, S, hcu, w⟩ => ?_) hk.K
    (fun Γ c σ h => ⟨bnd (evE Γ c false ma σ h) (tyV Γ [.b T]), fun t => by
      cases t with
      | false => rw [bnd_fin]; simp only [evE]
      | true => rw [tyV_fin]; simp only [evE]⟩) (fun _ => rfl) (by intros; intro z; cases z) rfl
  simp only [evE] at w
  refine ⟨F, μ, σ, h, c, rs, S, hcu, WP.imp (WP.bnd (rel := RV) w) fun v' H1 ⟨μ1, v, h1, p1, S1, rv, w1⟩ => ?_⟩
  obtain ⟨B, ty, w2⟩ := isI_ok (ts := [T]) S1 rv w1
  rw [show X.K = (D.G.wf F).K from hk.K]
  refine ⟨v', .ty (btN T), _, _, _, rfl, .ty _, ty, kit_bt B T, ?_⟩
  rw [List.any_cons, List.any_nil, Bool.or_false] at w2
  exact w2.val S1 rfl
theorem clsv_map : ∀ ts : List BT, Paired ClsV (ts.map fun T => V.ty (btN T)) (ts.map fun T => Value.type (btN T))
  | [] => .nil
  | _ :: ts => .cons (.ty _) (clsv_map ts)
theorem se_isIs {x : Str} {T : BT} {ts : List BT} {es : List Expr} {x1 : Nat} (hk : EX X D) (hx : x = "isinstance") (hg : Gl X x) (hm : X.mg x = none) (ha : SE X D W R a ma false) (hc : CL X es ts) (hl : ts.length ≤ 100) : SE X D W R (.Call (.Name x p) [a, .Tuple es x1 p2] [] pos) (.isIs ma (ts.map .b)) t := by
  subst hx
  refine pt_fin ((pe_callB call_isiT hg hm (by decide +kernel) (pa_cons ha.pe (pa_cons (pe_tup hc.pa) pa_nil (star_of rfl)) (star_of ha.ns)) (by decide) (by decide) (star_of ha.ns) (by rw [star_of (e := Expr.Tuple es x1 p2) rfl]; rfl)).imp fun τ H Q ⟨F, μ, σ, h, c, rs, S, hcu, w⟩ => ?_) hk.K
    (fun Γ c σ h => ⟨bnd (evE Γ c false ma σ h) (tyV Γ (ts.map .b)), fun t => by
      cases t with
      | false => rw [bnd_fin]; simp only [evE]
      | true => rw [tyV_fin]; simp only [evE]⟩) (fun _ => rfl) (by intros; intro z; cases z) rfl
  simp only [evE] at w
  refine ⟨F, μ, σ, h, c, rs, S, hcu, WP.imp (WP.bnd (rel := RV) w) fun v' H1 ⟨μ1, v, h1, p1, S1, rv, w1⟩ => ?_⟩
  refine ⟨by rw [List.length_map, sizeLine_eq]; omega, fun q hq => ?_⟩
  obtain ⟨B, ty, w2⟩ := isI_ok (S1.fresh (u := .tup (ts.map fun T => V.ty (btN T))) hq) rv w1
  rw [show X.K = (D.G.wf F).K from hk.K]
  exact ⟨v', q, _, _, ts.map fun T => Value.type (btN T), _, rfl, upd_same, clsv_map ts, ty, kitAny_bt ts, w2.val (S1.fresh hq) rfl⟩
/-! ### len(set(..)) of ints -/
theorem ints_vals : ∀ {ns : List Int} {us : List Value}, Vals (ns.map V.int) us → PyProof.Rows.IntsAre us ns
  | [], _, .nil => .nil
  | n :: ns, _, .cons r t => by
    obtain ⟨k, rfl⟩ := r
    exact .cons n k (ints_vals t)
theorem lenSet_eq {Γ : Gam} {c : Option (Nat × Nat)} {σ : St} {h : IH} : evE Γ c false (.bi .lenSet (.cons ma .nil)) σ h = bnd (evE Γ c false ma σ h) fun v h1 => bifn .lenSet [v] h1 := by
  simp only [evE, evA, bnd_fin, bnd_assoc]
  rfl
theorem se_lenSet {x y : Str} {q : Pos} (hk : EX X D) (hc : X.calm = true) (hx : x = "len") (hy : y = "set") (hg : Gl X x) (hm : X.mg x = none) (hg2 : Gl X y) (hm2 : X.mg y = none) (ha : SE X D W R a ma false) :
    SE X D W R (.Call (.Name x p) [.Call (.Name y p2) [a] [] q] [] pos) (.bi .lenSet (.cons ma .nil)) t := by
  subst hx hy
  refine pt_fin ⟨fun pins s τ H Q I z => ?_⟩ hk.K (fun Γ c σ h => ⟨_, fun t => rfl⟩) (fun _ => rfl) (by intros; intro z; cases z) rfl
  obtain ⟨F, μ, σ, h, c, rs, S, hcu, w⟩ := z
  rw [lenSet_eq] at w
  refine PyProof.Rows.Call_ (ld_blt I hg hm PySem.boot_len ?_)
  refine PyProof.Rows.callWith_builtin1 (PyProof.Rows.args_cons ?_ rfl) rfl rfl
  refine PyProof.Rows.Call_ (ld_blt I hg2 hm2 PyProof.Rows.boot_set ?_)
  refine PyProof.Rows.callWith_type1 (PyProof.Rows.args_cons (thn (ha.pe.run pins s τ H _ I ⟨F, μ, σ, h, c, rs, S, hcu, WP.bnd (rel := RV) w⟩) fun v s1 z => PyProof.Rows.args_nil ?_) (by rw [star_of ha.ns])) (by rw [star_of ha.ns]) rfl
  obtain ⟨v', H1, I1, r1, μ1, vv, h1, p1, S1, rv, w1⟩ := z
  unfold bifn at w1
  simp only at w1
  split at w1
  · rename_i xs e1
    split at w1
    · rename_i ns e2
      split at w1
      · rename_i hl
        obtain ⟨l, ys, rfl, ry, sq⟩ := S1.lseq e1 rv
        have ey := RVs.ints e2 ry
        subst ey
        cases r1
        have sq : SqL X.K H1 l (ns.map V.int) := by rw [show X.K = (D.G.wf F).K from hk.K]; exact sq
        obtain ⟨its, r, pl, hz⟩ := I1.list sq
        have hlen : its.toArray.size = ns.length := by rw [List.size_toArray, ← r.length, List.length_map]
        refine call_set_list (I1.ok.hd hc) pl.isList (ns := ns) (by simpa using ints_vals r) (by rw [hlen]; unfold scanBound; omega) fun h' tk hS hk2 => ?_
        refine PyProof.Rows.args_nil ?_
        rw [hlen] at hS
        obtain ⟨o, es, ep, tt, ho, hex, hd, _, _, _, hf, hn⟩ := hS
        have I2 : Inv X pins τ H1 { s1 with heap := h', toks := tk } := I1.kept fun b o e => hk2 b o (Heap.lt_size e) e
        have hle := PyProof.Rows.firstMet_length_le (fun i => ns.getD i 0) ns.length
        exact call_len_set ho hex hd hf (by rw [hn]; omega) ⟨.int ((distinct ns : Nat) : Int), H1, I2.tok _, ⟨_, by rw [hn]; rfl⟩, w1.val S1 rfl⟩
      · exact w1.elim
    · exact w1.elim
  · exact w1.elim
/-! ### dict displays of constants -/
inductive CP (X : Cx) : List (Option Expr) → List Expr → List (Key × V) → List (TE × TE) → Prop
  | nil : CP X [] [] [] []
  | cons {ke ve : Expr} {k : Key} {v : V} {ks : List (Option Expr)} {vs : List Expr} {kvs : List (Key × V)} {trs : List (TE × TE)} (hk : PE X ke (tC (kV k))) (hv : PE X ve (tC v)) (nv : ∀ a, v ≠ .ref a) (r : CP X ks vs kvs trs) : CP X (some ke :: ks) (ve :: vs) ((k, v) :: kvs) ((tC (kV k), tC v) :: trs)
theorem CP.pps {ks : List (Option Expr)} {vs : List Expr} {kvs : List (Key × V)} {trs : List (TE × TE)} (h : CP X ks vs kvs trs) : PPs X pos ks vs trs := by
  induction h with
  | nil => exact pps_nil
  | cons hk hv nv r ih => exact pps_cons hk hv ih
theorem CP.rd {ks : List (Option Expr)} {vs : List Expr} {kvs : List (Key × V)} {trs : List (TE × TE)} (h : CP X ks vs kvs trs) {σ : St} {H : Hp} : ∀ {Q : List (V × V) → Hp → Prop}, Q (kvs.map fun kv => (kV kv.1, kv.2)) H → tPairs trs σ H Q := by
  induction h with
  | nil => exact fun q => q
  | cons hk hv nv r ih => exact fun q => ih q
theorem CP.rk {ks : List (Option Expr)} {vs : List Expr} {kvs : List (Key × V)} {trs : List (TE × TE)} (h : CP X ks vs kvs trs) {μ : List Addr} : ∀ p ∈ kvs, RV μ p.2 p.2 := by
  induction h with
  | nil => simp
  | cons hk hv nv r ih =>
    intro p hp
    rcases List.mem_cons.mp hp with rfl | hp
    · exact rv_cst nv
    · exact ih p hp
theorem upd_upd {H : Hp} {p : Addr} {a b : HO} : upd (upd H p a) p b = upd H p b := by
  funext c
  by_cases hc : c = p
  · subst hc; rw [upd_same, upd_same]
  · rw [upd_ne hc, upd_ne hc, upd_ne hc]
theorem mem_putK {k : Key} {v : V} : ∀ {kvs : List (Key × V)} {p : Key × V}, p ∈ putK kvs k v → p ∈ kvs ∨ p.2 = v
  | kvs, p, h => by
    unfold putK at h
    split at h
    · obtain ⟨q, hq, e⟩ := List.mem_map.mp h
      split at e
      · subst e; exact .inr rfl
      · subst e; exact .inl hq
    · rcases List.mem_append.mp h with h | h
      · exact .inl h
      · simp at h; subst h; exact .inr rfl
theorem mem_mergeK : ∀ {more kvs : List (Key × V)} {p : Key × V}, p ∈ mergeK kvs more → (∃ q ∈ kvs, q.2 = p.2) ∨ ∃ q ∈ more, q.2 = p.2
  | [], kvs, p, h => .inl ⟨p, h, rfl⟩
  | q :: r, kvs, p, h => by
    rcases mem_mergeK (more := r) (kvs := putK kvs q.1 q.2) h with ⟨z, hz, e⟩ | ⟨z, hz, e⟩
    · rcases mem_putK hz with hz | hz
      · exact .inl ⟨z, hz, e⟩
      · exact .inr ⟨q, List.mem_cons_self, by rw [← e, hz]⟩
    · exact .inr ⟨z, List.mem_cons_of_mem _ hz, e⟩
theorem rkv_self {μ : List Addr} : ∀ {kvs : List (Key × V)}, (∀ p ∈ kvs, RV μ p.2 p.2) → RKV μ kvs kvs
  | [], _ => .nil
  | p :: r, h => .cons ⟨rfl, h p List.mem_cons_self⟩ (rkv_self fun q hq => h q (List.mem_cons_of_mem _ hq))
theorem se_dct0 (hk : EX X D) : SE X D W R (.Dict [] [] pos) (.dct []) t :=
  pt_fin (pe_dnewK.imp fun τ H Q ⟨F, μ, σ, h, c, rs, S, hcu, w⟩ => by
    simp only [evE, bnd_fin] at w
    exact fun q hq => w.new S hq ⟨[], .nil, upd_same⟩) hk.K (fun Γ c σ h => ⟨_, fun t => rfl⟩) (fun _ => rfl) (by intros; intro z; cases z) rfl
theorem se_dct {ks : List (Option Expr)} {vs : List Expr} {kvs : List (Key × V)} {trs : List (TE × TE)} (hk : EX X D) (hp : CP X ks vs kvs trs) (h1 : ks.all (·.isSome) = true) (h2 : ks.length = vs.length) (h3 : ks ≠ []) (h4 : ks.length ≤ 15) (h5 : kvs.length ≤ 15) : SE X D W R (.Dict ks vs pos) (.dct kvs) t :=
  pt_fin ((pe_disp hp.pps h1 h2 h3 h4).imp fun τ H Q ⟨F, μ, σ, h, c, rs, S, hcu, w⟩ => fun q hq => by
    simp only [evE, bnd_fin] at w
    refine hp.rd ⟨upd_same, kvs, rfl, h5, ?_⟩
    rw [upd_upd]
    refine w.new S hq ⟨mergeK [] kvs, rkv_self fun p hm => ?_, upd_same⟩
    rcases mem_mergeK hm with ⟨z, hz, _⟩ | ⟨z, hz, e⟩
    · cases hz
    · rw [← e]; exact hp.rk z hz) hk.K (fun Γ c σ h => ⟨_, fun t => rfl⟩) (fun _ => rfl) (by intros; intro z; cases z) rfl
end
end MP
end
section
set_option Elab.async false
set_option linter.all false
set_option maxHeartbeats 400000
namespace MP
open PySem L2
/-! ### statements -/
def WPS (G : Stat) (W : WX) (R : CurR) (c : Option (Nat × Nat)) (Dn : Ends) (μ : List Addr) : ES → Prop
  | some (.ok (.nx σ) h) => ∀ μ' τ H, μ <+: μ' → RS μ' σ τ → Sim G μ' h H → CurOk G μ' τ R c → Dn.nx τ H
  | some (.ok (.bk σ) h) => ∀ μ' τ H, μ <+: μ' → RS μ' σ τ → Sim G μ' h H → CurOk G μ' τ R c → Dn.bk τ H
  | some (.ok (.ct σ) h) => ∀ μ' τ H, μ <+: μ' → RS μ' σ τ → Sim G μ' h H → CurOk G μ' τ R c → Dn.ct τ H
  | some (.ok (.rt v) h) => ∀ μ' H v', μ <+: μ' → Sim G μ' h H → RV μ' v v' → Dn.rt v' H
  | some (.ex C d σ h) => ∀ μ' τ H d', μ <+: μ' → RS μ' σ τ → Sim G μ' h H → μ'[d]? = some d' → W (.ref (G.cls C)) (some d') τ H
  | none => False
theorem WPS.mono {G : Stat} {W : WX} {R : CurR} {c : Option (Nat × Nat)} {Dn : Ends} {μ μ' : List Addr} {r : ES} (w : WPS G W R c Dn μ r) (p : μ <+: μ') : WPS G W R c Dn μ' r := by
  match r, w with
  | some (.ok (.nx σ) h), w => exact fun m τ H q => w m τ H (p.trans q)
  | some (.ok (.bk σ) h), w => exact fun m τ H q => w m τ H (p.trans q)
  | some (.ok (.ct σ) h), w => exact fun m τ H q => w m τ H (p.trans q)
  | some (.ok (.rt v) h), w => exact fun m H v' q => w m H v' (p.trans q)
  | some (.ex C d σ h), w => exact fun m τ H d' q => w m τ H d' (p.trans q)
theorem WPS.bE {α β : Type} {G : Stat} {W : WX} {R : CurR} {c : Option (Nat × Nat)} {Dn : Ends} {μ : List Addr} {rel : List Addr → α → β → Prop} {x : EV α} {k : α → IH → ES} {σ τ : St} (w : WPS G W R c Dn μ (MP.bE σ x k)) (rs : RS μ σ τ) :
    WP G W τ rel μ x fun b H1 => ∃ μ1 a h1, μ <+: μ1 ∧ Sim G μ1 h1 H1 ∧ rel μ1 a b ∧ WPS G W R c Dn μ1 (k a h1) := by
  cases x with
  | none => exact w
  | some o =>
    cases o with
    | val v h => exact fun m H v' q S r => ⟨m, v, h, q, S, r, WPS.mono w q⟩
    | exn C d h => exact fun m H d' q S e => w m τ H d' q (rs.mono q) S e
def tS (D : Dat) (N : Nat) (W : WX) (R : CurR) (m : MS) : TS := fun Dn τ H => ∃ F μ σ h c, RS μ σ τ ∧ Sim (D.G.wf F) μ h H ∧ CurOk D.G μ τ R c ∧ WPS (D.G.wf F) W R c Dn μ (evS D.Γ N c m σ h)
def tB (D : Dat) (N : Nat) (W : WX) (R : CurR) (m : MB) : TS := fun Dn τ H => ∃ F μ σ h c, RS μ σ τ ∧ Sim (D.G.wf F) μ h H ∧ CurOk D.G μ τ R c ∧ WPS (D.G.wf F) W R c Dn μ (evB D.Γ N c m σ h)
theorem _root_.L2.PS.imp {X : Cx} {e : Stmt} {t t' : TS} (a : PS X e t) (f : ∀ D σ H, t' D σ H → t D σ H) : PS X e t' := ⟨fun pins s σ H D I z => a.run pins s σ H D I (f D σ H z)⟩
theorem _root_.L2.PSs.imp {X : Cx} {e : List Stmt} {t t' : TS} (a : PSs X e t) (f : ∀ D σ H, t' D σ H → t D σ H) : PSs X e t' := ⟨fun pins s σ H D I z => a.run pins s σ H D I (f D σ H z)⟩
/-- the exception's name is not among these slots -/
def RNot (R : CurR) (js : List Nat) : Prop := ∀ i a cv d, R = some (some i, a, cv, d) → i ∉ js
theorem CurOk.but {G : Stat} {μ : List Addr} {τ τ' : St} {js : List Nat} : ∀ {R : CurR} {c : Option (Nat × Nat)}, CurOk G μ τ R c → But js τ τ' → RNot R js → CurOk G μ τ' R c
  | none, none, _, _, _ => trivial
  | some (none, a, cv, d), some (C, e), ⟨h1, h2, h3⟩, _, _ => ⟨h1, h2, fun n z => by cases z⟩
  | some (some i, a, cv, d), some (C, e), ⟨h1, h2, h3⟩, b, n => ⟨h1, h2, fun j z => by
      cases z
      rw [b.2 _ (n _ _ _ _ rfl)]
      exact h3 _ rfl⟩
  | none, some _, h, _, _ => h.elim
  | some _, none, h, _, _ => h.elim
theorem RF.put {G : Stat} {μ : List Addr} {f : Nat} {v v' : V} (hf : f < G.M) (rv : RV μ v v') : ∀ {fs : List (Nat × V)} {gs : List (Str × V)}, RF G μ fs gs → RF G μ (putI f v fs) (putF (G.fld f) v' gs)
  | [], _, .nil => .cons ⟨hf, rfl, rv⟩ .nil
  | (g, u) :: fs, _, @Paired.cons _ _ _ _ (y, u') _ gs h r => by
    obtain ⟨h1, h2, h3⟩ := h
    have h2 : y = G.fld g := h2
    subst h2
    unfold putI putF
    by_cases e : g = f
    · subst e
      rw [if_pos rfl, if_pos rfl]
      exact .cons ⟨h1, rfl, rv⟩ r
    · rw [if_neg e, if_neg (fun z => e (G.fok _ _ h1 hf z))]
      exact .cons ⟨h1, rfl, h3⟩ (RF.put hf rv r)
section
variable {X : Cx} {D : Dat} {N : Nat} {W : WX} {R : CurR} {e a b o tg : Expr} {m ma mb mo me : ME} {mt : MT} {pos p p2 : Pos} {es : List Expr} {ms : MA} {st : Stmt} {sts : List Stmt} {s1 : MS} {b1 b2 : MB} {g : TG} {mi : MI}
theorem sb_nil : PSs X [] (tB D N W R .nil) := pss_nil.imp fun Dn τ H ⟨F, μ, σ, h, c, rs, S, hc, w⟩ => by
  simp only [evB] at w
  exact w μ τ H (List.prefix_refl _) rs S (by cases R <;> cases c <;> exact hc)
theorem CurOk.wf {G : Stat} {F : Hp} {μ : List Addr} {τ : St} {R : CurR} {c : Option (Nat × Nat)} : CurOk (G.wf F) μ τ R c ↔ CurOk G μ τ R c := by
  cases R <;> cases c <;> exact Iff.rfl
theorem sb_cons (h1 : PS X st (tS D N W R s1)) (h2 : PSs X sts (tB D N W R b1)) : PSs X (st :: sts) (tB D N W R (.cons s1 b1)) := (pss_cons h1 h2).imp fun Dn τ H ⟨F, μ, σ, h, c, rs, S, hc, w⟩ => by
  simp only [evB] at w
  refine ⟨F, μ, σ, h, c, rs, S, hc, ?_⟩
  match er : evS D.Γ N c s1 σ h, w with
  | some (.ok (.nx σ') h'), w => exact fun μ' τ' H' q r' S' c' => ⟨F, μ', σ', h', c, r', S', CurOk.wf.mp c', WPS.mono (show WPS (D.G.wf F) W R c Dn μ (evB D.Γ N c b1 σ' h') from w) q⟩
  | some (.ok (.bk σ') h'), w => exact w
  | some (.ok (.ct σ') h'), w => exact w
  | some (.ok (.rt v) h'), w => exact w
  | some (.ex C d σ' h'), w => exact w
  | none, w => exact w.elim
theorem ss_asg (hg : SG X D tg mt g) (he : PS X st (tAsg (tE D W R me) g)) (hR : RNot R (slT mt)) : PS X st (tS D N W R (.asg mt me)) := he.imp fun Dn τ H ⟨F, μ, σ, h, c, rs, S, hc, w⟩ => by
  simp only [evS] at w
  refine ⟨F, μ, σ, h, c, rs, S, hc, WP.imp (WPS.bE (rel := RV) w rs) fun v' H1 ⟨μ1, v, h1, p1, S1, rv, w1⟩ => ?_⟩
  cases ea : asgT mt v σ h1 with
  | none => rw [ea] at w1; exact (show False from w1).elim
  | some σ' =>
    rw [ea] at w1
    exact hg.rd (rs.mono p1) S1 rv ea fun τ' rs' bt => w1 μ1 τ' H1 (List.prefix_refl _) rs' S1 (CurOk.wf.mpr ((hc.mono p1).but bt hR))
theorem ss_ret (he : SE X D W R e me false) : PS X (.Return (some e) pos) (tS D N W R (.ret me)) := (ps_ret he.pe).imp fun Dn τ H ⟨F, μ, σ, h, c, rs, S, hc, w⟩ => by
  simp only [evS] at w
  exact ⟨F, μ, σ, h, c, rs, S, hc, WP.imp (WPS.bE (rel := RV) w rs) fun v' H1 ⟨μ1, v, h1, p1, S1, rv, w1⟩ => w1 μ1 H1 v' (List.prefix_refl _) S1 rv⟩
theorem ss_retN : PS X (.Return none pos) (tS D N W R .retN) := ps_retN.imp fun Dn τ H ⟨F, μ, σ, h, c, rs, S, hc, w⟩ => by
  simp only [evS] at w
  exact w μ H .non (List.prefix_refl _) S rfl
theorem ss_expr (he : SE X D W R e me false) (hs : swapsWith e none pos.line X.env = pure false) : PS X (.Expr e pos) (tS D N W R (.ex me)) := (ps_expr he.pe hs).imp fun Dn τ H ⟨F, μ, σ, h, c, rs, S, hc, w⟩ => by
  simp only [evS] at w
  exact ⟨F, μ, σ, h, c, rs, S, hc, WP.imp (WPS.bE (rel := RV) w rs) fun v' H1 ⟨μ1, v, h1, p1, S1, rv, w1⟩ => w1 μ1 τ H1 (List.prefix_refl _) (rs.mono p1) S1 (CurOk.wf.mpr (hc.mono p1))⟩
theorem ss_pass : PS X (.Pass pos) (tS D N W R .pss) := ps_pass.imp fun Dn τ H ⟨F, μ, σ, h, c, rs, S, hc, w⟩ => by
  simp only [evS] at w
  exact w μ τ H (List.prefix_refl _) rs S (CurOk.wf.mpr hc)
theorem ss_brk : PS X (.Break pos) (tS D N W R .brk) := ps_break.imp fun Dn τ H ⟨F, μ, σ, h, c, rs, S, hc, w⟩ => by
  simp only [evS] at w
  exact w μ τ H (List.prefix_refl _) rs S (CurOk.wf.mpr hc)
theorem ss_cnt : PS X (.Continue pos) (tS D N W R .cnt) := ps_continue.imp fun Dn τ H ⟨F, μ, σ, h, c, rs, S, hc, w⟩ => by
  simp only [evS] at w
  exact w μ τ H (List.prefix_refl _) rs S (CurOk.wf.mpr hc)
theorem ss_if {ca cb : List Stmt} (hc' : SE X D W R e me true) (ha : PSs X ca (tB D N W R b1)) (hb : PSs X cb (tB D N W R b2)) : PS X (.If e ca cb pos) (tS D N W R (.ifS me b1 b2)) := (ps_if (hc'.pt rfl) ha hb).imp fun Dn τ H ⟨F, μ, σ, h, c, rs, S, hc, w⟩ => by
  simp only [evS] at w
  refine ⟨F, μ, σ, h, c, rs, S, hc, WP.imp (WPS.bE (rel := RB) w rs) fun x' H1 ⟨μ1, x, h1, p1, S1, rx, w1⟩ => ?_⟩
  have rx : x = .bl x' := rx
  subst rx
  cases x' with
  | true => rw [if_pos rfl]; exact ⟨F, μ1, σ, h1, c, rs.mono p1, S1, hc.mono p1, w1⟩
  | false => rw [if_neg Bool.false_ne_true]; exact ⟨F, μ1, σ, h1, c, rs.mono p1, S1, hc.mono p1, w1⟩
/-- o.f = e -/
theorem ss_fld {k f : Nat} {x : Str} {p' : Pos} (E : Dyn X.prog X.w X.K X.mg X.base D k) (hf : D.G.fld f = x) (ho : SE X D W R o mo false) (he : SE X D W R e me false) (hs : swapsWith e (some (.Attribute o x p')) pos.line X.env = pure false) : PS X (.Assign [.Attribute o x p'] e pos) (tS D N W R (.asgA mo f me)) := by
  subst hf
  refine (ps_fld ho.pe he.pe hs).imp fun Dn τ H ⟨F, μ, σ, h, c, rs, S, hc, w⟩ => ?_
  simp only [evS] at w
  refine ⟨F, μ, σ, h, c, rs, S, hc, WP.imp (WPS.bE (rel := RV) w rs) fun y' H1 ⟨μ1, y, h1, p1, S1, ry, w1⟩ => ?_⟩
  refine ⟨F, μ1, σ, h1, c, rs.mono p1, S1, hc.mono p1, WP.imp (WPS.bE (rel := RV) w1 (rs.mono p1)) fun x' H2 ⟨μ2, x, h2, p2, S2, rx, w2⟩ => ?_⟩
  unfold setA at w2
  split at w2
  · rename_i q
    obtain ⟨ad, ha, rfl⟩ := rx
    split at w2
    · rename_i C fs hob
      obtain ⟨dx, gs, rf, oa⟩ := S2.obj _ _ _ hob ha
      split at w2
      · rename_i hl
        obtain ⟨hM, cl, na⟩ := E.isF C f hl.2
        refine ⟨ad, D.G.cls C, dx, gs, rfl, oa, cl, na, by rw [← Paired.length rf]; exact hl.1, ?_⟩
        refine w2 μ2 τ _ (List.prefix_refl _) ((rs.mono p1).mono p2) (S2.write hob ha rfl rfl ⟨dx, _, ?_, upd_same⟩) (CurOk.wf.mpr ((hc.mono p1).mono p2))
        exact RF.put hM (ry.mono p2) rf
      · exact w2.elim
    · exact w2.elim
  · exact w2.elim
end
end MP
end
section
set_option Elab.async false
set_option linter.all false
set_option maxHeartbeats 400000
namespace MP
open PySem L2
section
variable {X : Cx} {D : Dat} {N : Nat} {W : WX} {R : CurR} {e a b o tg iter elt : Expr} {m ma mb mo me melt : ME} {mt : MT} {pos p p2 : Pos} {es : List Expr} {ms : MA} {st : Stmt} {sts : List Stmt} {s1 : MS} {b1 b2 : MB} {g : TG} {mi : MI} {mc : MO}
theorem ss_for {body : List Stmt} (hp : PassesOwn (model X.prog X.w) X.A X.env X.xe) (hc : X.calm = true) (hi : PI X tg iter (tI D W R mi)) (hg : SG X D tg mt g) (hb : PSs X body (tB D N W R b1)) (hs : ∀ x, foldedSetIterable iter X.env x = pure x) (hR : RNot R (slT mt)) :
    PS X (.For tg iter body [] pos) (tS D N W R (.forS mt mi b1)) := (ps_for hp hc hi hg.pg hb hs).imp fun Dn τ H ⟨F, μ, σ, h, c, rs, S, hcu, w⟩ => by
  simp only [evS] at w
  refine ⟨F, μ, σ, h, c, rs, S, hcu, WP.imp (WPS.bE (rel := JOk D) w rs) fun J H1 ⟨μ1, is, h1, p1, S1, jok, w1⟩ => ?_⟩
  generalize hn : is.xs.length = n at *
  refine ⟨fun i m τ H => m = n - i ∧ i ≤ n ∧ ∃ μ' σ' h', μ1 <+: μ' ∧ RS μ' σ' τ ∧ Sim (D.G.wf F) μ' h' H ∧ CurOk D.G μ' τ R c ∧ WPS (D.G.wf F) W R c Dn μ' (loopF mt (evB D.Γ N c b1) is.gd (is.xs.drop i) σ' h'), ⟨n, by simp, Nat.zero_le _, μ1, σ, h1, List.prefix_refl _, rs.mono p1, S1, hcu.mono p1, by simpa using w1⟩, ?_⟩
  rintro i m τ1 H2 ⟨rfl, hi', μ', σ', h', p, rs', S', cu', w'⟩
  by_cases hlt : i < n
  · have hix : i < is.xs.length := by rw [hn]; exact hlt
    rw [List.drop_eq_getElem_cons hix] at w'
    unfold loopF at w'
    split at w'
    · rename_i ok
      obtain ⟨_, jgo, jy⟩ := jok F μ' h' H2 p S' ok
      refine .inr ⟨jgo i hix, fun τ H => n - (i + 1) = n - (i + 1) ∧ i + 1 ≤ n ∧ ∃ μ' σ' h', μ1 <+: μ' ∧ RS μ' σ' τ ∧ Sim (D.G.wf F) μ' h' H ∧ CurOk D.G μ' τ R c ∧ WPS (D.G.wf F) W R c Dn μ' (loopF mt (evB D.Γ N c b1) is.gd (is.xs.drop (i + 1)) σ' h'), fun τ' H' z => ⟨n - (i + 1), by omega, z⟩, fun x' H' y => ?_⟩
      obtain ⟨S2, ⟨x, ex, yr⟩, kp⟩ := jy i x' H' hix y
      have ex2 : is.xs[i] = x := by
        rw [List.getElem?_eq_getElem hix] at ex
        exact Option.some.inj ex
      rw [ex2] at w'
      split at w'
      · rename_i σt ea
        refine hg.rx rs' S2 yr ea fun τ' rs2 bt => ⟨F, μ', σt, h', c, rs2, S2, cu'.but bt hR, ?_⟩
        match er : evB D.Γ N c b1 σt h', w' with
        | some (.ok (.nx σ3) h3), w' => exact fun μ3 τ3 H3 q r3 S3 c3 => ⟨rfl, hlt, μ3, σ3, h3, p.trans q, r3, S3, CurOk.wf.mp c3, WPS.mono (show WPS (D.G.wf F) W R c Dn μ' (loopF mt (evB D.Γ N c b1) is.gd (is.xs.drop (i + 1)) σ3 h3) from w') q⟩
        | some (.ok (.ct σ3) h3), w' => exact fun μ3 τ3 H3 q r3 S3 c3 => ⟨rfl, hlt, μ3, σ3, h3, p.trans q, r3, S3, CurOk.wf.mp c3, WPS.mono (show WPS (D.G.wf F) W R c Dn μ' (loopF mt (evB D.Γ N c b1) is.gd (is.xs.drop (i + 1)) σ3 h3) from w') q⟩
        | some (.ok (.bk σ3) h3), w' => exact w'
        | some (.ok (.rt v) h3), w' => exact w'
        | some (.ex C d σ3 h3), w' => exact w'
        | none, w' => exact w'.elim
      · exact w'.elim
    · exact w'.elim
  · have e : i = n := by omega
    subst e
    rw [List.drop_eq_nil_of_le (by omega)] at w'
    unfold loopF at w'
    split at w'
    · rename_i ok
      obtain ⟨jst, _, _⟩ := jok F μ' _ H2 p S' ok
      exact .inl ⟨by rw [← hn]; exact jst, w' μ' τ1 H2 (List.prefix_refl _) rs' S' (CurOk.wf.mpr cu')⟩
    · exact w'.elim
/-- a, b = e1, e2 -/
theorem ss_par {i j : Nat} {x y : Str} {px py pt : Pos} {kt k2 : Nat} {pt2 : Pos} (hc : X.calm = true) (hN : X.N.Nodup) (hi : X.N[i]? = some x) (hj : X.N[j]? = some y) (hij : i ≠ j)
    (hx : X.env.scope.names.lookup x = some .local) (hy : X.env.scope.names.lookup y = some .local) (ha : SA X D W R [a, b] ms)
    (hw : swappedStores [.Tuple [.Name x px, .Name y py] kt pt] (.Tuple [a, b] k2 pt2) X.env = pure (some [x, y]))
    (hs : swapsWithSole [.Tuple [.Name x px, .Name y py] kt pt] (.Tuple [a, b] k2 pt2) pos.line X.env = pure false) (hR : RNot R [i, j]) :
    PS X (.Assign [.Tuple [.Name x px, .Name y py] kt pt] (.Tuple [a, b] k2 pt2) pos) (tS D N W R (.par (.tup (.cons (.nm i) (.cons (.nm j) .nil))) ms)) :=
  (L2.ps_par hc hN hi hj hij hx hy ha.pa hw hs).imp fun Dn τ H ⟨F, μ, σ, h, c, rs, S, hcu, w⟩ => by
  simp only [evS] at w
  refine ⟨F, μ, σ, h, c, rs, S, hcu, WP.imp (WPS.bE (rel := RVs) w rs) fun vs' H1 ⟨μ1, vs, h1, p1, S1, rv, w1⟩ => ?_⟩
  cases rv with
  | nil => simp only [asgTs, nxt] at w1; exact w1.elim
  | @cons v v' vs vs' r1 r2 =>
    cases r2 with
    | nil => simp only [asgTs, asgT, nxt] at w1; exact w1.elim
    | @cons u u' vs vs' r2 r3 =>
      cases r3 with
      | cons _ _ => simp only [asgTs, asgT, nxt] at w1; exact w1.elim
      | nil =>
        simp only [asgTs, asgT, nxt] at w1
        refine ⟨v', u', rfl, w1 μ1 _ H1 (List.prefix_refl _) (((rs.mono p1).set i r1).set j r2) S1 (CurOk.wf.mpr ((hcu.mono p1).but (js := [i] ++ [j]) (But.trans But.set But.set) hR))⟩
/-- x = [..] on one line -/
theorem ss_lc {i : Nat} {y : Str} {py : Pos} {ifs : List Expr} {scope : Scope} {own : List (Str × Nat)} {spos : Pos} {g2 : TG} {ws : List Nat} (hk : EX X D) (hc : X.calm = true) (hN : X.N.Nodup) (hy : X.N[i]? = some y) (hyl : X.env.scope.names.lookup y = some .local)
    (hsw : swapsWith (.ListComp elt [⟨tg, iter, ifs, 0⟩] scope pos) (some (.Name y py)) spos.line X.env = pure true) (hi : PI X tg iter (tI D W R mi)) (ok : BlkOk X.N X.env.scope scope own)
    (hg : ∀ (s : Shared) (H : Hp) (C : Addr) (cl : List (Str × Addr)) (fp : List Addr), SG (X.blk s H scope (compEnvC scope cl C X.env) fp) D tg mt g2)
    (ht : ∀ (s : Shared) (H : Hp) (C : Addr) (cl : List (Str × Addr)) (fp : List Addr), PTs (X.blk s H scope (compEnvC scope cl C X.env) fp) ifs (tCo D mc))
    (he : ∀ (s : Shared) (H : Hp) (C : Addr) (cl : List (Str × Addr)) (fp : List Addr), SE (X.blk s H scope (compEnvC scope cl C X.env) fp) D WF none elt melt false)
    (hs : ∀ x, foldedSetIterable iter X.env x = pure x) (hw : own.map (·.2) = ws) (hws : ∀ j ∈ slT mt, j ∈ ws) (hR : RNot R [i]) : PS X (.Assign [.Name y py] (.ListComp elt [⟨tg, iter, ifs, 0⟩] scope pos) spos) (tS D N W R (.asg (.nm i) (.lc ws melt mt mi mc))) := by
  subst hw
  refine ss_asg (sg_nm (pos := py) hN hy (.inl hyl) (.inr hyl)) ((ps_setLc hc hN hy hyl hsw hi ok (fun s H C cl fp => (hg s H C cl fp).pg) ht (fun s H C cl fp => (he s H C cl fp).pe) hs).imp fun Dn τ H z => ?_) (by simpa only [slT] using hR)
  exact lc_tE (hg ⟨X.base, #[], X.s_0.drawn, 0, X.s_0.os⟩ H 0 [] []) hws z
/-- the exception classes of the text -/
structure XFacts (K : PySem.W.Frag) (D : Dat) : Prop where
  exf : ∀ C f, D.Γ.exf C = some f → f < D.G.M ∧ ExcC K (D.G.cls C) ∧ PySem.W.findIn K (.ref (D.G.cls C)) (D.G.fld f) = some none
theorem ExcC.xf {K : PySem.W.Frag} {C : Addr} (h : ExcC K C) : XfC K C := ⟨h.hg, h.hk, h.hs, h.hd⟩
/-- try: .. except x as n: .. -/
theorem ss_try {x n : Str} {cv : Value} {i Cx : Nat} {body suite : List Stmt} {b₀ : Stmt} {np pos' : Pos} (hs : X.stack = X.env :: X.outer) (hf : X.env.frame = some X.env.locals) (hN : X.N.Nodup) (hi : X.N[i]? = some n) (hln : X.env.kindOf n = some .local) (hc : Names X x cv) (tk : Takes X W)
    (hex : ∀ C f, D.Γ.exf C = some f → PySem.W.exmOne X.K (.ref (D.G.cls C)) cv = some (D.Γ.sub C Cx))
    (hb : ∀ (W' : WX) (pn : List (Addr × Obj)) (xe : Value → Shared → Prop), Takes (X.tr pn xe) W' → PassesOwn (model X.prog X.w) X.A X.env xe → PSs (X.tr pn xe) body (tB D N W' none b1))
    (hsu : ∀ (a : Addr) (oe : Obj) (cls : Value) (d : Option Addr) (pn : List (Addr × Obj)), Zc cls d oe → (∃ vs, oe.data = .fields vs) → PSs (X.suite a ((a, oe) :: pn)) (b₀ :: suite) (tB D N WF (some (some i, a, cls, d)) b2)) :
    PS X (.Try body [.ExceptHandler (some (.Name x np)) (some n) (b₀ :: suite) pos'] [] [] pos) (tS D N W none (.tryS b1 (.cons Cx (some i) b2 .nil))) :=
  (L2.ps_try_as (tb := fun W' => tB D N W' none b1) (ts := fun a cls d => tB D N WF (some (some i, a, cls, d)) b2) hs hf hN hi hln hc tk hb hsu).imp fun Dn τ H ⟨F, μ, σ, h, c, rs, S, hcu, w⟩ => by
  have hc0 : c = none := by
    cases c with
    | none => rfl
    | some z => exact hcu.elim
  subst hc0
  simp only [evS] at w
  refine ⟨F, μ, σ, h, none, rs, S, hcu, ?_⟩
  match er : evB D.Γ N none b1 σ h, w with
  | some (.ok (.nx σ') h'), w => exact w
  | some (.ok (.bk σ') h'), w => exact w
  | some (.ok (.ct σ') h'), w => exact w
  | some (.ok (.rt v) h'), w => exact w
  | none, w => exact w.elim
  | some (.ex C d σ' h'), w =>
    have w : WPS (D.G.wf F) W none none Dn μ (evH D.Γ N C d (.cons Cx (some i) b2 .nil) σ' h') := w
    intro μ' τ' H' d' q rs' S' ed
    simp only [evH] at w
    split at w
    · rename_i hx
      obtain ⟨f, ef⟩ := Option.isSome_iff_exists.mp hx
      refine ⟨D.Γ.sub C Cx, hex C f ef, fun hb a na => ?_, fun hb => ?_⟩
      · rw [if_pos hb] at w
        split at w
        · rename_i hil
          have hlen : i < τ'.length := by rw [← Paired.length rs']; exact hil
          refine ⟨F, μ', σ'.set i none, h', some (C, d), Paired.setP (show RO μ' none (some (.ref a)) from trivial) i rs', S', ⟨rfl, ⟨d', rfl, ed⟩, fun n z => by cases z; rw [List.getElem?_set_self hlen]⟩, ?_⟩
          have un : ∀ {r : ES}, WPS (D.G.wf F) W none none Dn μ (unN i r) → WPS (D.G.wf F) WF (some (some i, a, .ref ((D.G.wf F).cls C), some d')) (some (C, d)) { nx := fun σ' H' => Dn.nx (σ'.set i none) H', rt := Dn.rt, bk := fun σ' H' => Dn.bk (σ'.set i none) H', ct := fun σ' H' => Dn.ct (σ'.set i none) H' } μ' r := by
            intro r w
            match r, w with
            | some (.ok (.nx σ3) h3), w => exact fun m τ3 H3 z r3 S3 _ => w m _ H3 (q.trans z) (Paired.setP (show RO m none none from trivial) i r3) S3 trivial
            | some (.ok (.bk σ3) h3), w => exact fun m τ3 H3 z r3 S3 _ => w m _ H3 (q.trans z) (Paired.setP (show RO m none none from trivial) i r3) S3 trivial
            | some (.ok (.ct σ3) h3), w => exact fun m τ3 H3 z r3 S3 _ => w m _ H3 (q.trans z) (Paired.setP (show RO m none none from trivial) i r3) S3 trivial
            | some (.ok (.rt v) h3), w => exact fun m H3 v' z S3 rv => w m H3 v' (q.trans z) S3 rv
            | some (.ex _ _ _ _), w => exact (show False from w).elim
            | none, w => exact (show False from w).elim
          exact un w
        · exact w.elim
      · rw [if_neg (by rw [hb]; simp)] at w
        exact w μ' τ' H' d' q rs' S' ed
    · exact w.elim
/-- e.f, e the exception that the suite holds -/
theorem se_curF {x nm : Str} {A0 : Addr} {oe : Obj} {cls : Value} {d : Option Addr} {pn : List (Addr × Obj)} {i f : Nat} {t : Bool} (hk : EX X D) (T : XFacts X.K D) (hz : Zc cls d oe) (hf : ∃ vs, oe.data = .fields vs) (hN : X.N[i]? = some x) (hv : Vis X.env.scope x) (ok : okName x = true) (hn : D.G.fld f = nm)
    (hb : attributeBase (.Name x p) nm X.env (eval (.Name x p) X.env) = eval (.Name x p) X.env) : SE (X.suite A0 ((A0, oe) :: pn)) D W (some (some i, A0, cls, d)) (.Attribute (.Name x p) nm pos) (.curF f) t := by
  subst hn
  obtain ⟨o1, o2, _⟩ := okName_ok ok
  refine pt_fin (PE.some fun τ H Q ⟨F, μ, σ, h, c, rs, S, hcu, w⟩ => ?_) hk.K (fun Γ c σ h => ⟨_, fun t => rfl⟩) (fun _ => rfl) (by intros; intro z; cases z) rfl
  simp only [evE, bnd_fin] at w
  match c, hcu with
  | none, hcu => exact hcu.elim
  | some (C, d0), hcu =>
    obtain ⟨rfl, ⟨d', rfl, ed⟩, hsl⟩ := hcu
    unfold curV at w
    simp only at w
    split at w
    · rename_i g v ho
      split at w
      · rename_i hg
        obtain ⟨rfl, he⟩ := hg
        obtain ⟨hM, ec, no⟩ := T.exf C f he
        obtain ⟨_, v', rv, oa⟩ := S.obj _ _ _ ho ed
        refine ⟨_, pe_xf (ExcC.xf ec) no hz hf (pe_var hN hv o1 o2) hb, ?_⟩
        exact ⟨.ref A0, hsl i rfl, rfl, rfl, d', _, v', rfl, oa, (by show List.lookup (D.G.fld f) [(D.G.fld f, v')] = some v'; simp [List.lookup]), w.val S rv⟩
      · exact w.elim
    · exact w.elim
/-- isinstance(e, C) of that exception -/
def rIsX (K : PySem.W.Frag) (C0 a dd : Addr) : List V → Hp → VK → Prop := fun xs H Q => ∃ (c : V) (cv : Value) (k : Bool), xs = [.ref a, c] ∧ (∀ u, RelV c u → u = cv) ∧ PySem.W.kitOne K (.ref C0) cv = some k ∧ (∃ fs, H dd = some (.xd fs)) ∧ Q (.bl k) H
theorem call_isX {X : Cx} {a C0 dd : Addr} {oe : Obj} {pn : List (Addr × Obj)} (C : ExcC X.K C0) (hz : Zc (.ref C0) (some dd) oe) (hf : ∃ vs, oe.data = .fields vs) : CallR (X.suite a ((a, oe) :: pn)) (.builtin "isinstance") (rIsX X.K C0 a dd) := by
  intro pins s σ H xs us Q I r z
  obtain ⟨c, cv, k, rfl, hcv, e, ⟨fs, hd⟩, q⟩ := z
  obtain ⟨u1, u2, rfl, r1, r2⟩ := vals2 r
  cases r1
  have ec := hcv _ r2
  subst ec
  obtain ⟨hget, _⟩ := I.pin (a, oe) (List.mem_append.mpr (.inl List.mem_cons_self))
  obtain ⟨vs, hv⟩ := hf
  obtain ⟨mA, hns, hr⟩ := (show ObjOk X.prog X.w H s.heap dd (.xd fs) from I.hok dd _ hd)
  obtain ⟨od, ho, hl⟩ := lookIn_ns hns
  have J : PySem.W.InstAt s.heap a oe C0 (some od) := ⟨hget, hz.1, by unfold PySem.W.notCls; rw [hv] <;> rfl, by rw [hz.2]; exact ho⟩
  exact PySem.W.kia_one (PySem.W.mp_kit C) I.kIn ⟨od, J⟩ e (fun z => nomatch z) fun tk => ⟨.bl k, H, I.kept (t' := tk) fun _ _ z => z, rfl, q⟩
theorem se_curIs {x y nm : Str} {A0 : Addr} {oe : Obj} {cls : Value} {d : Option Addr} {pn : List (Addr × Obj)} {i : Nat} {cV : V} {cv : Value} {fn : Gam → Nat → Bool} {p3 : Pos} {mm : ME} {t : Bool} (hk : EX X D) (T : XFacts X.K D) (hz : Zc cls d oe) (hf : ∃ vs, oe.data = .fields vs) (hN : X.N[i]? = some x) (hv : Vis X.env.scope x) (ok : okName x = true)
    (hx : nm = "isinstance") (hg : Gl X nm) (hm : X.mg nm = none) (hev : ∀ Γ c t σ h, evE Γ c t mm σ h = curIV Γ c (fn Γ) h) (hcl : PE (X.suite A0 ((A0, oe) :: pn)) (.Name y p2) (tC cV)) (hcv : ∀ u, RelV cV u → u = cv)
    (hkit : ∀ C f, D.Γ.exf C = some f → PySem.W.kitOne X.K (.ref (D.G.cls C)) cv = some (fn D.Γ C)) :
    SE (X.suite A0 ((A0, oe) :: pn)) D W (some (some i, A0, cls, d)) (.Call (.Name nm p) [.Name x p3, .Name y p2] [] pos) mm t := by
  subst hx
  obtain ⟨o1, o2, _⟩ := okName_ok ok
  refine pt_fin (PE.some fun τ H Q ⟨F, μ, σ, h, c, rs, S, hcu, w⟩ => ?_) hk.K (fun Γ c σ h => ⟨curIV Γ c (fn Γ) h, fun t => ?_⟩) (fun _ => rfl) (by intros; intro z; cases z) rfl
  · rw [hev] at w
    match c, hcu with
    | none, hcu => exact hcu.elim
    | some (C, d0), hcu =>
      obtain ⟨rfl, ⟨d', rfl, ed⟩, hsl⟩ := hcu
      unfold curIV at w
      simp only at w
      split at w
      · rename_i g v ho
        split at w
        · rename_i hs
          obtain ⟨f, ef⟩ := Option.isSome_iff_exists.mp hs
          obtain ⟨hM, ec, no⟩ := T.exf C f ef
          obtain ⟨_, v', rv, oa⟩ := S.obj _ _ _ ho ed
          refine ⟨_, pe_callB (call_isX ec hz hf) hg hm (by decide +kernel) (pa_cons (pe_var (X := X.suite A0 ((A0, oe) :: pn)) hN hv o1 o2) (pa_cons hcl pa_nil (star_of rfl)) (star_of rfl)) (by decide) (by decide) (star_of rfl) (by rw [star_of (e := Expr.Name y p2) rfl]; rfl), ?_⟩
          exact ⟨.ref A0, hsl i rfl, cV, cv, _, rfl, hcv, hkit C f ef, ⟨_, oa⟩, w.val S rfl⟩
        · exact w.elim
      · exact w.elim
  · rw [hev]
    cases t with
    | false => rw [bnd_fin]
    | true =>
      unfold curIV
      repeat' split
      all_goals rfl
end
end MP
end
section
set_option Elab.async false
set_option linter.all false
set_option maxRecDepth 100000
set_option maxHeartbeats 2000000
/-! own exceptions whose __init__ keeps its one argument in a field of the same name -/
namespace PySem
namespace MPX
open PySem.W PySem.Calls PyProof.Rows PySem.HandSPX Builtin Builtin.ObjectAttr
abbrev fV : Str := "value"
def vA (p1 p2 : Pos) : Arguments := { posonlyargs := [], args := [{ arg := "self", annotation := none, pos := p1 }, { arg := "value", annotation := none, pos := p2 }], vararg := none, kwonlyargs := [], kw_defaults := [], kwarg := none, defaults := [] }
def vB (q1 q2 q3 q4 : Pos) : List Stmt := [.Assign [.Attribute (.Name "self" q1) "value" q2] (.Name "value" q3) q4]
def vS : Scope := { kind := .function, names := [(PySem.Str.ofString "self", .local), (PySem.Str.ofString "value", .local)], isGenerator := false, isCoroutine := false, more := [] }
/-- own classes, then a built-in one's mro -/
def refsT (tl : List Value) : List Value → Bool
  | .ref _ :: r => refsT tl r
  | l => l == tl
theorem refsT_pass {tl : List Value} (hp : ∀ self, refuseLoop self "__setattr__" tl = pure ()) (self : Value) : ∀ l : List Value, refsT tl l = true → refuseLoop self "__setattr__" l = pure ()
  | [], e => by rw [show ([] : List Value) = tl from beq_iff_eq.mp e]; exact hp self
  | v :: r, e => by
    cases v with
    | ref c => rw [refuseLoop_ref]; exact refsT_pass hp self r e
    | _ => rw [beq_iff_eq.mp e]; exact hp self
theorem refsT_has {tl : List Value} (T : String) : ∀ l : List Value, refsT tl l = true → l.contains (.type T) = tl.contains (.type T)
  | [], e => by rw [show ([] : List Value) = tl from beq_iff_eq.mp e]
  | v :: r, e => by
    cases v with
    | ref c => rw [List.contains_cons, refsT_has T r e]; rfl
    | _ => rw [beq_iff_eq.mp e]
/-- what the written part says of the class, at C, and of its __init__, at fI -/
structure XT (Kf : Frag) (qual : Str) (C fI : Addr) : Prop where
  cls : ∃ B newId initId bmB nm q N bs bm sn sub ab col dd k0 k1 k2 k3 k5, ExcBaseFacts B newId initId bmB ∧ Kf.lookup C = some (excClassObj nm q C N bs bm true sn sub ab col dd k0 k1 k2 k3 k5 newId) ∧ (∀ T : String, bm.contains (.type T) = bmB.contains (.type T)) ∧
    bm.contains (.type "object") = true ∧ ∀ self, refuseLoop self "__setattr__" bm = pure ()
  sa : findIn Kf (.ref C) "__setattr__" = some (some (.builtin "object.__setattr__"))
  no : findIn Kf (.ref C) fV = some none
  ini : findIn Kf (.ref C) "__init__" = some (some (.ref fI))
  tyI : typeIn Kf (.ref fI) = some (.type "function")
  kp : keepIn Kf (.ref C) = true
  exB : subIn Kf (.ref C) (.type "BaseException") = some true
  tyC : typeIn Kf (.ref C) = some (.type "type")
  fn : ∃ (oc : Value) (od : Option Addr) (doc pm : Value) (an : Option Addr) (cdv ct : Value) (osl : Array (Option Value)) (p1 p2 q1 q2 q3 q4 : Pos),
    Kf.lookup fI = some ⟨oc, od, .func (fnOf "__init__" qual (vA p1 p2) (vB q1 q2 q3 q4) vS .none .none doc pm an cdv ct), osl⟩ ∧ codeIn Kf cdv qual = true
section
variable {prog : Program} {w : World} {A : Around} {E : Value → Shared → Prop} {R : Result → Shared → Prop} {hp : Heap} {g : Array GenState} {d : Drawn} {t : Nat} {os : OsState}
/-- the store of the first field -/
theorem xosa {Kf : Frag} {name : Str} {tk : Tok} {v : Value} {x C : Addr} {fv : Array Value} {cd : ClassData}
    (Xi : Kf.In hp) (hx : hp.get? x = some { cls := .ref C, data := .fields fv }) (hcd : W.clsIn Kf C = some cd) (ne : cd.mro.isEmpty = false) (hob : cd.mro.contains (.type "object") = true) (pass : ∀ self, refuseLoop self "__setattr__" cd.mro = pure ()) (hh : cd.hasDict = true) (ha : W.findIn Kf (.ref C) name = some none)
    (hq : ∀ h' tk' dx, (∀ b o, b ≠ x → hp.get? b = some o → h'.get? b = some o) → hp.objs.size ≤ dx → dx ≠ x → h'.get? x = some { cls := .ref C, dict := some dx, data := .fields fv } →
      h'.Ns1 dx (fun y => if y = name then some v else none) → R (.ok (.ret .none)) ⟨h', g, d, tk', os⟩) : codeAny (model prog w) A (.call (.builtin "object.__setattr__") ⟨[.ref x, .str name tk, v], []⟩) R ⟨hp, g, d, t, os⟩ := by
  have J : W.InstAt hp x { cls := .ref C, data := .fields fv } C none := ⟨hx, rfl, rfl, trivial⟩
  have SO := F.store_object
  have apart : x ≠ hp.objs.size := Nat.ne_of_lt (Heap.lt_size hx)
  have isO : W.Looks (model prog w) hp (isInstance (.ref x) (.type "object")) true := J.type.andThen (W.looks_mroIn Xi (by unfold W.mroIn; rw [hcd, Option.bind_some, if_neg (by rw [ne]; decide), hob]))
  refine codeAny_call_builtin SO.slot.plain SO.entry (@W.check_slot (model prog w) _ _ (Shared.mk hp g d t os) "object.__setattr__" "object" "__setattr__" (Value.ref x) [.str name tk, v] [] _ SO.kind SO.split isO (SO.args (Value.ref x) (.str name tk) v) ?_)
  have G1 : W.Looks (model prog w) hp (mroOf (.ref C)) cd.mro := (W.looks_clsIn Xi hcd).andThen .now
  have G2 : W.Looks (model prog w) hp (storeTaker? none) none := .now
  have G3 : W.Looks (model prog w) hp (classData C) cd := W.looks_clsIn Xi hcd
  rw [W.osa_eq, refuse_eq]; refine wpAny_bind (wpAny_bind (J.type.at (wpAny_bind (G1.at ?_))))
  rw [pass]; refine wpAny_pure (wpAny_bind (J.type.at (wpAny_bind ((W.looks_findIn Xi ha).at (wpAny_bind (G2.at ?_))))))
  show wpAny _ _ (storeInOwnDict (Value.ref x) (Value.ref C) (.str name tk) name v false) _ _ _
  obtain ⟨nm, bs, mro, ns, qn, hdc, sn, sb, ab, col, del⟩ := cd
  dsimp only at hh; subst hh
  unfold storeInOwnDict ownDictForStores; repeat (first | with_reducible refine store_in_new ?_ ?_ | with_reducible refine wpAny_loadPart_at hx ?_ | with_reducible refine G3.at ?_ | wp_step)
  · exact ⟨_, #[], _, (Heap.get?_update_ne _ _ _ _ apart.symm).trans (Heap.get?_push_at rfl rfl), rfl, fun e he => absurd he (by simp), fun _ => rfl⟩
  · intro h' tk' hn' hs
    have x1 : (hp.push { cls := .type "dict", data := .dict #[] }).get? x = some { cls := .ref C, data := .fields fv } := Heap.get?_push_of_some _ hx
    refine hq h' tk' hp.objs.size (fun b o hb ho => ?_) (Nat.le_refl _) apart.symm ?_ hn'
    · exact (hs.2 b (Nat.ne_of_lt (Heap.lt_size ho))).trans ((Heap.get?_update_ne _ _ _ _ hb).trans (Heap.get?_push_of_some _ ho))
    · exact (hs.2 x apart).trans (Heap.get?_update_self _ x1 rfl)
end
theorem oneFits (v : Value) : [v].length ≤ sizeLine := by rw [sizeLine_eq]; exact (by decide : 1 ≤ 16777216)
theorem ldL {M : Model} {s : Shared} {name : Str} {scope : Scope} {L a : Addr} {cd : Value} {m : Str → Option Value} {x : Str} {pos : Pos} {v : Value} {Q : Value → Shared → Prop} {A : Around} {E : Value → Shared → Prop} (hn : s.heap.Ns L m) (hv : m x = some v) (h : Q v s)
    (hk : scope.kind = .function := by rfl) (hl : (envOfC name scope L a cd).kindOf x = some .local := by rfl) (hd : (x == ("__debug__" : Str)) = false := by decide) : wpAny M A (eval (.Name x pos) (envOfC name scope L a cd)) Q E s := wpAny_Name (wpAny_loadName_local hk hl hn hv h) hd
/-- what __init__ leaves of a fresh one -/
structure IEnd (h h' : Heap) (x C dx t1 : Addr) (v : Value) : Prop where
  keep : ∀ b o, b ≠ x → h.get? b = some o → h'.get? b = some o
  obj : h'.get? x = some { cls := .ref C, dict := some dx, data := .fields #[.ref t1, .none, .none, .none, .bool false, .none] }
  big : h.objs.size ≤ dx
  ne : dx ≠ x
  ns : h'.Ns1 dx (fun y => if y = fV then some v else none)
/-- a made one -/
structure Made (h h' : Heap) (e C d : Addr) (v : Value) : Prop where
  keep : ∀ b o, h.get? b = some o → h'.get? b = some o
  new : h.objs.size ≤ e
  obj : ∃ oe vs, h'.get? e = some oe ∧ oe.cls = .ref C ∧ oe.dict = some d ∧ oe.data = .fields vs ∧ vs[1]? = some .none
  big : h.objs.size ≤ d
  ne : d ≠ e
  ns : h'.Ns1 d (fun y => if y = fV then some v else none)
section
variable {prog : Program} {w : World} {A : Around} {E : Value → Shared → Prop} {R : Result → Shared → Prop} {s : Shared} {Kf : Frag} {qual : Str} {C fI : Addr}
theorem x_init (T : XT Kf qual C fI) {x t0 : Addr} {v : Value} (Xi : Kf.In s.heap) (lim : s.heap.NoLimit) (hx : s.heap.get? x = some (excO C t0)) (hroom : A.depth < recursionLimit)
    (hq : ∀ h' tk dx, IEnd s.heap h' x C dx t0 v → R (.ok (.ret .none)) { s with heap := h', toks := tk }) : codeAny (model prog w) A (.call (.ref fI) ⟨[.ref x, v], []⟩) R s := by
  obtain ⟨oc, od, doc, pm, an, cdv, ct, osl, p1, p2, q1, q2, q3, q4, ho, hcd⟩ := T.fn
  obtain ⟨B, newId, initId, bmB, nm, q, N, bs, bm, sn, sub, ab, col, dd, k0, k1, k2, k3, k5, FB, hC, hT, hO, pass⟩ := T.cls
  have cl : clsIn Kf C = some { name := nm, bases := bs, mro := .ref C :: bm, ns := N, qualname := q, hasDict := true, slotNames := sn, subclasses := sub, abstract := ab, collection := col, hasDel := false } := by unfold clsIn; rw [hC] <;> rfl
  refine Att.call_fn (binds := [("self", .ref x), ("value", v)]) Xi lim ho hcd hroom (BindsTo.of_eq (by first | rfl | with_unfolding_all rfl)) (by first | rfl | decide | with_unfolding_all rfl) (fun s1 IC => ?_) rfl rfl rfl
  obtain ⟨h1, tk1, rfl⟩ := IC.toInCall.same
  have k : ∀ b o, s.heap.get? b = some o → h1.get? b = some o := IC.toInCall.keep
  have hn := IC.toInCall.ns
  have hxL : s.heap.objs.size ≠ x := Nat.ne_of_gt (Heap.lt_size hx)
  have X1 : Kf.In h1 := Xi.keeps k
  have hx1 := k _ _ hx
  show wpAny _ _ (execs _ _) _ _ _; refine wpAny_execs_cons (plainObj_wpAny_Assign_Attribute ?_)
  refine ldL (v := v) hn (by first | rfl | with_unfolding_all rfl | kernel_rfl) (ldL (v := .ref x) hn (by first | rfl | with_unfolding_all rfl | kernel_rfl) ?_)
  refine set_plain X1 (ox := excO C t0) (od := none) ⟨hx1, rfl, rfl, trivial⟩ T.sa ?_
  refine xosa X1 hx1 cl rfl (by show (Value.ref C :: bm).contains _ = true; rw [List.contains_cons, hO, Bool.or_true]) (fun self => by show refuseLoop self _ (Value.ref C :: bm) = _; rw [refuseLoop_ref]; exact pass self) rfl T.no (fun h3 tk3 dx k3 dn dne hx3 hn3 => ?_)
  show wpAny _ _ (execs _ _) _ _ _
  have z : s.heap.objs.size < h1.objs.size := hn.lt
  exact wpAny_execs_nil (hq h3 tk3 dx ⟨fun b o hb e => k3 b o hb (k b o e), hx3, Nat.le_of_lt (Nat.lt_of_lt_of_le z dn), dne, hn3⟩)
theorem x_made (T : XT Kf qual C fI) {v : Value} (Xi : Kf.In s.heap) (lim : s.heap.NoLimit) (hroom : A.depth + 1 < recursionLimit)
    (hq : ∀ h' tk e d, Made s.heap h' e C d v → R (.ok (.ret (.ref e))) { s with heap := h', toks := tk }) : codeAny (model prog w) A (.call (.ref C) ⟨[v], []⟩) R s := by
  obtain ⟨B, newId, initId, bmB, nm, q, N, bs, bm, sn, sub, ab, col, dd, k0, k1, k2, k3, k5, FB, hC, hT, hO, pass⟩ := T.cls
  obtain ⟨hp, g, dr, tk, os⟩ := s
  have k : ∀ b o, hp.get? b = some o → ((hp.push (kdv_tup [v])).push (excO C hp.objs.size)).get? b = some o := fun b o e => Heap.get?_push_of_some _ (Heap.get?_push_of_some _ e)
  have hget : ((hp.push (kdv_tup [v])).push (excO C hp.objs.size)).get? (hp.objs.size + 1) = some (excO C hp.objs.size) := by heap_get
  refine call_own FB hT (Xi _ _ hC) (looks_findIn Xi T.ini) (fun self => bind_fn Xi self T.tyI) (oneFits v) ?_
  refine x_init (s := ⟨(hp.push (kdv_tup [v])).push (excO C hp.objs.size), g, dr, tk, os⟩) T (Xi.keeps k) (lim.keeps k) hget ?_ fun h' tk' dx ⟨k', hx, dn, dne, hns⟩ => ?_
  · show A.depth + 1 < recursionLimit; exact hroom
  · have old : ∀ b o, hp.get? b = some o → h'.get? b = some o := fun b o e => k' b o (Nat.ne_of_lt (Nat.lt_succ_of_lt (Heap.lt_size e))) (k b o e)
    have z : hp.objs.size + 1 + 1 ≤ dx := by
      first
        | (simpa only [Heap.size_push] using dn)
        | exact dn
        | (have q := dn; rw [Heap.size_push, Heap.size_push] at q; exact q)
    exact ⟨rfl, hq h' tk' (hp.objs.size + 1) dx ⟨old, Nat.le_succ _, ⟨_, _, hx, rfl, rfl, rfl, rfl⟩, Nat.le_trans (Nat.le_trans (Nat.le_succ _) (Nat.le_succ _)) z, dne, hns⟩⟩
end
end MPX
end PySem
namespace MP
open PySem L2 PySem.MPX
theorem relO_v {v : V} {v' : Value} (r : RelV v v') (f : Str) : RelO (List.lookup f [(fV, v)]) (if f = fV then some v' else none) := by
  by_cases hw : f = fV
  · subst hw
    rw [if_pos rfl, show List.lookup fV [(fV, v)] = some v from by simp [List.lookup]]
    exact r
  · rw [if_neg hw, show List.lookup f [(fV, v)] = none from by simp [List.lookup, show (f == fV) = false from by simpa using hw]]
    trivial
section
variable {X : Cx} {D : Dat} {N : Nat} {W : WX} {R : CurR} {a : Expr} {ma : ME} {pos p pos2 : Pos}
/-- raise C(e) -/
theorem ss_raise {k C f : Nat} {fI : Addr} {x qual : Str} (E : EX X D) (hr : Room (2 * k + 1) X.A) (tk : Takes X W) (hc : X.calm = true) (T : XT X.K qual (D.G.cls C) fI) (hM : f < D.G.M) (hf : D.G.fld f = fV) (he : D.Γ.exf C = some f) (hd : (x == ("__debug__" : Str)) = false) (hg : Gl X x) (hm : X.mg x = some (.ref (D.G.cls C))) (ha : SE X D W R a ma false) :
    PS X (.Raise (some (.Call (.Name x p) [a] [] pos)) none pos2) (tS D N W R (.rais C ma)) := by
  have mk : PMk X (.Call (.Name x p) [a] [] pos) (fun τ H Q => tE D W R ma τ H fun v H1 => ∀ d, H1 d = none → Q (.ref (D.G.cls C)) (some d) (upd H1 d (.xd [(fV, v)]))) := by
    intro pins s τ H Q I z
    refine wpAny_Call_Name_kw (ld_glob I hg hm ?_ hd)
    refine PySem.W.callWith_K (h₀ := X.base) I.ok.mod.kin T.kp (PyProof.Rows.args_cons (thn (ha.pe.run pins s τ H _ I z) fun u s1 hh => PyProof.Rows.args_nil ?_) (star_of ha.ns)) (star_of ha.ns) rfl
    obtain ⟨v, H1, I1, rv, q1⟩ := hh
    refine ⟨I1.kIn, ?_⟩
    show wpAny _ _ (call (.ref (D.G.cls C)) [u]) _ _ _
    have lim := I1.nolimit
    obtain ⟨hp, g, dr, t0, os⟩ := s1
    refine wpAny_call (x_made T I1.kIn lim (by have := hr.dp; omega) fun h' tk' e d M => ?_)
    show MkP X pins τ Q (.ref e) ⟨h', g, dr, tk', os⟩
    obtain ⟨oe, fv, hoe, hcl, hdi, hdat, hn1⟩ := M.obj
    have hns := M.ns
    obtain ⟨G', g1, g2⟩ := restrict h' fun b => decide (b ≠ e)
    have gk : ∀ b, b ≠ e → G'.get? b = h'.get? b := fun b hb => g1 b (decide_eq_true hb)
    have ge : G'.get? e = none := g2 e (by simp)
    have old : ∀ b o, hp.get? b = some o → G'.get? b = some o := fun b o q => (gk b (Nat.ne_of_lt (Nat.lt_of_lt_of_le (Heap.lt_size q) M.new))).trans (M.keep b o q)
    have ob : ObjOk X.prog X.w (upd H1 d (.xd [(fV, v)])) G' d (.xd [(fV, v)]) := ⟨_, hns.at (fun o q => (gk d M.ne).trans q), fun f => relO_v rv f⟩
    have J : Inv X pins τ (upd H1 d (.xd [(fV, v)])) ⟨G', g, dr, tk', os⟩ := I1.laid (t' := tk') old M.big ob
    refine ⟨e, oe, fv, ⟨G', g, dr, tk', os⟩, _, .ref (D.G.cls C), some d, rfl, J, fun b o q => ?_, ge, hoe, ⟨hcl, hdi⟩, hdat, hn1, ?_, rfl, I1.bare, raises_own T.exB T.tyC, q1 d (I1.hok.fresh M.big)⟩
    · by_cases hb : b = e
      · have q' : G'.get? b = some o := q
        rw [hb, ge] at q'; cases q'
      · exact (gk b hb).symm.trans q
    · rw [upd_ne (Ne.symm M.ne)]
      exact I1.hok.fresh M.new
  refine (ps_raise hc tk mk).imp fun Dn τ H ⟨F, μ, σ, h, c, rs, S, hcu, w⟩ => ?_
  simp only [evS] at w
  refine ⟨F, μ, σ, h, c, rs, S, hcu, WP.imp (WPS.bE (rel := RV) w rs) fun v' H1 ⟨μ1, v, h1, p1, S1, rv, w1⟩ => fun d hd => ?_⟩
  unfold raisV at w1
  rw [he] at w1
  have w1 : WPS (D.G.wf F) W R c Dn μ1 (some (.ex C h1.length σ (h1 ++ [.xd f v]))) := w1
  refine w1 (μ1 ++ [d]) τ _ d len_pre ((rs.mono p1).mono len_pre) (S1.alloc hd ⟨hM, v', rv.mono len_pre, ?_⟩) ?_
  · show upd H1 d (.xd [(fV, v')]) d = some (.xd [(D.G.fld f, v')])
    rw [upd_same, hf]
  · rw [S1.len, List.getElem?_append_right (Nat.le_refl _)]; simp
end
end MP
end
section
set_option Elab.async false
set_option linter.all false
set_option maxHeartbeats 400000
namespace MP
open PySem L2 PySem.Spec
open PyProof.Rows hiding St
/-! ### a def by its body -/
theorem fnG_of {P : Program} {w : World} {Kf : PySem.W.Frag} {mg : Str → Option Value} {base : Heap} {k : Nat} {f : Addr} {x qual : Str} {st : Stmt} {fd : FuncData} {Ns ps : List Str} {sp : Sp} (Fu : Fun Kf x qual st f fd) (Sc : FnScope Ns ps (defScope st)) (len : ∀ vs H Q E, sp vs H Q E → vs.length = ps.length)
    (hbody : ∀ (cdv : Value) (A : Around) (outer : List Env) (s : Shared) (H : Hp) (vs : List V) (Q : VK) (E : XK), A.guards = some [] → Room k (A.deeper (envOfC qual (defScope st) s.heap.objs.size f cdv)) → sp vs H Q E →
      ∃ t, PSs (cxOf (L2.CX P w) P w Kf mg base Ns qual (defScope st) f cdv A outer s H E) (defBody st) t ∧ t { nx := fun _ H' => Q .non H', rt := Q } (start Ns vs) H) : FnG P w Kf mg base (k + 1) f fd ps sp := by
  obtain ⟨oc, od, kV, doc, pm, an, cdv, ct, osl, rfl, lk, hcd⟩ := Fu.ex
  refine ⟨len, fun A outer s H args us vs Q E hg hr e0 hb r y => ?_⟩
  have hl := len _ _ _ _ y
  have KX : Kf.In s.heap := e0.mod.kin.keeps fun b o e => (e0.bs b o e).1
  have lim : s.heap.NoLimit := e0.mod.nolimit.keeps fun b o e => (e0.bs b o e).1
  have kinds : ∀ z ∈ ps.zip us, (defScope st).names.lookup z.1 = some .local ∨ ((defScope st).names.lookup z.1 = some .cell ∧ ((cellsFrom (s.heap.objs.size + 1) (defScope st).names []).lookup z.1).isSome = true) := fun ⟨n, v⟩ hz => by
    rcases Sc.par n (List.of_mem_zip hz).1 with q | q
    · exact .inl q
    · exact .inr ⟨q, PySem.W.cellsFrom_some _ _ _ (.inl q)⟩
  refine codeAny_call_function hr.depth (KX _ _ lk) rfl Sc.co Sc.gen rfl (PySem.W.codeRec_of KX hcd) (hb _ _ _ _ ?_)
  refine wpAny_newFunctionEnv_cells Sc.kind kinds fun env he s1 xx => ?_
  subst he
  refine ⟨lim.keeps xx.toInCall.keep, codeAny_func ?_⟩
  obtain ⟨t, ht, hq⟩ := hbody cdv A outer s H vs Q E hg (hr.deeper _) y
  have I := inv_start (CX := L2.CX P w) (P := P) (w := w) (K := Kf) (mg := mg) (base := base) (E := E) Sc hr.hd e0 hl r xx
  refine wpAny_mono (ht.run [] s1 (start Ns vs) H _ I hq) (fun fl s' hs => ?_) fun e s' hs => hs
  have fin : ∀ {σ' : St} {H' : Hp} {v : V} {u : Value}, Inv (cxOf (L2.CX P w) P w Kf mg base Ns qual (defScope st) f cdv A outer s H E) [] σ' H' s' → RelV v u → Q v H' → CE outer P w H s Q u s' :=
    fun {σ' H' v u} J rv q => ⟨v, H', J.os, J.bare, J.base, J.hok, rv, q⟩
  match fl, hs with
  | .ret u, ⟨v, σ', H', J, rv, q⟩ => exact fin J rv q
  | .next, ⟨σ', H', J, q⟩ => exact fin (v := V.non) (u := Value.none) J rfl q
  | .brk, ⟨_, _, _, q⟩ => exact False.elim q
  | .cont, ⟨_, _, _, q⟩ => exact False.elim q
/-! ### the table -/
abbrev gof (Γ0 : Gam) : (Nat → List V → IH → EV V) → Gam := fun c => { Γ0 with call := c }
abbrev dk (G : Stat) (Γ0 : Gam) (nm : Nms) (T : Nat → Option FD) (fu k : Nat) : Dat := ⟨G, gof Γ0 (callN (gof Γ0) T fu k), nm, fun _ => none, fun _ => none⟩
structure DynS (Kf : PySem.W.Frag) (G : Stat) (Γ0 : Gam) (n : Nat → Bool) (adr : Nat → Addr) : Prop where
  init : ∀ C f, Γ0.init C = some f → n f = true ∧ Mk Kf (G.cls C) (adr f)
  callm : ∀ C f, Γ0.callm C = some f → n f = true ∧ Cls Kf (G.cls C) ∧ StX.CallO Kf (G.cls C) (adr f)
  prop : ∀ C x f, Γ0.prop C x = some f → n f = true ∧ ∃ p, Cls Kf (G.cls C) ∧ PropOf Kf (G.cls C) (G.fld x) p (adr f)
  meth : ∀ C x f, Γ0.meth C x = some f → n f = true ∧ x < G.M ∧ Cls Kf (G.cls C) ∧ Meth Kf (G.cls C) (G.fld x) (adr f)
  isF : ∀ C x, Γ0.isF C x = true → x < G.M ∧ Cls Kf (G.cls C) ∧ NoAttr Kf (G.cls C) (G.fld x)
  con : ∀ C x v, Γ0.con C x = some v → ∃ mc v' u, ClX.CRead Kf (G.cls C) mc ∧ ClX.CVal Kf (G.cls C) mc (G.fld x) v' u ∧ RV G.pre v v'
  cmeth : ∀ C x f c, Γ0.cmeth C x = some (f, true) → Γ0.clsAt C = some c → n f = true ∧ G.pre[c]? = some (G.cls C) ∧ ∃ mc p, ClX.CRead Kf (G.cls C) mc ∧ ClX.CMet Kf (G.cls C) mc (G.fld x) p (adr f)
  smeth : ∀ C x f, Γ0.cmeth C x = some (f, false) → n f = true ∧ ∃ mc p rest, ClX.CRead Kf (G.cls C) mc ∧ PySem.W.findCls Kf (.ref (G.cls C)) mc (G.fld x) = some (.get (.builtin "staticmethod.__get__") (.ref p) .none (.ref (G.cls C))) ∧
    PySem.W.recIn Kf p "staticmethod" = some (.ref (adr f) :: rest) ∧ PySem.W.keepIn Kf (.ref (adr f)) = true
section
variable {P : Program} {w : World} {Kf : PySem.W.Frag} {mg : Str → Option Value} {base : Heap} {G : Stat} {Γ0 : Gam} {nm : Nms} {T : Nat → Option FD} {n : Nat → Bool} {adr : Nat → Addr} {fu : Nat}
theorem DynS.dyn (h : DynS Kf G Γ0 n adr) {k : Nat} (tb : ∀ f, n f = true → FK P w Kf mg base (dk G Γ0 nm T fu k) k f (adr f)) : Dyn P w Kf mg base (dk G Γ0 nm T fu k) k where
  init := fun C f e => let ⟨a, b⟩ := h.init C f e; ⟨_, b, tb f a⟩
  callm := fun C f e => let ⟨a, b, c⟩ := h.callm C f e; ⟨_, b, c, tb f a⟩
  prop := fun C x f e => let ⟨a, p, b, c⟩ := h.prop C x f e; ⟨p, _, b, c, tb f a⟩
  meth := fun C x f e => let ⟨a, b, c, d⟩ := h.meth C x f e; ⟨b, _, c, d, tb f a⟩
  isF := h.isF
  con := h.con
  cmeth := fun C x f c e1 e2 => let ⟨a, b, mc, p, c, d⟩ := h.cmeth C x f c e1 e2; ⟨b, mc, p, _, c, d, tb f a⟩
  smeth := fun C x f e => let ⟨a, mc, p, r, b, c, d, e⟩ := h.smeth C x f e; ⟨mc, p, _, r, b, c, d, e, tb f a⟩
/-- a def of the table, as it stands -/
structure DefT (P : Program) (w : World) (Kf : PySem.W.Frag) (mg : Str → Option Value) (base : Heap) (G : Stat) (Γ0 : Gam) (nm : Nms) (T : Nat → Option FD) (n : Nat → Bool) (adr : Nat → Addr) (fu f : Nat) : Prop where
  ex : ∃ (d : FD) (Ns ps : List Str) (qual x : Str) (st : Stmt) (fd : FuncData), T f = some d ∧ Fun Kf x qual st (adr f) fd ∧ FnScope Ns ps (defScope st) ∧ Binds Kf fd ps [] ∧ d.np = ps.length ∧ d.ns = Ns.length ∧
    ∀ (k : Nat) (cdv : Value) (A : Around) (outer : List Env) (s : Shared) (H : Hp) (E : XK), (∀ g, n g = true → FK P w Kf mg base (dk G Γ0 nm T fu k) k g (adr g)) → Dyn P w Kf mg base (dk G Γ0 nm T fu k) k → A.guards = some [] → Room (2 * k + 1) (A.deeper (envOfC qual (defScope st) s.heap.objs.size (adr f) cdv)) →
      PSs (cxOf (L2.CX P w) P w Kf mg base Ns qual (defScope st) (adr f) cdv A outer s H E) (defBody st) (tB (dk G Γ0 nm T fu k) fu (fun c d _ H' => E c d H') none d.body)
theorem retOf_ok {G : Stat} {E : XK} {μ : List Addr} {r : ES} {Q : VK} (w : WP G (fun c d _ H' => E c d H') [] RV μ (retOf r) Q) : WPS G (fun c d _ H' => E c d H') none none { nx := fun _ H' => Q .non H', rt := Q } μ r := by
  match r, w with
  | some (.ok (.nx σ) h), w => exact fun μ' τ H p rs S _ => w μ' H .non p S rfl
  | some (.ok (.rt v) h), w => exact w
  | some (.ok (.bk σ) h), w => exact w.elim
  | some (.ok (.ct σ) h), w => exact w.elim
  | some (.ex C d σ h), w => exact fun μ' τ H d' p rs S e => w μ' H d' p S e
  | none, w => exact w.elim
theorem start_rs {μ : List Addr} {vs vs' : List V} {m : Nat} (r : RVs μ vs vs') : RS μ (vs.map some ++ List.replicate m none) (vs'.map some ++ List.replicate m none) := by
  refine Paired.app ?_ ?_
  · induction r with
    | nil => exact .nil
    | cons h t ih => exact .cons h ih
  · induction m with
    | zero => exact .nil
    | succ m ih => rw [List.replicate_succ]; exact .cons trivial ih
theorem step_FK (hd : DynS Kf G Γ0 n adr) {k f : Nat} (tb : ∀ g, n g = true → FK P w Kf mg base (dk G Γ0 nm T fu k) k g (adr g)) {d : FD} {Ns ps : List Str} {qual x : Str} {st : Stmt} {fd : FuncData} (e : T f = some d) (Fu : Fun Kf x qual st (adr f) fd) (Sc : FnScope Ns ps (defScope st)) (h1 : d.np = ps.length) (h2 : d.ns = Ns.length)
    (body : ∀ (k : Nat) (cdv : Value) (A : Around) (outer : List Env) (s : Shared) (H : Hp) (E : XK), (∀ g, n g = true → FK P w Kf mg base (dk G Γ0 nm T fu k) k g (adr g)) → Dyn P w Kf mg base (dk G Γ0 nm T fu k) k → A.guards = some [] → Room (2 * k + 1) (A.deeper (envOfC qual (defScope st) s.heap.objs.size (adr f) cdv)) →
      PSs (cxOf (L2.CX P w) P w Kf mg base Ns qual (defScope st) (adr f) cdv A outer s H E) (defBody st) (tB (dk G Γ0 nm T fu k) fu (fun c d _ H' => E c d H') none d.body)) : FnG P w Kf mg base (2 * (k + 1)) (adr f) fd ps (spI (dk G Γ0 nm T fu (k + 1)) f) := by
  have dy := hd.dyn (P := P) (w := w) (mg := mg) (base := base) (nm := nm) (T := T) (fu := fu) tb
  have rd : ∀ vs' H Q E, spI (dk G Γ0 nm T fu (k + 1)) f vs' H Q E → vs'.length = ps.length ∧ ∃ F μ h vs, Sim (G.wf F) μ h H ∧ RVs μ vs vs' ∧ WP (G.wf F) (fun c d _ H' => E c d H') [] RV μ (retOf (evB (gof Γ0 (callN (gof Γ0) T fu k)) fu none d.body (vs.map some ++ List.replicate (d.ns - d.np) none) h)) Q := by
    intro vs' H Q E ⟨F, μ, h, vs, S, rv, w⟩
    have w : WP (G.wf F) (fun c d _ H' => E c d H') [] RV μ (callN (gof Γ0) T fu (k + 1) f vs h) Q := w
    unfold callN at w
    rw [e] at w
    simp only at w
    split at w
    · rename_i hl
      exact ⟨by rw [← rv.length, hl, h1], F, μ, h, vs, S, rv, w⟩
    · exact w.elim
  refine fnG_of (k := 2 * k + 1) Fu Sc (fun vs H Q E z => (rd vs H Q E z).1) fun cdv A outer s H vs' Q E hg hr z => ?_
  obtain ⟨hl, F, μ, h, vs, S, rv, w⟩ := rd vs' H Q E z
  refine ⟨_, body k cdv A outer s H E tb dy hg hr, F, μ, _, h, none, ?_, S, trivial, retOf_ok w⟩
  unfold L2.start
  rw [hl, ← h1, ← h2]
  exact start_rs rv
theorem all_FK (hd : DynS Kf G Γ0 n adr) (ht : ∀ f, n f = true → DefT P w Kf mg base G Γ0 nm T n adr fu f) : ∀ k f, n f = true → FK P w Kf mg base (dk G Γ0 nm T fu k) k f (adr f)
  | 0, f, hf => by
    obtain ⟨d, Ns, ps, qual, x, st, fd, e, Fu, Sc, hb, h1, h2, body⟩ := (ht f hf).ex
    have no : ∀ vs H Q E, ¬ spI (dk G Γ0 nm T fu 0) f vs H Q E := fun vs H Q E ⟨_, _, _, _, _, _, w⟩ => w
    exact ⟨⟨fd, ps, ⟨fun vs H Q E z => (no _ _ _ _ z).elim, fun A outer s H args us vs Q E _ _ _ _ _ z => (no _ _ _ _ z).elim⟩, hb⟩⟩
  | k + 1, f, hf => by
    obtain ⟨d, Ns, ps, qual, x, st, fd, e, Fu, Sc, hb, h1, h2, body⟩ := (ht f hf).ex
    exact ⟨⟨fd, ps, step_FK hd (all_FK hd ht k) e Fu Sc h1 h2 body, hb⟩⟩
end
end MP
end
section
set_option Elab.async false
set_option linter.all false
set_option maxHeartbeats 400000
namespace MP
open PySem L2 PySem.Spec
open PyProof.Rows hiding St
/-- the law's call, from its def's promise where no guard runs -/
theorem lawG {P : Program} {w : World} {Kf : PySem.W.Frag} {mg mb : Str → Option Value} {k : Nat} {fa a : Addr} {fd : FuncData} {x : Str} {sp : Sp} {sh : Shared} {its : List Value} {ns : List Int}
    (KX : Kf.In sh.heap) (hns : sh.heap.Ns mainGlobals mg) (hb : sh.heap.Ns builtinsNs mb) (hbb : ∀ y : Str, y ≠ "__name__" → mb y = bootBuiltins y) (hlim : sh.heap.NoLimit) (hg : sh.gens = #[])
    (ha : sh.heap.get? a = some { cls := .type "list", data := .seq its.toArray }) (hi : IntsAre its ns) (hl : ns.length ≤ sizeLine) (hr : Room k callerA)
    (F : ∀ base : Heap, Kf.In base → base.Ns mainGlobals mg → FnG P w Kf mg base k fa fd [x] sp) (hbind : ∀ (s : Shared) (u : Value), BindsTo s fd ⟨[u], []⟩ [(x, u)])
    (hsp : ∀ H : Hp, Only H → SqL Kf H a (ns.map V.int) → sp [.ref a] H (fun v _ => v = .bl true) fun _ _ _ => False) :
    codeAny (model P w) callerA (.call (.ref fa) ⟨[.ref a], []⟩) (fun r s' => r = .ok (.ret (.bool true)) ∧ OldK sh.heap s'.heap ∧ s'.os = sh.os ∧ AllBare s'.gens) sh := by
  have rv := vals_ints hi
  have many := hi.length
  have core : ∀ H : Hp, Only H → SqL Kf H a (ns.map V.int) → HOk P w H sh.heap → (∀ b, H b ≠ none → b = a) → (H a ≠ none → Kf.lookup a = none) →
      codeAny (model P w) callerA (.call (.ref fa) ⟨[.ref a], []⟩) (fun r s' => r = .ok (.ret (.bool true)) ∧ OldK sh.heap s'.heap ∧ s'.os = sh.os ∧ AllBare s'.gens) sh := by
    intro H hO hS hok one away
    have low : ∀ {b : Addr} {o : Obj}, sh.heap.get? b = some o → H b = none → (hidT sh.heap H).get? b = some o := fun e n => hidT_get e n
    have other : ∀ {b : Addr}, b ≠ a → H b = none := fun {b} nb => by
      cases q : H b with
      | none => rfl
      | some u => exact absurd (one b (by rw [q]; simp)) nb
    have nsK : ∀ {b : Addr} {m : Str → Option Value}, sh.heap.Ns b m → (hidT sh.heap H).Ns b m := fun {b m} ⟨o, es, ep, e, d, r⟩ => ⟨o, es, ep, low e (other fun z => by
      rw [z, ha] at e
      cases e
      have d' : Data.seq its.toArray _ = Data.dict es ep := d
      cases d'), d, r⟩
    have hKb : Kf.In (hidT sh.heap H) := fun b o e => low (KX b o e) (by
      by_cases z : b = a
      · cases q : H b with
        | none => rfl
        | some u =>
          rw [z] at e q
          rw [away (by rw [q]; simp)] at e; cases e
      · exact other z)
    have hM : Mod Kf mg (hidT sh.heap H) := ⟨hKb, nsK hns, ⟨mb, nsK hb, hbb⟩, let ⟨mc, h1, h2⟩ := hlim; ⟨mc, nsK h1, h2⟩⟩
    have e0 : Env0 P w Kf mg (hidT sh.heap H) callerA [] sh H := ⟨rfl, hM, fun b o e => of_hidT e, Nat.le_of_eq (hidT_size _ _), trivial, fun b z => absurd (show b ∈ ([] : List Addr) from z) (by simp), hok, .of_eq hg⟩
    refine codeAny_mono ((F _ hKb (nsK hns)).run callerA [] sh H ⟨[.ref a], []⟩ [.ref a] [.ref a] _ _ rfl hr e0 (hbind sh (.ref a)) (.cons rfl .nil) (hsp H hO hS)) fun r s' y => ?_
    match r, y with
    | .error e, y =>
      obtain ⟨_, _, _, _, _, _, _, _, _, _, _, _, z⟩ := y
      exact z.elim
    | .ok .next, y => exact False.elim y
    | .ok .brk, y => exact False.elim y
    | .ok .cont, y => exact False.elim y
    | .ok (.ret u), y =>
      obtain ⟨v, H', os, bare, un, hok', r', q⟩ := y
      have q' : v = .bl true := q
      subst q'
      obtain rfl : u = Value.bool true := r'
      refine ⟨rfl, OldK.of_keep fun b o e => ?_, os, bare⟩
      cases q : H b with
      | none => exact un.keep b o e q (by intro z; exact absurd (show b ∈ ([] : List Addr) from z) (by simp)) (by simp)
      | some u =>
        rcases hO b with z | ⟨ob, xs, z⟩
        · rw [q] at z; cases z
        · have z2 := un.frzs b ob _ z
          obtain ⟨e1, _⟩ := hok b _ z
          obtain ⟨e2, _⟩ := hok' b _ z2
          rw [e] at e1; cases e1
          exact e2
  cases hk : Kf.lookup a with
  | some o =>
    have e := KX a o hk
    rw [ha] at e
    cases e
    exact core (fun _ => none) (fun _ => .inl rfl) (.inr ⟨_, its.toArray, _, hk, rfl, rfl, rfl, by rw [List.size_toArray, many]; exact hl, by simpa using rv⟩) (fun b u z => by have z' : (none : Option HO) = some u := z; cases z') (fun b z => absurd rfl z) fun z => absurd rfl z
  | none =>
    have at_ : ∀ b, (fun b => if b = a then some (HO.frz { cls := .type "list", data := .seq its.toArray } (.lst (ns.map V.int))) else none) b = if b = a then some (HO.frz { cls := .type "list", data := .seq its.toArray } (.lst (ns.map V.int))) else none := fun _ => rfl
    refine core (fun b => if b = a then some (.frz { cls := .type "list", data := .seq its.toArray } (.lst (ns.map V.int))) else none) (fun b => ?_) (.inl (.inr ⟨{ cls := .type "list", data := .seq its.toArray }, if_pos rfl⟩)) (fun b u z => ?_) (fun b z => ?_) fun _ => hk
    · by_cases hb : b = a
      · exact .inr ⟨_, _, if_pos hb⟩
      · exact .inl (if_neg hb)
    · by_cases hb : b = a
      · have z' := (if_pos hb).symm.trans z
        cases z'
        subst hb
        exact ⟨ha, by rw [List.length_map]; exact hl, its, _, rv, ha⟩
      · have z' := (if_neg hb).symm.trans z
        cases z'
    · by_cases hb : b = a
      · exact hb
      · exact absurd (if_neg hb) z
theorem rvs_ints {μ : List Addr} : ∀ ns : List Int, RVs μ (ns.map V.int) (ns.map V.int)
  | [] => .nil
  | _ :: ns => .cons rfl (rvs_ints ns)
/-- what stands ahead of the script in the interpreter's heap -/
structure PreOk (G : Stat) (h0 : IH) : Prop where
  len : h0.length = G.pre.length
  fr : G.fr = fun _ => none
  obj : ∀ (a : Nat) (o : IO) (b : Addr), h0[a]? = some o → G.pre[a]? = some b → mutb o = false ∧ ∀ (μ : List Addr) (H : Hp), G.pre <+: μ → ObjS G μ H b o
/-- the goal that the head leaves, from the interpreter's run -/
theorem walkG {l : PySem.W.OpenLaw} {q : Program} {loose : List Str} {XP : (Str → Option Value) → Heap → Prop} {YP : World → Heap → Prop} {d : DefRec} {K : Params → PySem.W.Frag} {Γ0 : Gam} {nm : Nms} {T : Nat → Option FD} {k fl fu : Nat} {x : Str} {h0 : IH}
    (hn : l.most = some 63) (hdf : d.params.defaults = []) (hr : Room (2 * k) callerA) (hY : ∀ (w : World) (h : Heap), YP w h → (K w.params).In h)
    (F : ∀ (w : World) (mg : Str → Option Value) (fa : Addr) (h : Heap), (K w.params).In h → h.Ns mainGlobals mg → mg d.name = some (.ref fa) →
      ∃ (fd : FuncData) (G : Stat), G.K = K w.params ∧ PreOk G h0 ∧ (∀ (s : Shared) (u : Value), BindsTo s fd ⟨[u], []⟩ [(x, u)]) ∧ ∀ base : Heap, (K w.params).In base → base.Ns mainGlobals mg → FnG l.prog w (K w.params) mg base (2 * k) fa fd [x] (spI (dk G Γ0 nm T fu k) fl))
    (run : ∀ ns : List Int, ns.length ≤ 63 → ∃ hE, callN (gof Γ0) T fu k fl [.ref h0.length] (h0 ++ [.flst (ns.map V.int)]) = some (.val (.bl true) hE)) :
    PySem.W.WalkO q loose XP YP l.row.toRowW d [] (fun f vs => PySem.call f vs) := by
  refine Att.attach_call hn hdf fun w s0 s1 mg mb fa o pm cd doc a vs ns Gr Y ho hd hcd hmg hobj hints hlen hg => ?_
  have KX := hY w _ Y
  obtain ⟨fd, G, eK, pre, hb, hF⟩ := F w mg fa _ KX Gr.T.g hmg
  refine lawG KX Gr.T.g Gr.T.b Gr.T.builtins Gr.T.nolimit hg hobj hints (Nat.le_trans hlen (by decide)) hr hF hb fun H hO hS => ?_
  obtain ⟨hE, e⟩ := run ns hlen
  have hl : (G.pre ++ [a])[h0.length]? = some a := by rw [pre.len, List.getElem?_append_right (Nat.le_refl _)]; simp
  have imm : ∀ (c : Nat) (o : IO) (b : Addr), (h0 ++ [IO.flst (ns.map V.int)])[c]? = some o → (G.pre ++ [a])[c]? = some b → mutb o = false ∧ ObjS G (G.pre ++ [a]) H b o := fun c o b e1 e2 => by
    by_cases hc : c < h0.length
    · rw [List.getElem?_append_left hc] at e1
      rw [List.getElem?_append_left (by rw [← pre.len]; exact hc)] at e2
      obtain ⟨h1, h2⟩ := pre.obj c o b e1 e2
      exact ⟨h1, h2 _ H (List.prefix_append _ _)⟩
    · rw [List.getElem?_append_right (by omega)] at e1
      have hz : c - h0.length = 0 := by
        obtain ⟨h1, _⟩ := List.getElem?_eq_some_iff.mp e1
        simpa using h1
      rw [hz] at e1
      simp at e1
      subst e1
      have hc2 : c = h0.length := by omega
      subst hc2
      rw [hl] at e2
      cases e2
      refine ⟨rfl, ns.map V.int, rvs_ints ns, ?_⟩
      · rcases hS with (z | z) | z
        · rcases hO a with y | ⟨_, _, y⟩ <;> (rw [z] at y; cases y)
        · exact .inl z
        · exact .inr fun _ => .inr (by rw [eK]; exact z)
  refine ⟨fun _ => none, G.pre ++ [a], h0 ++ [.flst (ns.map V.int)], [.ref h0.length], ⟨by simp [pre.len], fun c o b e1 e2 => ?_, fun c c' b o o' e1 e2 e3 e4 m1 _ => ?_, List.prefix_append _ _, fun b o z => (by cases z), fun _ _ _ _ _ _ => rfl⟩, .cons ⟨a, hl, rfl⟩ .nil, ?_⟩
  · have z := (imm c o b e1 e2).2
    cases o <;> exact z
  · rw [(imm c o b e1 e3).1] at m1; cases m1
  · show WP _ _ _ _ _ (callN (gof Γ0) T fu k fl [.ref h0.length] (h0 ++ [.flst (ns.map V.int)])) _
    rw [e]
    intro μ' H' v' _ _ r
    exact r
end MP
end
section
set_option Elab.async false
set_option linter.all false
set_option maxHeartbeats 1000000
/-! the interpreter's equations, one a constructor -/
namespace MP
open PySem
open L2 (V St Hp)
section
variable {α β : Type} {a : α} {h : IH} {C d : Nat} {k : α → IH → EV β} {k2 : α → IH → ES} {k3 : St → IH → ES} {σ : St} {v : V} {k4 : Nat → Nat → St → IH → ES} {i : Nat} {o : IO}
theorem v1 : bnd (some (.val a h)) k = k a h := rfl
theorem v2 : bnd (some (.exn C d h) : EV α) k = some (.exn C d h) := rfl
theorem v3 : bndN (some (.val a h)) k = k a h := rfl
theorem v4 : bE σ (some (.val a h)) k2 = k2 a h := rfl
theorem v5 : bE σ (some (.exn C d h) : EV α) k2 = some (.ex C d σ h) := rfl
theorem v6 : bS (some (.ok (.nx σ) h)) k3 = k3 σ h := rfl
theorem v7 : bS (some (.ok (.rt v) h)) k3 = some (.ok (.rt v) h) := rfl
theorem v8 : bS (some (.ex C d σ h)) k3 = some (.ex C d σ h) := rfl
theorem v9 : retOf (some (.ok (.rt v) h)) = some (.val v h) := rfl
theorem v10 : retOf (some (.ok (.nx σ) h)) = some (.val .non h) := rfl
theorem v11 : retOf (some (.ex C d σ h)) = some (.exn C d h) := rfl
theorem v12 : orX (some (.ex C d σ h)) k4 = k4 C d σ h := rfl
theorem v13 : orX (some (.ok (.rt v) h)) k4 = some (.ok (.rt v) h) := rfl
theorem v14 : unN i (some (.ok (.rt v) h)) = some (.ok (.rt v) h) := rfl
theorem v15 : nxt (some σ) h = some (.ok (.nx σ) h) := rfl
theorem v16 : fin false v h = some (.val v h) := rfl
theorem v18 {b : Bool} : fin true (.bl b) h = some (.val (.bl b) h) := rfl
theorem v17 : MP.new o h = some (.val (.ref h.length) (h ++ [o])) := rfl
theorem g1 : (h ++ [o])[h.length]? = some o := by simp
end
theorem e_var {Γ : Gam} {cur : Option (Nat × Nat)} {t : Bool} {σ : St} {h : IH} {i : Nat} : evE Γ cur t (.var i) σ h = (bnd (slotV σ i h) (fin t)) := by first | (simp only [evE]; done) | (simp only [evE]; rfl)
theorem e_glb {Γ : Gam} {cur : Option (Nat × Nat)} {t : Bool} {σ : St} {h : IH} {g : Nat} : evE Γ cur t (.glb g) σ h = (bnd (optV (Γ.glob g) h) (fin t)) := by first | (simp only [evE]; done) | (simp only [evE]; rfl)
theorem e_cst {Γ : Gam} {cur : Option (Nat × Nat)} {t : Bool} {σ : St} {h : IH} {v : V} : evE Γ cur t (.cst v) σ h = (fin t v h) := by first | (simp only [evE]; done) | (simp only [evE]; rfl)
theorem e_lst {Γ : Gam} {cur : Option (Nat × Nat)} {t : Bool} {σ : St} {h : IH} {es : MA} : evE Γ cur t (.lst es) σ h = (bnd (bnd (evA Γ cur es σ h) listV) (fin t)) := by first | (simp only [evE]; done) | (simp only [evE]; rfl)
theorem e_tup {Γ : Gam} {cur : Option (Nat × Nat)} {t : Bool} {σ : St} {h : IH} {es : MA} : evE Γ cur t (.tup es) σ h = (bnd (bnd (evA Γ cur es σ h) tupV) (fin t)) := by first | (simp only [evE]; done) | (simp only [evE]; rfl)
theorem e_bin {Γ : Gam} {cur : Option (Nat × Nat)} {t : Bool} {σ : St} {h : IH} {op : Operator} {a b : ME} : evE Γ cur t (.bin op a b) σ h = (bnd (bnd (evE Γ cur false a σ h) fun x h1 => bnd (evE Γ cur false b σ h1) fun y h2 => binop op x y h2) (fin t)) := by first | (simp only [evE]; done) | (simp only [evE]; rfl)
theorem e_neg {Γ : Gam} {cur : Option (Nat × Nat)} {t : Bool} {σ : St} {h : IH} {a : ME} : evE Γ cur t (.neg a) σ h = (bnd (bnd (evE Γ cur false a σ h) negV) (fin t)) := by first | (simp only [evE]; done) | (simp only [evE]; rfl)
theorem e_cmp {Γ : Gam} {cur : Option (Nat × Nat)} {t : Bool} {σ : St} {h : IH} {op : CmpOp} {a b : ME} : evE Γ cur t (.cmp op a b) σ h = (bnd (bnd (evE Γ cur false a σ h) fun x h1 => bnd (evE Γ cur false b σ h1) fun y h2 => cmpop op x y h2) (fin t)) := by first | (simp only [evE]; done) | (simp only [evE]; rfl)
theorem e_cmp2 {Γ : Gam} {cur : Option (Nat × Nat)} {t : Bool} {σ : St} {h : IH} {op op' : CmpOp} {a b c : ME} : evE Γ cur t (.cmp2 op op' a b c) σ h = (bnd (evE Γ cur false a σ h) fun x h1 => bnd (evE Γ cur false b σ h1) fun y h2 => bnd (cmpop op x y h2) fun z h3 => match z with
    | .bl true => bnd (evE Γ cur false c σ h3) fun w h4 => bnd (cmpop op' y w h4) (fin t)
    | .bl false => ret (.bl false) h3
    | _ => none) := by first | (simp only [evE]; done) | (simp only [evE]; rfl)
theorem e_andE {Γ : Gam} {cur : Option (Nat × Nat)} {t : Bool} {σ : St} {h : IH} {a b : ME} : evE Γ cur t (.andE a b) σ h = (bnd (evE Γ cur t a σ h) fun x h1 => match x with
    | .bl true => evE Γ cur t b σ h1
    | .bl false => ret (.bl false) h1
    | _ => none) := by first | (simp only [evE]; done) | (simp only [evE]; rfl)
theorem e_orE {Γ : Gam} {cur : Option (Nat × Nat)} {t : Bool} {σ : St} {h : IH} {a b : ME} : evE Γ cur t (.orE a b) σ h = (bnd (evE Γ cur t a σ h) fun x h1 => match x with
    | .bl false => evE Γ cur t b σ h1
    | .bl true => ret (.bl true) h1
    | _ => none) := by first | (simp only [evE]; done) | (simp only [evE]; rfl)
theorem e_notE {Γ : Gam} {cur : Option (Nat × Nat)} {t : Bool} {σ : St} {h : IH} {a : ME} : evE Γ cur t (.notE a) σ h = (bnd (evE Γ cur t a σ h) notV) := by first | (simp only [evE]; done) | (simp only [evE]; rfl)
theorem e_ife {Γ : Gam} {cur : Option (Nat × Nat)} {t : Bool} {σ : St} {h : IH} {c a b : ME} : evE Γ cur t (.ife c a b) σ h = (bnd (evE Γ cur true c σ h) fun k h1 => match k with
    | .bl true => bnd (evE Γ cur false a σ h1) (fin t)
    | .bl false => bnd (evE Γ cur false b σ h1) (fin t)
    | _ => none) := by first | (simp only [evE]; done) | (simp only [evE]; rfl)
theorem e_ix {Γ : Gam} {cur : Option (Nat × Nat)} {t : Bool} {σ : St} {h : IH} {a b : ME} : evE Γ cur t (.ix a b) σ h = (bnd (bnd (evE Γ cur false a σ h) fun x h1 => bnd (evE Γ cur false b σ h1) fun y h2 => getix x y h2) (fin t)) := by first | (simp only [evE]; done) | (simp only [evE]; rfl)
theorem e_sl {Γ : Gam} {cur : Option (Nat × Nat)} {t : Bool} {σ : St} {h : IH} {a : ME} {lo hi : MO} : evE Γ cur t (.sl a lo hi) σ h = (bnd (bnd (evE Γ cur false a σ h) fun x h1 => bnd (evO Γ cur lo σ h1) fun l h2 => bnd (evO Γ cur hi σ h2) fun r h3 => getsl x l r h3) (fin t)) := by first | (simp only [evE]; done) | (simp only [evE]; rfl)
theorem e_att {Γ : Gam} {cur : Option (Nat × Nat)} {t : Bool} {σ : St} {h : IH} {a : ME} {f : Nat} : evE Γ cur t (.att a f) σ h = (bnd (bnd (evE Γ cur false a σ h) (attV Γ f)) (fin t)) := by first | (simp only [evE]; done) | (simp only [evE]; rfl)
theorem e_call {Γ : Gam} {cur : Option (Nat × Nat)} {t : Bool} {σ : St} {h : IH} {f : Nat} {es : MA} : evE Γ cur t (.call f es) σ h = (bnd (bnd (evA Γ cur es σ h) fun vs h1 => Γ.call f vs h1) (fin t)) := by first | (simp only [evE]; done) | (simp only [evE]; rfl)
theorem e_make {Γ : Gam} {cur : Option (Nat × Nat)} {t : Bool} {σ : St} {h : IH} {C : Nat} {es : MA} : evE Γ cur t (.make C es) σ h = (bnd (bnd (evA Γ cur es σ h) (makeV Γ C)) (fin t)) := by first | (simp only [evE]; done) | (simp only [evE]; rfl)
theorem e_met {Γ : Gam} {cur : Option (Nat × Nat)} {t : Bool} {σ : St} {h : IH} {o : ME} {m : Nat} {es : MA} : evE Γ cur t (.met o m es) σ h = (bnd (bnd (evE Γ cur false o σ h) fun x h1 => match methF Γ m x h1 with
    | some f => bnd (evA Γ cur es σ h1) fun vs h2 => Γ.call f (x :: vs) h2
    | none => none) (fin t)) := by first | (simp only [evE]; done) | (simp only [evE]; rfl)
theorem e_clm {Γ : Gam} {cur : Option (Nat × Nat)} {t : Bool} {σ : St} {h : IH} {C m : Nat} {es : MA} : evE Γ cur t (.clm C m es) σ h = (bnd (match Γ.cmeth C m, Γ.clsAt C with
    | some (f, true), some c => bnd (evA Γ cur es σ h) fun vs h1 => Γ.call f (.ref c :: vs) h1
    | some (f, false), _ => bnd (evA Γ cur es σ h) fun vs h1 => Γ.call f vs h1
    | _, _ => none) (fin t)) := by first | (simp only [evE]; done) | (simp only [evE]; rfl)
theorem e_callv {Γ : Gam} {cur : Option (Nat × Nat)} {t : Bool} {σ : St} {h : IH} {i : Nat} {es : MA} : evE Γ cur t (.callv i es) σ h = (bnd (bnd (slotV σ i h) fun x h0 => match calV Γ x h0 with
    | some c => bnd (evA Γ cur es σ h0) (runCal Γ c)
    | none => none) (fin t)) := by first | (simp only [evE]; done) | (simp only [evE]; rfl)
theorem e_bi {Γ : Gam} {cur : Option (Nat × Nat)} {t : Bool} {σ : St} {h : IH} {b : Bif} {es : MA} : evE Γ cur t (.bi b es) σ h = (bnd (bnd (evA Γ cur es σ h) (bifn b)) (fin t)) := by first | (simp only [evE]; done) | (simp only [evE]; rfl)
theorem e_bm {Γ : Gam} {cur : Option (Nat × Nat)} {t : Bool} {σ : St} {h : IH} {m : Bm} {o : ME} {es : MA} : evE Γ cur t (.bm m o es) σ h = (bnd (bnd (evE Γ cur false o σ h) fun x h1 => if bmTy m x h1 = true then bnd (evA Γ cur es σ h1) fun vs h2 => bmeth m x vs h2 else none) (fin t)) := by first | (simp only [evE]; done) | (simp only [evE]; rfl)
theorem e_isI {Γ : Gam} {cur : Option (Nat × Nat)} {t : Bool} {σ : St} {h : IH} {a : ME} {ty : Ty} : evE Γ cur t (.isI a ty) σ h = (bnd (evE Γ cur false a σ h) (tyV Γ [ty])) := by first | (simp only [evE]; done) | (simp only [evE]; rfl)
theorem e_isIs {Γ : Gam} {cur : Option (Nat × Nat)} {t : Bool} {σ : St} {h : IH} {a : ME} {ts : List Ty} : evE Γ cur t (.isIs a ts) σ h = (bnd (evE Γ cur false a σ h) (tyV Γ ts)) := by first | (simp only [evE]; done) | (simp only [evE]; rfl)
theorem e_curF {Γ : Gam} {cur : Option (Nat × Nat)} {t : Bool} {σ : St} {h : IH} {f : Nat} : evE Γ cur t (.curF f) σ h = (bnd (curV Γ cur f h) (fin t)) := by first | (simp only [evE]; done) | (simp only [evE]; rfl)
theorem e_curI {Γ : Gam} {cur : Option (Nat × Nat)} {t : Bool} {σ : St} {h : IH} {D : Nat} : evE Γ cur t (.curI D) σ h = (curIV Γ cur (fun C => Γ.sub C D) h) := by first | (simp only [evE]; done) | (simp only [evE]; rfl)
theorem e_curB {Γ : Gam} {cur : Option (Nat × Nat)} {t : Bool} {σ : St} {h : IH} {D : Nat} : evE Γ cur t (.curB D) σ h = (curIV Γ cur (fun C => Γ.subB C D) h) := by first | (simp only [evE]; done) | (simp only [evE]; rfl)
theorem e_dct {Γ : Gam} {cur : Option (Nat × Nat)} {t : Bool} {σ : St} {h : IH} {kvs : List (L2.Key × V)} : evE Γ cur t (.dct kvs) σ h = (bnd (new (.dic (L2.mergeK [] kvs)) h) (fin t)) := by first | (simp only [evE]; done) | (simp only [evE]; rfl)
def lcRun (Γ : Gam) (ws : List Nat) (elt : ME) (tg : MT) (c : MO) (σ : St) (is : Its) (h : IH) : EV V := bndN (loopC (turnC tg ws σ (evC Γ c) (evE Γ none false elt)) is.gd is.xs h) listV
theorem e_lc {Γ : Gam} {cur : Option (Nat × Nat)} {t : Bool} {σ : St} {h : IH} {ws : List Nat} {elt : ME} {tg : MT} {it : MI} {c : MO} : evE Γ cur t (.lc ws elt tg it c) σ h = bnd (bnd (evI Γ cur it σ h) (lcRun Γ ws elt tg c σ)) (fin t) := by first | (simp only [evE]; done) | (simp only [evE]; rfl)
theorem z4 : (4 : Nat) ≤ sizeLine := by rw [sizeLine_eq]; decide
theorem loopC_map {γ : Type} {l : List γ} {F : γ → V × Option V} {h : IH} {gd : List (Nat × MP.IO)} {f : V × Option V → IH → EV (Option V)} {g : γ → V} (hg : okG h gd = true) (hf : ∀ x ∈ l, f (F x) h = some (.val (some (g x)) h)) : loopC f gd (l.map F) h = some (.val (l.map g) h) := by
  induction l with
  | nil => simp [loopC, hg]
  | cons x xs ih =>
    have e1 := hf x List.mem_cons_self
    have e2 := ih fun y hy => hf y (List.mem_cons_of_mem _ hy)
    simp only [List.map_cons]
    unfold loopC
    simp only [hg, if_true, e1, v3, e2]
    rfl
theorem eq_int {a b : Int} {h : IH} : eqOp (.int a) (.int b) h = some (decide (a = b)) := by
  have s1 : ∀ a : Int, SeqAt.shaped (.int a) = true := fun a => by
    unfold SeqAt.shaped
    first | rfl | simp [PyData.canLay0, PyData.depth]
  have s2 : PyData.eqv (.int a) (.int b) = decide (a = b) := by
    first | rfl | (simp [PyData.eqv]; rfl)
  simp [eqOp, toD, s1, s2]
theorem loopC_filter {γ : Type} {l : List γ} {F : γ → V × Option V} {h : IH} {gd : List (Nat × IO)} {f : V × Option V → IH → EV (Option V)} {p : γ → Bool} {g : γ → V} (hg : okG h gd = true) (hf : ∀ x ∈ l, f (F x) h = some (.val (if p x = true then some (g x) else none) h)) : loopC f gd (l.map F) h = some (.val ((l.filter p).map g) h) := by
  induction l with
  | nil => simp [loopC, hg]
  | cons x xs ih =>
    have e1 := hf x List.mem_cons_self
    have e2 := ih fun y hy => hf y (List.mem_cons_of_mem _ hy)
    simp only [List.map_cons]
    unfold loopC
    simp only [hg, if_true, e1, v3, e2]
    cases hp : p x with
    | true => simp [hp, List.filter_cons]
    | false => simp [hp, List.filter_cons]
theorem toD_lst {h : IH} {n a : Nat} {xs : List V} (e : h[a]? = some (.lst xs)) : toD h (n + 1) (.ref a) = (dataL (toD h n) xs).map .list := by
  unfold toD
  simp only [e]
theorem toD_lstS {h : IH} {n a : Nat} {cs : List Str} (e : h[a]? = some (.lst (cs.map V.str))) (dd : ∀ n, dataL (toD h (n + 1)) (cs.map V.str) = some (cs.map PyData.str)) : toD h (n + 2) (.ref a) = some (.list (cs.map PyData.str)) := by
  rw [toD_lst e, dd]
  rfl
theorem dataL_strs {h : IH} {n : Nat} : ∀ cs : List Str, dataL (toD h (n + 1)) (cs.map V.str) = some (cs.map PyData.str)
  | [] => rfl
  | c :: r => by
    have e1 : toD h (n + 1) (.str c) = some (.str c) := by simp [toD]
    have e2 := dataL_strs (h := h) (n := n) r
    simp only [List.map_cons, dataL, e1, e2]
theorem shaped_strs {cs : List Str} (hc : ∀ c ∈ cs, PyData.canLay0 (.str c) = true) : SeqAt.shaped (.list (cs.map PyData.str)) = true := by
  have h1 : ∀ cs : List Str, (∀ c ∈ cs, PyData.canLay0 (.str c) = true) → PyData.canLayAll0 (cs.map PyData.str) = true := by
    intro cs
    induction cs with
    | nil => intro _; rfl
    | cons c r ih =>
      intro hc
      rw [List.map_cons]
      unfold PyData.canLayAll0
      rw [hc c List.mem_cons_self, ih fun d hd => hc d (List.mem_cons_of_mem _ hd)]
      rfl
  have h2 : ∀ cs : List Str, PyData.depthAll (cs.map PyData.str) = 0 := by
    intro cs
    induction cs with
    | nil => rfl
    | cons c r ih =>
      rw [List.map_cons]
      unfold PyData.depthAll
      rw [ih]
      rfl
  unfold SeqAt.shaped
  rw [show PyData.canLay0 (.list (cs.map PyData.str)) = PyData.canLayAll0 (cs.map PyData.str) from by simp [PyData.canLay0], h1 cs hc, show PyData.depth (.list (cs.map PyData.str)) = PyData.depthAll (cs.map PyData.str) + 1 from by simp [PyData.depth], h2]
  rfl
theorem eqvAll_refl_strs : ∀ cs : List Str, PyData.eqvAll (cs.map PyData.str) (cs.map PyData.str) = true
  | [] => by simp [PyData.eqvAll]
  | c :: r => by simp [PyData.eqvAll, PyData.eqv, eqvAll_refl_strs r]
end MP
end
section
set_option Elab.async false
set_option linter.all false
set_option maxHeartbeats 400000
namespace MP
open PySem L2 PySem.MPX
/-- the names of the text, by lists: defs, classes, constants, built-ins; the own exceptions -/
structure Lst where
  cl : List (Nat × Str)
  kl : List (Nat × Str)
  gl : List (Nat × Str)
  bl : List Str
  xl : List (Nat × String)
structure NZ (k : Nat) (X : Cx) (D : Dat) (L : Lst) (adr : Nat → Addr) : Prop where
  cf : ∀ p ∈ L.cl, X.mg p.2 = some (.ref (adr p.1)) ∧ PySem.W.keepIn X.K (.ref (adr p.1)) = true ∧ FK X.prog X.w X.K X.mg X.base D k p.1 (adr p.1)
  kf : ∀ p ∈ L.kl, X.mg p.2 = some (.ref (D.G.cls p.1)) ∧ PySem.W.keepIn X.K (.ref (D.G.cls p.1)) = true
  kI : ∀ C f, D.Γ.init C = some f → PySem.W.keepIn X.K (.ref (D.G.cls C)) = true
  gf : ∀ p ∈ L.gl, ∃ v v' u, D.Γ.glob p.1 = some v ∧ X.mg p.2 = some u ∧ RelV v' u ∧ RV D.G.pre v v'
  bf : ∀ x ∈ L.bl, X.mg x = none
  xf : XFacts X.K D
  xt : ∀ C f, D.Γ.exf C = some f → f < D.G.M ∧ D.G.fld f = fV ∧ ∃ qual fI, XT X.K qual (D.G.cls C) fI
  xm : ∀ p ∈ L.kl, ∀ C f, D.Γ.exf C = some f → (p.1 ≠ p.1) ∨ PySem.W.exmOne X.K (.ref (D.G.cls C)) (.ref (D.G.cls p.1)) = some (D.Γ.sub C p.1) ∨ D.Γ.clsAt p.1 ≠ none
  xk : ∀ p ∈ L.kl, ∀ C f, D.Γ.exf C = some f → PySem.W.kitOne X.K (.ref (D.G.cls C)) (.ref (D.G.cls p.1)) = some (D.Γ.sub C p.1) ∨ D.Γ.clsAt p.1 ≠ none
  xb : ∀ p ∈ L.xl, ∀ C f, D.Γ.exf C = some f → PySem.W.kitOne X.K (.ref (D.G.cls C)) (.type p.2) = some (D.Γ.subB C p.1)
structure EZ (k : Nat) (X : Cx) (D : Dat) (W : WX) (L : Lst) (adr : Nat → Addr) : Prop extends EY k X D W, NZ k X D L adr where
  nd : X.N.Nodup
theorem EZ.blk {k : Nat} {X : Cx} {D : Dat} {W : WX} {L : Lst} {adr : Nat → Addr} (q : EZ k X D W L adr) {s : Shared} {H : Hp} {scope : Scope} {cenv : Env} {fp : List Addr} : EZ k (X.blk s H scope cenv fp) D WF L adr where
  K := q.K
  gd := q.gd
  un := q.un
  rm := q.rm
  tk := takes0
  cm := q.cm
  dy := q.dy
  cf := q.cf
  kf := q.kf
  kI := q.kI
  gf := q.gf
  bf := q.bf
  xf := q.xf
  xt := q.xt
  xm := q.xm
  xk := q.xk
  xb := q.xb
  nd := q.nd
theorem EZ.tr {k : Nat} {X : Cx} {D : Dat} {W W' : WX} {L : Lst} {adr : Nat → Addr} (q : EZ k X D W L adr) {pn : List (Addr × Obj)} {xe : Value → Shared → Prop} (tk : Takes (X.tr pn xe) W') : EZ k (X.tr pn xe) D W' L adr where
  K := q.K
  gd := q.gd
  un := q.un
  rm := q.rm
  tk := tk
  cm := q.cm
  dy := q.dy
  cf := q.cf
  kf := q.kf
  kI := q.kI
  gf := q.gf
  bf := q.bf
  xf := q.xf
  xt := q.xt
  xm := q.xm
  xk := q.xk
  xb := q.xb
  nd := q.nd
/-- within an except suite -/
structure ES' (k : Nat) (X : Cx) (D : Dat) (L : Lst) (adr : Nat → Addr) : Prop extends EX X D, NZ k X D L adr where
  nd : X.N.Nodup
theorem EZ.suite {k : Nat} {X : Cx} {D : Dat} {W : WX} {L : Lst} {adr : Nat → Addr} (q : EZ k X D W L adr) {a : Addr} {pn : List (Addr × Obj)} : ES' k (X.suite a pn) D L adr where
  K := q.K
  gd := q.gd
  un := q.un
  cf := q.cf
  kf := q.kf
  kI := q.kI
  gf := q.gf
  bf := q.bf
  xf := q.xf
  xt := q.xt
  xm := q.xm
  xk := q.xk
  xb := q.xb
  nd := q.nd
theorem EZ.sx {k : Nat} {X : Cx} {D : Dat} {W : WX} {L : Lst} {adr : Nat → Addr} (q : EZ k X D W L adr) : ES' k X D L adr := { q.toEX, q.toNZ with nd := q.nd }
section
variable {X : Cx} {D : Dat} {N : Nat} {W : WX} {R : CurR} {L : Lst} {adr : Nat → Addr} {k : Nat} {e a b o : Expr} {m ma mb mo : ME} {pos p p2 apos : Pos} {t : Bool} {es : List Expr} {ms : MA}
theorem z_var {i : Nat} {x : Str} (q : ES' k X D L adr) (hN : X.N[i]? = some x) (hv : Vis X.env.scope x) (ok : okName x = true) : SE X D W R (.Name x pos) (.var i) t := (se_var q.K hN hv ok).any
theorem z_int {i : Int} {j : Nat} (q : ES' k X D L adr) : SE X D W R (.Constant (.int i) j pos) (.cst (.int i)) t := (se_cst q.K pe_int (by intro a z; cases z) (fun _ => rfl) (by intros; intro z; cases z) rfl).any
theorem z_str {i : Str} {j : Nat} (q : ES' k X D L adr) : SE X D W R (.Constant (.str i) j pos) (.cst (.str i)) t := (se_cst q.K pe_str (by intro a z; cases z) (fun _ => rfl) (by intros; intro z; cases z) rfl).any
theorem z_bl {i : Bool} {j : Nat} (q : ES' k X D L adr) : SE X D W R (.Constant (.bool i) j pos) (.cst (.bl i)) t := (se_cst q.K pe_bl (by intro a z; cases z) (fun _ => rfl) (by intros; intro z; cases z) rfl).any
theorem z_non {j : Nat} (q : ES' k X D L adr) : SE X D W R (.Constant .none j pos) (.cst .non) t := (se_cst q.K pe_non (by intro a z; cases z) (fun _ => rfl) (by intros; intro z; cases z) rfl).any
theorem z_glb {g : Nat} {x : Str} (q : ES' k X D L adr) (hx : (g, x) ∈ L.gl) (hg : Gl X x) (hd : (x == ("__debug__" : Str)) = false) : SE X D W R (.Name x pos) (.glb g) t := by
  obtain ⟨v, v', u, e, hm, r, rv⟩ := q.gf _ hx
  exact se_glb q.toEX hg hm r rv e hd
theorem z_bin {op : Operator} (q : ES' k X D L adr) (ha : SE X D W R a ma false) (hb : SE X D W R b mb false) : SE X D W R (.BinOp a op b pos) (.bin op ma mb) t := (se_bin q.K ha.pe hb.pe).any
theorem z_neg (q : ES' k X D L adr) (ha : SE X D W R a ma false) : SE X D W R (.UnaryOp .USub a pos) (.neg ma) t := (se_neg q.K ha.pe).any
theorem z_cmp {op : CmpOp} (q : ES' k X D L adr) (ha : SE X D W R a ma false) (hb : SE X D W R b mb false) (hm : behindInMarks op b = false) : SE X D W R (.Compare a [op] [b] pos) (.cmp op ma mb) t := (se_cmp q.K q.un ha.pe hb.pe hm).any
theorem z_cmp2 {op op' : CmpOp} {c : Expr} {mc : ME} (q : ES' k X D L adr) (ha : SE X D W R a ma false) (hb : SE X D W R b mb false) (hc : SE X D W R c mc false) (hm : behindInMarks op' c = false) : SE X D W R (.Compare a [op, op'] [b, c] pos) (.cmp2 op op' ma mb mc) t := (se_cmp2 q.K q.un ha.pe hb.pe hc.pe hm).any
theorem z_call {f : Nat} {x : Str} (q : EZ k X D W L adr) (hx : (f, x) ∈ L.cl) (hd : (x == ("__debug__" : Str)) = false) (hg : Gl X x) (ha : SA X D W R (e :: es) ms) : SE X D W R (.Call (.Name x p) (e :: es) [] pos) (.call f ms) t := by
  obtain ⟨h1, h2, h3⟩ := q.cf _ hx
  exact se_call q.toEY hd hg h1 h2 h3 ha
theorem z_make {C : Nat} {x : Str} (q : EZ k X D W L adr) (hx : (C, x) ∈ L.kl) (hd : (x == ("__debug__" : Str)) = false) (hg : Gl X x) (ha : SA X D W R (e :: es) ms) : SE X D W R (.Call (.Name x p) (e :: es) [] pos) (.make C ms) t := by
  obtain ⟨h1, h2⟩ := q.kf _ hx
  exact se_make q.toEY hd hg h1 h2 ha
theorem z_biB {B : Bif} {id : String} {x : Str} (q : ES' k X D L adr) (hc : X.calm = true ∨ bifHot B = true) (nb : B ≠ .lenSet ∧ B ≠ .sorted) (hv : bifV B = .builtin id) (hx : x ∈ L.bl) (hg : Gl X x) (hb : bootBuiltins x = some (.builtin id)) (ok : okName x = true) (ha : SA X D W R (e :: es) ms) : SE X D W R (.Call (.Name x p) (e :: es) [] pos) (.bi B ms) t := se_biB q.toEX hc nb hv hg (q.bf _ hx) hb ok ha
theorem z_biT {B : Bif} {id : String} {x : Str} (q : ES' k X D L adr) (hc : X.calm = true ∨ bifHot B = true) (nb : B ≠ .lenSet ∧ B ≠ .sorted) (hv : bifV B = .type id) (hx : x ∈ L.bl) (hg : Gl X x) (hb : bootBuiltins x = some (.type id)) (ok : okName x = true) (ha : SA X D W R (e :: es) ms) : SE X D W R (.Call (.Name x p) (e :: es) [] pos) (.bi B ms) t := se_biT q.toEX hc nb hv hg (q.bf _ hx) hb ok ha
theorem z_lenSet {x y : Str} {q0 : Pos} (q : ES' k X D L adr) (hc : X.calm = true) (hx : x = "len") (hy : y = "set") (b1 : x ∈ L.bl) (b2 : y ∈ L.bl) (hg : Gl X x) (hg2 : Gl X y) (ha : SE X D W R a ma false) :
    SE X D W R (.Call (.Name x p) [.Call (.Name y p2) [a] [] q0] [] pos) (.bi .lenSet (.cons ma .nil)) t := se_lenSet q.toEX hc hx hy hg (q.bf _ b1) hg2 (q.bf _ b2) ha
theorem z_isI {x y : Str} {T : BT} (q : ES' k X D L adr) (hx : x = "isinstance") (b1 : x ∈ L.bl) (hg : Gl X x) (ha : SE X D W R a ma false) (hg2 : Gl X y) (b2 : y ∈ L.bl) (hb : bootBuiltins y = some (.type (btN T))) (ok : okName y = true) : SE X D W R (.Call (.Name x p) [a, .Name y p2] [] pos) (.isI ma (.b T)) t :=
  se_isI q.toEX hx hg (q.bf _ b1) ha (.cons hg2 (q.bf _ b2) hb ok .nil)
theorem z_isI2 {x y z : Str} {T U : BT} {q1 q2 : Pos} {x1 : Nat} (q : ES' k X D L adr) (hx : x = "isinstance") (b1 : x ∈ L.bl) (hg : Gl X x) (ha : SE X D W R a ma false) (hg2 : Gl X y) (b2 : y ∈ L.bl) (hb : bootBuiltins y = some (.type (btN T))) (ok : okName y = true)
    (hg3 : Gl X z) (b3 : z ∈ L.bl) (hb3 : bootBuiltins z = some (.type (btN U))) (ok3 : okName z = true) : SE X D W R (.Call (.Name x p) [a, .Tuple [.Name y q1, .Name z q2] x1 p2] [] pos) (.isIs ma [.b T, .b U]) t :=
  se_isIs (T := T) (ts := [T, U]) q.toEX hx hg (q.bf _ b1) ha (.cons hg2 (q.bf _ b2) hb ok (.cons hg3 (q.bf _ b3) hb3 ok3 .nil)) (by simp)
theorem z_rng1 {x : Str} {tg : Expr} (q : ES' k X D L adr) (hx : x = "range") (b1 : x ∈ L.bl) (hg : Gl X x) (ha : SE X D W R a ma false) : PI X tg (.Call (.Name x p) [a] [] pos) (tI D W R (.rng1 ma)) := si_rng1 hx hg (q.bf _ b1) ha
theorem z_enum {x : Str} {elts : List Expr} {kk : Nat} {tpos : Pos} (q : ES' k X D L adr) (hx : x = "enumerate") (b1 : x ∈ L.bl) (hg : Gl X x) (ha : SE X D W R a ma false) : PI X (.Tuple elts kk tpos) (.Call (.Name x p) [a] [] pos) (tI D W R (.enum ma)) := si_enum q.K hx hg (q.bf _ b1) ha
theorem z_raise {C : Nat} {x : Str} (q : EZ k X D W L adr) (hx : (C, x) ∈ L.kl) (he : (D.Γ.exf C).isSome = true) (hd : (x == ("__debug__" : Str)) = false) (hg : Gl X x) (ha : SE X D W R a ma false) : PS X (.Raise (some (.Call (.Name x p) [a] [] pos)) none p2) (tS D N W R (.rais C ma)) := by
  obtain ⟨f, ef⟩ := Option.isSome_iff_exists.mp he
  obtain ⟨h1, h2, qual, fI, T⟩ := q.xt C f ef
  exact ss_raise (k := k) q.toEX q.rm q.tk q.cm T h1 h2 ef hd hg (q.kf _ hx).1 ha
theorem z_clm {x : Str} {C n : Nat} {mname : Str} {pl : Sem Bool} (q : EZ k X D W L adr) (hx : (C, x) ∈ L.kl) (hd : (x == ("__debug__" : Str)) = false) (hg : Gl X x) (hn : D.G.fld n = mname) (ha : SA X D W R (e :: es) ms)
    (ht : eval (.Call (.Attribute (.Name x p) mname apos) (e :: es) [] pos) X.env = (do
      let ov ← eval (.Name x p) X.env
      standAt apos.atName
      let (q, first) ← holding [ov] (getMethod ov mname pl)
      callWith pos q first (backTo pos (starEach (e :: es) X.env)) (backToKw pos (keywordEach [] X.env)))) : SE X D W R (.Call (.Attribute (.Name x p) mname apos) (e :: es) [] pos) (.clm C n ms) t := se_clm q.toEY hd hg (q.kf _ hx).1 hn ha ht
theorem z_try {x n : Str} {i C : Nat} {body suite : List Stmt} {b₀ : Stmt} {np pos' : Pos} {b1 b2 : MB} (q : EZ k X D W L adr) (hs : X.stack = X.env :: X.outer) (hf : X.env.frame = some X.env.locals) (hi : X.N[i]? = some n) (hln : X.env.kindOf n = some .local) (hx : (C, x) ∈ L.kl) (hC : D.Γ.clsAt C = none) (hd : (x == ("__debug__" : Str)) = false) (hg : Gl X x)
    (hb : ∀ (W' : WX) (pn : List (Addr × Obj)) (xe : Value → Shared → Prop), EZ k (X.tr pn xe) D W' L adr → PassesOwn (model X.prog X.w) X.A X.env xe → PSs (X.tr pn xe) body (tB D N W' none b1))
    (hsu : ∀ (a : Addr) (oe : Obj) (cls : Value) (d : Option Addr) (pn : List (Addr × Obj)), Zc cls d oe → (∃ vs, oe.data = .fields vs) → ES' k (X.suite a ((a, oe) :: pn)) D L adr → PSs (X.suite a ((a, oe) :: pn)) (b₀ :: suite) (tB D N WF (some (some i, a, cls, d)) b2)) :
    PS X (.Try body [.ExceptHandler (some (.Name x np)) (some n) (b₀ :: suite) pos'] [] [] pos) (tS D N W none (.tryS b1 (.cons C (some i) b2 .nil))) :=
  ss_try hs hf q.nd hi hln ⟨hg, hd, .inl (q.kf _ hx).1⟩ q.tk (fun C' f e => ((q.xm _ hx C' f e).resolve_left (fun z => z rfl)).resolve_right (fun z => z hC)) (fun W' pn xe tk hp => hb W' pn xe (q.tr tk) hp) (fun a oe cls d pn hz hf => hsu a oe cls d pn hz hf q.suite)
theorem z_curI {x y nm : Str} {A0 : Addr} {oe : Obj} {cls : Value} {d : Option Addr} {pn : List (Addr × Obj)} {i C : Nat} (q : ES' k (X.suite A0 ((A0, oe) :: pn)) D L adr) (hz : Zc cls d oe) (hf : ∃ vs, oe.data = .fields vs) (hN : X.N[i]? = some x) (hv : Vis X.env.scope x) (ok : okName x = true)
    (hx : nm = "isinstance") (b1 : nm ∈ L.bl) (hg : Gl X nm) (hy : (C, y) ∈ L.kl) (hC : D.Γ.clsAt C = none) (hg2 : Gl X y) (hd : (y == ("__debug__" : Str)) = false) :
    SE (X.suite A0 ((A0, oe) :: pn)) D W (some (some i, A0, cls, d)) (.Call (.Name nm p) [.Name x p2, .Name y apos] [] pos) (.curI C) t :=
  se_curIs (X := X) (fn := fun Γ C' => Γ.sub C' C) (cv := .ref (D.G.cls C)) (cV := .ref (D.G.cls C)) ⟨q.K, q.gd, q.un⟩ q.xf hz hf hN hv ok hx hg (q.bf _ b1) (fun _ _ _ _ _ => by simp only [evE]) (pe_glob hg2 (q.kf _ hy).1 rfl hd) (fun u r => r) (fun C' f e => (q.xk _ hy C' f e).resolve_right fun z => z hC)
theorem z_curF {x nm : Str} {A0 : Addr} {oe : Obj} {cls : Value} {d : Option Addr} {pn : List (Addr × Obj)} {i f : Nat} (q : ES' k (X.suite A0 ((A0, oe) :: pn)) D L adr) (hz : Zc cls d oe) (hf : ∃ vs, oe.data = .fields vs) (hN : X.N[i]? = some x) (hv : Vis X.env.scope x) (ok : okName x = true) (hn : D.G.fld f = nm)
    (hb : attributeBase (.Name x p) nm X.env (eval (.Name x p) X.env) = eval (.Name x p) X.env) : SE (X.suite A0 ((A0, oe) :: pn)) D W (some (some i, A0, cls, d)) (.Attribute (.Name x p) nm pos) (.curF f) t := se_curF (X := X) ⟨q.K, q.gd, q.un⟩ q.xf hz hf hN hv ok hn hb
theorem z_curB {x y nm : Str} {A0 : Addr} {oe : Obj} {cls : Value} {d : Option Addr} {pn : List (Addr × Obj)} {i B : Nat} {T : String} (q : ES' k (X.suite A0 ((A0, oe) :: pn)) D L adr) (hz : Zc cls d oe) (hf : ∃ vs, oe.data = .fields vs) (hN : X.N[i]? = some x) (hv : Vis X.env.scope x) (ok : okName x = true)
    (hx : nm = "isinstance") (b1 : nm ∈ L.bl) (hg : Gl X nm) (b2 : y ∈ L.bl) (hb : bootBuiltins y = some (.type T)) (ok2 : okName y = true) (hg2 : Gl X y) (hk : (B, T) ∈ L.xl) :
    SE (X.suite A0 ((A0, oe) :: pn)) D W (some (some i, A0, cls, d)) (.Call (.Name nm p) [.Name x p2, .Name y apos] [] pos) (.curB B) t := by
  obtain ⟨o1, _, o3⟩ := okName_ok ok2
  exact se_curIs (X := X) (fn := fun Γ C' => Γ.subB C' B) (cv := .type T) (cV := .ty T) ⟨q.K, q.gd, q.un⟩ q.xf hz hf hN hv ok hx hg (q.bf _ b1) (fun _ _ _ _ _ => by simp only [evE]) (pe_bltn hg2 (q.bf _ b2) hb (v := .ty _) rfl o3 o1) (fun u r => r) (q.xb _ hk)
end
end MP
end
section
set_option Elab.async false
set_option linter.all false
set_option maxHeartbeats 400000
namespace MP
open PySem L2 PySem.MPX
mutual
def gT (Kf : PySem.W.Frag) : MT → TG
  | .nm i => gName i
  | .tup ts => gTup Kf (lnTs ts) (gTs Kf ts)
def gTs (Kf : PySem.W.Frag) : MTs → TGs
  | .nil => gNil
  | .cons t r => gCons (gT Kf t) (gTs Kf r)
end
section
variable {X : Cx} {D : Dat} {N : Nat} {W : WX} {R : CurR} {L : Lst} {adr : Nat → Addr} {k : Nat} {e a b o elt iter tg : Expr} {m ma mb mo me melt : ME} {mt : MT} {mi : MI} {mc : MO} {pos p p2 apos spos : Pos} {t : Bool} {es : List Expr} {ms : MA} {g : TG} {b1 b2 : MB}
theorem z_asg {i : Nat} {x : Str} (q : ES' k X D L adr) (hi : X.N[i]? = some x) (hx : Loc X.env.scope x) (hf : X.fn x = true ∨ X.env.scope.names.lookup x = some .local) (he : SE X D W R e me false) (hs : swapsWith e (some (.Name x p)) spos.line X.env = pure false) (hR : RNot R [i]) : PS X (.Assign [.Name x p] e spos) (tS D N W R (.asg (.nm i) me)) :=
  ss_asg (sg_nm (pos := p) q.nd hi hx hf) (ps_set q.nd hi hx he.pe hs hf) (by simpa only [slT] using hR)
theorem z_for {body : List Stmt} (q : EZ k X D W L adr) (hp : PassesOwn (model X.prog X.w) X.A X.env X.xe) (hi : PI X tg iter (tI D W R mi)) (hg : SG X D tg mt (gT X.K mt)) (hb : PSs X body (tB D N W R b1)) (hs : ∀ x, foldedSetIterable iter X.env x = pure x) (hR : RNot R (slT mt)) : PS X (.For tg iter body [] pos) (tS D N W R (.forS mt mi b1)) := ss_for hp q.cm hi hg hb hs hR
def ownOf (Ns : List Str) (ws : List Nat) : List (Str × Nat) := ws.map fun i => (Ns.getD i "", i)
theorem ownOf_ws {Ns : List Str} {ws : List Nat} : (ownOf Ns ws).map (·.2) = ws := by
  unfold ownOf
  rw [List.map_map]
  exact List.map_id _
theorem z_lc {ifs : List Expr} {scope : Scope} {ws : List Nat} (q : EZ k X D W L adr) (hi : PI X tg iter (tI D W R mi)) (ok : blkC X.N X.env.scope scope (ownOf X.N ws) = true)
    (hg : ∀ (s : Shared) (H : Hp) (C : Addr) (cl : List (Str × Addr)) (fp : List Addr), EZ k (X.blk s H scope (compEnvC scope cl C X.env) fp) D WF L adr → SG (X.blk s H scope (compEnvC scope cl C X.env) fp) D tg mt (gT X.K mt))
    (ht : ∀ (s : Shared) (H : Hp) (C : Addr) (cl : List (Str × Addr)) (fp : List Addr), EZ k (X.blk s H scope (compEnvC scope cl C X.env) fp) D WF L adr → PTs (X.blk s H scope (compEnvC scope cl C X.env) fp) ifs (tCo D mc))
    (he : ∀ (s : Shared) (H : Hp) (C : Addr) (cl : List (Str × Addr)) (fp : List Addr), EZ k (X.blk s H scope (compEnvC scope cl C X.env) fp) D WF L adr → SE (X.blk s H scope (compEnvC scope cl C X.env) fp) D WF none elt melt false)
    (hs : ∀ x, foldedSetIterable iter X.env x = pure x) (hws : ∀ j ∈ slT mt, j ∈ ws) : SE X D W R (.ListComp elt [⟨tg, iter, ifs, 0⟩] scope pos) (.lc ws melt mt mi mc) t :=
  se_lc q.toEX q.cm q.nd hi (blkOk_by ok) (fun s H C cl fp => hg s H C cl fp q.blk) (fun s H C cl fp => ht s H C cl fp q.blk) (fun s H C cl fp => he s H C cl fp q.blk) hs ownOf_ws hws
theorem z_sgn {i : Nat} {x : Str} (hN : X.N.Nodup) (hi : X.N[i]? = some x) (hx : Loc X.env.scope x) (hf : X.fn x = true ∨ X.env.scope.names.lookup x = some .local) {Kf : PySem.W.Frag} : SG X D (.Name x pos) (.nm i) (gT Kf (.nm i)) := by
  simp only [gT]
  exact sg_nm hN hi hx hf
theorem z_sgs0 {Kf : PySem.W.Frag} : SGs X D [] .nil (gTs Kf .nil) := by
  simp only [gTs]
  exact sgs_nil
theorem z_sgs {m : MT} {ms : MTs} {Kf : PySem.W.Frag} (h1 : SG X D e m (gT Kf m)) (h2 : SGs X D es ms (gTs Kf ms)) (hs : (assignEach (e :: es) X.env).map (·.2) = assign e X.env :: (assignEach es X.env).map (·.2)) : SGs X D (e :: es) (.cons m ms) (gTs Kf (.cons m ms)) := by
  simp only [gTs]
  exact sgs_cons h1 h2 hs
theorem z_sgt {ms : MTs} {k0 : Nat} (hK : X.K = D.G.K) (hc : X.calm = true) (h : SGs X D es ms (gTs X.K ms)) (hn : (assignEach es X.env).length = es.length) (hst : (assignEach es X.env).findIdx? (·.1) = none) : SG X D (.Tuple es k0 pos) (.tup ms) (gT X.K (.tup ms)) := by
  simp only [gT]
  rw [h.ln]
  exact sg_tup hK hc h hn hst
theorem z_par {i j : Nat} {x y : Str} {px py pt : Pos} {kt k2 : Nat} {pt2 : Pos} (q : EZ k X D W L adr) (hi : X.N[i]? = some x) (hj : X.N[j]? = some y) (hij : i ≠ j)
    (hx : X.env.scope.names.lookup x = some .local) (hy : X.env.scope.names.lookup y = some .local) (ha : SA X D W R [a, b] ms)
    (hw : swappedStores [.Tuple [.Name x px, .Name y py] kt pt] (.Tuple [a, b] k2 pt2) X.env = pure (some [x, y]))
    (hs : swapsWithSole [.Tuple [.Name x px, .Name y py] kt pt] (.Tuple [a, b] k2 pt2) pos.line X.env = pure false) (hR : RNot R [i, j]) :
    PS X (.Assign [.Tuple [.Name x px, .Name y py] kt pt] (.Tuple [a, b] k2 pt2) pos) (tS D N W R (.par (.tup (.cons (.nm i) (.cons (.nm j) .nil))) ms)) := ss_par q.cm q.nd hi hj hij hx hy ha hw hs hR
theorem z_fld {f : Nat} {x : Str} (q : EZ k X D W L adr) (hf : D.G.fld f = x) (ho : SE X D W R o mo false) (he : SE X D W R e me false) (hs : swapsWith e (some (.Attribute o x p)) pos.line X.env = pure false) : PS X (.Assign [.Attribute o x p] e pos) (tS D N W R (.asgA mo f me)) := ss_fld q.dy hf ho he hs
theorem z_callv {x : Str} {i : Nat} (q : EZ k X D W L adr) (hN : X.N[i]? = some x) (hv : Vis X.env.scope x) (ok : okName x = true) (ha : SA X D W R (e :: es) ms) : SE X D W R (.Call (.Name x p) (e :: es) [] pos) (.callv i ms) t := se_callv q.toEY hN hv ok q.kI ha
end
end MP
end
section
set_option Elab.async false
set_option linter.all false
set_option maxHeartbeats 400000
namespace MP
open PySem L2 PySem.MPX
open PyProof.Rows (envOfC)
/-- what the written part says of the names -/
structure SF (Kf : PySem.W.Frag) (mg : Str → Option Value) (G : Stat) (Γ0 : Gam) (L : Lst) (adr : Nat → Addr) (n : Nat → Bool) : Prop where
  eK : G.K = Kf
  cf : ∀ p ∈ L.cl, mg p.2 = some (.ref (adr p.1)) ∧ PySem.W.keepIn Kf (.ref (adr p.1)) = true ∧ n p.1 = true
  kf : ∀ p ∈ L.kl, mg p.2 = some (.ref (G.cls p.1)) ∧ PySem.W.keepIn Kf (.ref (G.cls p.1)) = true
  kI : ∀ C f, Γ0.init C = some f → PySem.W.keepIn Kf (.ref (G.cls C)) = true
  gf : ∀ p ∈ L.gl, ∃ v v' u, Γ0.glob p.1 = some v ∧ mg p.2 = some u ∧ RelV v' u ∧ RV G.pre v v'
  bf : ∀ x ∈ L.bl, mg x = none
  xt : ∀ C f, Γ0.exf C = some f → f < G.M ∧ G.fld f = fV ∧ ExcC Kf (G.cls C) ∧ ∃ qual fI, XT Kf qual (G.cls C) fI
  xm : ∀ p ∈ L.kl, ∀ C f, Γ0.exf C = some f → PySem.W.exmOne Kf (.ref (G.cls C)) (.ref (G.cls p.1)) = some (Γ0.sub C p.1) ∨ Γ0.clsAt p.1 ≠ none
  xk : ∀ p ∈ L.kl, ∀ C f, Γ0.exf C = some f → PySem.W.kitOne Kf (.ref (G.cls C)) (.ref (G.cls p.1)) = some (Γ0.sub C p.1) ∨ Γ0.clsAt p.1 ≠ none
  xb : ∀ p ∈ L.xl, ∀ C f, Γ0.exf C = some f → PySem.W.kitOne Kf (.ref (G.cls C)) (.type p.2) = some (Γ0.subB C p.1)
theorem SF.ez {P : Program} {w : World} {Kf : PySem.W.Frag} {mg : Str → Option Value} {base : Heap} {G : Stat} {Γ0 : Gam} {nm : Nms} {T : Nat → Option FD} {L : Lst} {adr : Nat → Addr} {n : Nat → Bool} {fu k : Nat} {Ns ps : List Str} {qual : Str} {sc : Scope} {a : Addr} {cdv : Value} {A : Around} {outer : List Env} {s : Shared} {H : Hp} {E : XK}
    (h : SF Kf mg G Γ0 L adr n) (Sc : FnScope Ns ps sc) (tb : ∀ g, n g = true → FK P w Kf mg base (dk G Γ0 nm T fu k) k g (adr g)) (dy : Dyn P w Kf mg base (dk G Γ0 nm T fu k) k) (hg : A.guards = some []) (hr : Room (2 * k + 1) (A.deeper (envOfC qual sc s.heap.objs.size a cdv))) :
    EZ k (cxOf (L2.CX P w) P w Kf mg base Ns qual sc a cdv A outer s H E) (dk G Γ0 nm T fu k) (fun c d _ H' => E c d H') L adr where
  K := h.eK.symm
  gd := hg
  un := hr.units
  rm := hr
  tk := takes_of rfl rfl rfl rfl
  cm := rfl
  dy := dy
  cf := fun p hp => ⟨(h.cf p hp).1, (h.cf p hp).2.1, tb _ (h.cf p hp).2.2⟩
  kf := h.kf
  kI := h.kI
  gf := h.gf
  bf := h.bf
  xf := ⟨fun C f e => ⟨(h.xt C f e).1, (h.xt C f e).2.2.1, by
    obtain ⟨_, e2, _, qual, fI, T⟩ := h.xt C f e
    show PySem.W.findIn Kf (.ref (G.cls C)) (G.fld f) = some none
    rw [e2]
    exact T.no⟩⟩
  xt := fun C f e => ⟨(h.xt C f e).1, (h.xt C f e).2.1, (h.xt C f e).2.2.2⟩
  xm := fun p hp C f e => .inr (h.xm p hp C f e)
  xk := h.xk
  xb := h.xb
  nd := Sc.nd
theorem exm_of' {K : PySem.W.Frag} {C : Addr} {cls : Value} {b : Bool} (h1 : PySem.W.subIn K (.ref C) (.type "BaseException") = some true) (hdct : PySem.W.hasDictIn K C = true) (ht : PySem.W.typeIn K (.ref C) = some (.type "type")) (h4 : PySem.W.subIn K cls (.ref C) = some b) : PySem.W.exmOne K cls (.ref C) = some b := PySem.W.exm_ref h1 hdct ht h4
theorem kit_ref {K : PySem.W.Frag} {C : Addr} {cls : Value} {b : Bool} (hdct : PySem.W.hasDictIn K C = true) (ht : PySem.W.typeIn K (.ref C) = some (.type "type")) (h4 : PySem.W.subIn K cls (.ref C) = some b) (hs : (cls == .ref C) = true → b = true) : PySem.W.kitOne K cls (.ref C) = some b := by
  obtain ⟨cd, hc, _⟩ := PySem.W.any_some hdct
  unfold PySem.W.kitOne
  split
  · rename_i e
    rw [hs e]
  · have e2 : ((PySem.W.clsIn K C).isSome && PySem.W.typeIn K (.ref C) == some (.type "type")) = true := by rw [hc, ht] <;> rfl
    show (if ((PySem.W.clsIn K C).isSome && PySem.W.typeIn K (.ref C) == some (.type "type")) = true then PySem.W.subIn K cls (.ref C) else none) = some b
    rw [if_pos e2]
    exact h4
theorem tup_pre {G : Stat} {b : Addr} {its : List Value} {n : Nat} {sl : Array (Option Value)} {xs : List V} (hk : G.K.lookup b = some ⟨.type "tuple", none, .seq its.toArray n, sl⟩) (hl : its.length ≤ sizeLine) (r : Vals xs its) (hf : ∀ μ : List Addr, RVs μ xs xs) (μ : List Addr) (H : Hp) : ObjS G μ H b (.tup xs true) :=
  ⟨xs, hf μ, .inr ⟨fun H' => .inr ⟨_, its.toArray, n, hk, rfl, rfl, by rw [List.size_toArray]; exact hl, by simpa using r⟩, fun _ H' => .inr (.inl ⟨rfl, _, hk, rfl, rfl⟩)⟩⟩
end MP
end
section
set_option Elab.async false
set_option linter.all false
set_option maxRecDepth 20000
namespace K02
open PySem L2 MP
/-- InvalidStatement.__init__: self value -/
def f1 : FD := ⟨2, 2, (.cons (.asgA (.var 0) 0 (.var 1))
      .nil)⟩
/-- InvalidNumber.__init__: self value -/
def f2 : FD := ⟨2, 2, (.cons (.asgA (.var 0) 0 (.var 1))
      .nil)⟩
/-- is_integer: value -/
def f3 : FD := ⟨1, 1, (.cons (.ret (.andE (.isI (.var 0) (.b .int)) (.notE (.isI (.var 0) (.b .bool)))))
      .nil)⟩
/-- is_between: value least most -/
def f4 : FD := ⟨3, 3, (.cons (.ret (.andE (.call 3 (.cons (.var 0) .nil)) (.cmp2 .LtE .LtE (.var 1) (.var 0) (.var 2))))
      .nil)⟩
/-- text_of: truths truth -/
def f5 : FD := ⟨1, 2, (.cons (.ret (.bm .join (.cst (.str "")) (.cons (.lc [1] (.ife (.var 1) (.cst (.str "1")) (.cst (.str "0"))) (.nm 1) (.ev (.var 0)) .none) .nil)))
      .nil)⟩
/-- is_statement_text: value sign -/
def f6 : FD := ⟨1, 2, (.cons (.ret (.andE (.isI (.var 0) (.b .str)) (.andE (.cmp .Eq (.bi .len (.cons (.var 0) .nil)) (.glb 2)) (.bi .all (.cons (.lc [1] (.cmp .In (.var 1) (.cst (.str "01"))) (.nm 1) (.ev (.var 0)) .none) .nil)))))
      .nil)⟩
/-- Statement.__init__: self text -/
def f7 : FD := ⟨2, 2, (.cons (.ifS (.notE (.call 6 (.cons (.var 1) .nil))) (.cons (.rais 1 (.var 1))
      .nil) .nil)
      (.cons (.asgA (.var 0) 1 (.var 1))
      .nil))⟩
/-- Statement.of_numbers: cls numbers pair number -/
def f8 : FD := ⟨2, 4, (.cons (.ifS (.orE (.notE (.isIs (.var 1) [(.b .list), (.b .tup)])) (.notE (.bi .all (.cons (.lc [3] (.call 4 (.cons (.var 3) (.cons (.cst (.int 0)) (.cons (.cst (.int 2)) .nil)))) (.nm 3) (.ev (.var 1)) .none) .nil)))) (.cons (.rais 2 (.var 1))
      .nil) .nil)
      (.cons (.ifS (.cmp .NotEq (.bi .lenSet (.cons (.var 1) .nil)) (.bi .len (.cons (.var 1) .nil))) (.cons (.rais 2 (.var 1))
      .nil) .nil)
      (.cons (.ret (.callv 0 (.cons (.call 5 (.cons (.lc [2] (.cmp .In (.bm .count (.var 2) (.cons (.cst (.str "L")) .nil)) (.var 1)) (.nm 2) (.ev (.glb 1)) .none) .nil)) .nil)))
      .nil)))⟩
/-- Statement.is_text: value -/
def f9 : FD := ⟨1, 1, (.cons (.ret (.call 6 (.cons (.var 0) .nil)))
      .nil)⟩
/-- Statement.text: self -/
def f10 : FD := ⟨1, 1, (.cons (.ret (.att (.var 0) 1))
      .nil)⟩
/-- Statement.__call__: self left right letter -/
def f16 : FD := ⟨3, 4, (.cons (.forS (.nm 3) (.ev (.tup (.cons (.var 1) (.cons (.var 2) .nil)))) (.cons (.ifS (.orE (.notE (.isI (.var 3) (.b .str))) (.cmp .NotIn (.var 3) (.glb 0))) (.cons (.rais 1 (.var 3))
      .nil) .nil)
      .nil))
      (.cons (.ret (.cmp .Eq (.ix (.att (.var 0) 1) (.bm .index (.glb 1) (.cons (.bin .Add (.var 1) (.var 2)) .nil))) (.cst (.str "1"))))
      .nil))⟩
/-- _law_numbers: _law_cell _law_salt _law_sizes _law_whole _law_left _law_result _law_k _law_one -/
def f19 : FD := ⟨3, 8, (.cons (.asg (.nm 3) (.bi .max2 (.cons (.var 0) (.cons (.bin .Sub (.neg (.cst (.int 1))) (.var 0)) .nil))))
      (.cons (.asg (.nm 4) (.var 3))
      (.cons (.asg (.nm 5) (.lst .nil))
      (.cons (.forS (.nm 6) (.rng1 (.bi .len (.cons (.var 2) .nil))) (.cons (.ifS (.andE (.cmp .GtE (.var 3) (.bin .Pow (.cst (.int 10)) (.cst (.int 18)))) (.cmp .Gt (.var 4) (.cst (.int 0)))) (.cons (.ex (.bm .append (.var 5) (.cons (.bin .Mod (.var 4) (.ix (.var 2) (.var 6))) .nil)))
      (.cons (.asg (.nm 4) (.bin .FloorDiv (.var 4) (.ix (.var 2) (.var 6))))
      .nil)) (.cons (.asg (.nm 7) (.bin .Mod (.bin .Pow (.bin .Add (.bin .Add (.bin .Mod (.var 3) (.cst (.int 2147483629))) (.bin .Mult (.cst (.int 7919)) (.var 1))) (.cst (.int 1))) (.cst (.int 3))) (.cst (.int 2147483647))))
      (.cons (.asg (.nm 7) (.bin .Mod (.bin .Mult (.bin .Add (.var 7) (.bin .Mult (.cst (.int 104729)) (.bin .Add (.var 6) (.cst (.int 1))))) (.bin .Add (.var 6) (.cst (.int 3)))) (.cst (.int 2147483629))))
      (.cons (.asg (.nm 7) (.bin .Mod (.bin .Mult (.bin .Mod (.bin .Pow (.var 7) (.cst (.int 5))) (.cst (.int 2147483647))) (.cst (.int 48271))) (.cst (.int 2147483629))))
      (.cons (.ex (.bm .append (.var 5) (.cons (.bin .Mod (.bin .FloorDiv (.var 7) (.cst (.int 16))) (.ix (.var 2) (.var 6))) .nil)))
      .nil)))))
      .nil))
      (.cons (.ret (.var 5))
      .nil)))))⟩
/-- _law_odd: _law_digit _law_some -/
def f20 : FD := ⟨1, 2, (.cons (.asg (.nm 1) (.lst (.cons (.cst .non) (.cons (.cst (.bl true)) (.cons (.cst (.bl false)) (.cons (.cst (.int 5)) (.cons (.bin .Pow (.cst (.int 10)) (.cst (.int 30))) (.cons (.neg (.cst (.int 1))) (.cons (.tup .nil) (.cons (.lst .nil) (.cons (.dct []) (.cons (.lst (.cons (.cst (.str "0110")) .nil)) (.cons (.tup (.cons (.cst (.str "0110")) .nil)) (.cons (.cst (.str "")) (.cons (.cst (.str "0")) (.cons (.cst (.str "01100")) (.cons (.cst (.str "011")) (.cons (.cst (.str "?")) (.cons (.cst (.str "TT")) .nil)))))))))))))))))))
      (.cons (.ret (.ix (.bin .Add (.var 1) (.lst (.cons (.cst (.str "011O")) (.cons (.cst (.str "01 0")) (.cons (.cst (.str "0110\n")) (.cons (.cst (.str " 0110")) (.cons (.cst (.str "2110")) (.cons (.cst (.str "01101")) (.cons (.cst (.str "????")) (.cons (.cst (.str "TRUE")) (.cons (.cst (.int 110)) (.cons (.cst (.int 1)) (.cons (.cst (.int 0)) (.cons (.cst (.str "T\t")) .nil)))))))))))))) (.bin .Mod (.var 0) (.cst (.int 29)))))
      .nil))⟩
/-- _law_changed: _law_digits _law_text _law_at _law_sign _law_some _law_size -/
def f21 : FD := ⟨1, 6, (.cons (.asg (.nm 1) (.bm .join (.cst (.str "")) (.cons (.lc [5] (.ix (.cst (.str "01")) (.bin .Mod (.bin .FloorDiv (.ix (.var 0) (.cst (.int 0))) (.var 5)) (.cst (.int 2)))) (.nm 5) (.ev (.lst (.cons (.cst (.int 1)) (.cons (.cst (.int 2)) (.cons (.cst (.int 4)) (.cons (.cst (.int 8)) .nil)))))) .none) .nil)))
      (.cons (.par (.tup (.cons (.nm 2) (.cons (.nm 3) .nil))) (.cons (.bin .Mod (.ix (.var 0) (.cst (.int 1))) (.cst (.int 5))) (.cons (.ix (.cst (.str "01?TL 2\n")) (.bin .Mod (.ix (.var 0) (.cst (.int 2))) (.cst (.int 8)))) .nil)))
      (.cons (.asg (.nm 4) (.lst (.cons (.bin .Add (.bin .Add (.sl (.var 1) .none (.some (.var 2))) (.var 3)) (.sl (.var 1) (.some (.var 2)) .none)) (.cons (.bin .Add (.sl (.var 1) .none (.some (.var 2))) (.sl (.var 1) (.some (.bin .Add (.var 2) (.cst (.int 1)))) .none)) (.cons (.bin .Add (.bin .Add (.sl (.var 1) .none (.some (.var 2))) (.var 3)) (.sl (.var 1) (.some (.bin .Add (.var 2) (.cst (.int 1)))) .none)) .nil)))))
      (.cons (.ret (.ix (.bin .Add (.var 4) (.lst (.cons (.bin .Add (.var 1) (.var 1)) (.cons (.var 1) .nil)))) (.bin .Mod (.ix (.var 0) (.cst (.int 3))) (.cst (.int 5)))))
      .nil))))⟩
/-- _law_is_text: _law_value _law_sign -/
def f22 : FD := ⟨1, 2, (.cons (.ifS (.orE (.notE (.isI (.var 0) (.b .str))) (.cmp .NotEq (.bi .len (.cons (.var 0) .nil)) (.cst (.int 4)))) (.cons (.ret (.cst (.bl false)))
      .nil) .nil)
      (.cons (.ret (.cmp .Eq (.lc [1] (.var 1) (.nm 1) (.ev (.var 0)) (.some (.cmp .NotIn (.var 1) (.cst (.str "01"))))) (.lst .nil)))
      .nil))⟩
/-- _law_made: _law_value e -/
def f23 : FD := ⟨1, 2, (.cons (.tryS (.cons (.ret (.att (.make 3 (.cons (.var 0) .nil)) 2))
      .nil) (.cons 0 (some 1) (.cons (.ifS (.andE (.curI 1) (.notE (.curB 0))) (.cons (.ret (.lst (.cons (.cst (.str "no")) (.cons (.bi .repr (.cons (.curF 0) .nil)) .nil))))
      .nil) .nil)
      .nil) .nil))
      (.cons (.ret (.cst (.str "odd")))
      .nil))⟩
/-- _law_called: _law_one _law_left _law_right e -/
def f24 : FD := ⟨3, 4, (.cons (.tryS (.cons (.ret (.callv 0 (.cons (.var 1) (.cons (.var 2) .nil))))
      .nil) (.cons 1 (some 3) (.cons (.ret (.lst (.cons (.cst (.str "no")) (.cons (.bi .repr (.cons (.curF 0) .nil)) .nil))))
      .nil) .nil))
      .nil)⟩
/-- _law_counted: _law_value e -/
def f25 : FD := ⟨1, 2, (.cons (.tryS (.cons (.ret (.att (.clm 3 3 (.cons (.var 0) .nil)) 2))
      .nil) (.cons 2 (some 1) (.cons (.ret (.lst (.cons (.cst (.str "no")) (.cons (.bi .repr (.cons (.curF 0) .nil)) (.cons (.andE (.curB 0) (.notE (.curI 0))) .nil)))))
      .nil) .nil))
      .nil)⟩
/-- law: _law_script _law_value _law_k _law_cell _law_digits _law_turn _law_good _law_one _law_odd_here _law_told _law_size -/
def f26 : FD := ⟨1, 11, (.cons (.forS (.nm 1) (.ev (.lst (.cons (.lst (.cons (.cst (.int 3)) .nil)) (.cons (.lst (.cons (.neg (.cst (.int 1))) .nil)) (.cons (.lst (.cons (.cst (.bl true)) .nil)) (.cons (.lst (.cons (.cst (.bl false)) (.cons (.cst (.int 1)) .nil))) (.cons (.lst (.cons (.cst (.int 0)) (.cons (.cst (.int 0)) .nil))) (.cons (.lst (.cons (.cst (.int 1)) (.cons (.cst (.int 2)) (.cons (.cst (.int 1)) .nil)))) (.cons (.tup (.cons (.cst (.int 0)) (.cons (.cst (.int 3)) .nil))) (.cons (.cst (.str "01")) (.cons (.cst (.int 1)) (.cons (.cst .non) (.cons (.dct [(Sum.inl (0), (.int 1))]) (.cons (.lst (.cons (.cst .non) .nil)) (.cons (.lst (.cons (.lst (.cons (.cst (.int 0)) .nil)) .nil)) .nil))))))))))))))) (.cons (.ifS (.cmp .NotEq (.call 25 (.cons (.var 1) .nil)) (.lst (.cons (.cst (.str "no")) (.cons (.bi .repr (.cons (.var 1) .nil)) (.cons (.cst (.bl true)) .nil))))) (.cons (.ret (.cst (.bl false)))
      .nil) .nil)
      .nil))
      (.cons (.forS (.tup (.cons (.nm 2) (.cons (.nm 3) .nil))) (.enum (.bin .Add (.sl (.var 0) .none (.some (.cst (.int 6)))) (.bin .Mult (.lst (.cons (.cst (.int 7)) .nil)) (.bi .int (.cons (.cmp .Eq (.var 0) (.lst .nil)) .nil))))) (.cons (.asg (.nm 4) (.call 19 (.cons (.var 3) (.cons (.bin .Add (.cst (.int 200)) (.var 2)) (.cons (.bin .Mult (.lst (.cons (.cst (.int 420)) .nil)) (.cst (.int 24))) .nil)))))
      (.cons (.forS (.nm 5) (.rng1 (.cst (.int 4))) (.cons (.asg (.nm 1) (.ix (.lst (.cons (.call 20 (.cons (.ix (.var 4) (.var 5)) .nil)) (.cons (.call 21 (.cons (.sl (.var 4) (.some (.bin .Add (.cst (.int 4)) (.bin .Mult (.cst (.int 4)) (.var 5)))) .none) .nil)) .nil))) (.bin .Mod (.var 5) (.cst (.int 2)))))
      (.cons (.asg (.nm 6) (.call 22 (.cons (.var 1) .nil)))
      (.cons (.ifS (.cmp .NotEq (.call 23 (.cons (.var 1) .nil)) (.ife (.var 6) (.var 1) (.lst (.cons (.cst (.str "no")) (.cons (.bi .repr (.cons (.var 1) .nil)) .nil))))) (.cons (.ret (.cst (.bl false)))
      .nil) .nil)
      (.cons (.ifS (.cmp .NotEq (.bi .repr (.cons (.clm 3 4 (.cons (.var 1) .nil)) .nil)) (.bi .repr (.cons (.var 6) .nil))) (.cons (.ret (.cst (.bl false)))
      .nil) .nil)
      .nil)))))
      (.cons (.asg (.nm 7) (.make 3 (.cons (.bm .join (.cst (.str "")) (.cons (.lc [10] (.ix (.cst (.str "01")) (.bin .Mod (.bin .FloorDiv (.ix (.var 4) (.cst (.int 20))) (.var 10)) (.cst (.int 2)))) (.nm 10) (.ev (.lst (.cons (.cst (.int 1)) (.cons (.cst (.int 2)) (.cons (.cst (.int 4)) (.cons (.cst (.int 8)) .nil)))))) .none) .nil)) .nil)))
      (.cons (.forS (.nm 8) (.ev (.lst (.cons (.call 20 (.cons (.ix (.var 4) (.cst (.int 21))) .nil)) (.cons (.cst (.str "t")) (.cons (.cst (.str "l")) (.cons (.cst (.str "TL")) (.cons (.cst (.str "")) (.cons (.cst (.str " T")) (.cons (.cst .non) (.cons (.cst (.int 1)) (.cons (.lst (.cons (.cst (.str "T")) .nil)) (.cons (.tup (.cons (.cst (.str "L")) .nil)) .nil)))))))))))) (.cons (.asg (.nm 9) (.lst (.cons (.call 24 (.cons (.var 7) (.cons (.var 8) (.cons (.cst (.str "T")) .nil)))) (.cons (.call 24 (.cons (.var 7) (.cons (.cst (.str "L")) (.cons (.var 8) .nil)))) (.cons (.call 24 (.cons (.var 7) (.cons (.var 8) (.cons (.cst .non) .nil)))) .nil)))))
      (.cons (.ifS (.cmp .NotEq (.var 9) (.bin .Mult (.lst (.cons (.lst (.cons (.cst (.str "no")) (.cons (.bi .repr (.cons (.var 8) .nil)) .nil))) .nil)) (.cst (.int 3)))) (.cons (.ret (.cst (.bl false)))
      .nil) .nil)
      .nil)))
      .nil)))))
      (.cons (.ret (.cst (.bl true)))
      .nil)))⟩
def T : Nat → Option FD
  | 1 => some f1
  | 2 => some f2
  | 3 => some f3
  | 4 => some f4
  | 5 => some f5
  | 6 => some f6
  | 7 => some f7
  | 8 => some f8
  | 9 => some f9
  | 10 => some f10
  | 16 => some f16
  | 19 => some f19
  | 20 => some f20
  | 21 => some f21
  | 22 => some f22
  | 23 => some f23
  | 24 => some f24
  | 25 => some f25
  | 26 => some f26
  | _ => none
def Γ0 : Gam where
  call := fun _ _ _ => none
  glob := fun g => match g with | 0 => some (.ref 0) | 1 => some (.ref 1) | 2 => some (.int 4) | _ => none
  init := fun C => match C with | 3 => some 7 | _ => none
  meth := fun _ _ => none
  prop := fun C x => match C, x with | 3, 2 => some 10 | _, _ => none
  con := fun _ _ => none
  cmeth := fun C x => match C, x with | 3, 3 => some (8, true) | 3, 4 => some (9, false) | _, _ => none
  callm := fun C => match C with | 3 => some 16 | _ => none
  exf := fun C => match C with | 1 => some 0 | 2 => some 0 | _ => none
  sub := fun C D => match C, D with | 1, 0 => true | 1, 1 => true | 2, 2 => true | _, _ => false
  clsAt := fun C => match C with | 3 => some 2 | _ => none
  isF := fun C x => match C, x with | 3, 1 => true | _, _ => false
  subB := fun C b => match C, b with | 2, 0 => true | _, _ => false
def h0 : IH := [.tup [.str "T", .str "L"] true, .tup [.str "TT", .str "TL", .str "LT", .str "LL"] true, .cls 3]
abbrev run (k f : Nat) (vs : List V) (h : IH) : EV V := callN (gof Γ0) T 0 k f vs h
def isT : EV V → Bool
  | some (.val (.bl true) _) => true
  | _ => false
def good (ns : List Int) : Bool := isT (run 8 26 [.ref 3] (h0 ++ [.flst (ns.map V.int)]))
end K02
end
section
set_option Elab.async false
set_option linter.all false
set_option maxRecDepth 100000
set_option maxHeartbeats 4000000
namespace K02
open PySem L2 MP
def top (i : Nat) : Stmt := PySem.Challenge.pw_truthrings_k02_statements_refused.main.body.getD i (.Pass ⟨0, 0, 0, 0⟩)
def fldN : Nat → Str
  | 0 => "value" | 1 => "own_text" | 2 => "text" | 3 => "of_numbers" | 4 => "is_text" | _ => ""
theorem fok : ∀ i j, i < 5 → j < 5 → fldN i = fldN j → i = j := by
  have h : ∀ i : Fin 5, ∀ j : Fin 5, fldN i.val = fldN j.val → i = j := by decide +kernel
  exact fun i j hi hj e => congrArg Fin.val (h ⟨i, hi⟩ ⟨j, hj⟩ e)
def GG (Kf : PySem.W.Frag) (cls : Nat → Addr) (pre : List Addr) : Stat := ⟨Kf, fun _ => none, cls, fldN, 5, fok, pre, fun _ => none⟩
def LL : Lst := ⟨[(3, "is_integer"), (4, "is_between"), (5, "text_of"), (6, "is_statement_text"), (19, "_law_numbers"), (20, "_law_odd"), (21, "_law_changed"), (22, "_law_is_text"), (23, "_law_made"), (24, "_law_called"), (25, "_law_counted"), (26, "law")], [(0, "RingError"), (1, "InvalidStatement"), (2, "InvalidNumber"), (3, "Statement")], [(0, "LETTERS"), (1, "PAIRS"), (2, "LENGTH")], ["len", "all", "max", "int", "repr", "set", "isinstance", "range", "enumerate", "str", "bool", "list", "tuple", "ValueError"], [(0, "ValueError")]⟩
def nm0 : Nms := ⟨fun _ => "", fun _ => "", fun _ => "", fun _ => ""⟩
abbrev s3 : Stmt := top 6
abbrev n3 : List Str := ["value"]
abbrev p3 : List Str := ["value"]
theorem sc3 : FnScope n3 p3 (defScope s3) := ⟨rfl, rfl, rfl, by decide +kernel, rfl, by decide +kernel, by decide +kernel⟩
abbrev s4 : Stmt := top 7
abbrev n4 : List Str := ["value", "least", "most"]
abbrev p4 : List Str := ["value", "least", "most"]
theorem sc4 : FnScope n4 p4 (defScope s4) := ⟨rfl, rfl, rfl, by decide +kernel, rfl, by decide +kernel, by decide +kernel⟩
abbrev s5 : Stmt := top 12
abbrev n5 : List Str := ["truths", "truth"]
abbrev p5 : List Str := ["truths"]
theorem sc5 : FnScope n5 p5 (defScope s5) := ⟨rfl, rfl, rfl, by decide +kernel, rfl, by decide +kernel, by decide +kernel⟩
abbrev s6 : Stmt := top 13
abbrev n6 : List Str := ["value", "sign"]
abbrev p6 : List Str := ["value"]
theorem sc6 : FnScope n6 p6 (defScope s6) := ⟨rfl, rfl, rfl, by decide +kernel, rfl, by decide +kernel, by decide +kernel⟩
abbrev s7 : Stmt := inClass (top 14) 2
abbrev n7 : List Str := ["self", "text"]
abbrev p7 : List Str := ["self", "text"]
theorem sc7 : FnScope n7 p7 (defScope s7) := ⟨rfl, rfl, rfl, by decide +kernel, rfl, by decide +kernel, by decide +kernel⟩
abbrev s8 : Stmt := inClass (top 14) 3
abbrev n8 : List Str := ["cls", "numbers", "pair", "number"]
abbrev p8 : List Str := ["cls", "numbers"]
theorem sc8 : FnScope n8 p8 (defScope s8) := ⟨rfl, rfl, rfl, by decide +kernel, rfl, by decide +kernel, by decide +kernel⟩
abbrev s9 : Stmt := inClass (top 14) 4
abbrev n9 : List Str := ["value"]
abbrev p9 : List Str := ["value"]
theorem sc9 : FnScope n9 p9 (defScope s9) := ⟨rfl, rfl, rfl, by decide +kernel, rfl, by decide +kernel, by decide +kernel⟩
abbrev s10 : Stmt := inClass (top 14) 5
abbrev n10 : List Str := ["self"]
abbrev p10 : List Str := ["self"]
theorem sc10 : FnScope n10 p10 (defScope s10) := ⟨rfl, rfl, rfl, by decide +kernel, rfl, by decide +kernel, by decide +kernel⟩
abbrev s16 : Stmt := inClass (top 14) 11
abbrev n16 : List Str := ["self", "left", "right", "letter"]
abbrev p16 : List Str := ["self", "left", "right"]
theorem sc16 : FnScope n16 p16 (defScope s16) := ⟨rfl, rfl, rfl, by decide +kernel, rfl, by decide +kernel, by decide +kernel⟩
abbrev s19 : Stmt := top 16
abbrev n19 : List Str := ["_law_cell", "_law_salt", "_law_sizes", "_law_whole", "_law_left", "_law_result", "_law_k", "_law_one"]
abbrev p19 : List Str := ["_law_cell", "_law_salt", "_law_sizes"]
theorem sc19 : FnScope n19 p19 (defScope s19) := ⟨rfl, rfl, rfl, by decide +kernel, rfl, by decide +kernel, by decide +kernel⟩
abbrev s20 : Stmt := top 17
abbrev n20 : List Str := ["_law_digit", "_law_some"]
abbrev p20 : List Str := ["_law_digit"]
theorem sc20 : FnScope n20 p20 (defScope s20) := ⟨rfl, rfl, rfl, by decide +kernel, rfl, by decide +kernel, by decide +kernel⟩
abbrev s21 : Stmt := top 18
abbrev n21 : List Str := ["_law_digits", "_law_text", "_law_at", "_law_sign", "_law_some", "_law_size"]
abbrev p21 : List Str := ["_law_digits"]
theorem sc21 : FnScope n21 p21 (defScope s21) := ⟨rfl, rfl, rfl, by decide +kernel, rfl, by decide +kernel, by decide +kernel⟩
abbrev s22 : Stmt := top 19
abbrev n22 : List Str := ["_law_value", "_law_sign"]
abbrev p22 : List Str := ["_law_value"]
theorem sc22 : FnScope n22 p22 (defScope s22) := ⟨rfl, rfl, rfl, by decide +kernel, rfl, by decide +kernel, by decide +kernel⟩
abbrev s23 : Stmt := top 20
abbrev n23 : List Str := ["_law_value", "e"]
abbrev p23 : List Str := ["_law_value"]
theorem sc23 : FnScope n23 p23 (defScope s23) := ⟨rfl, rfl, rfl, by decide +kernel, rfl, by decide +kernel, by decide +kernel⟩
abbrev s24 : Stmt := top 21
abbrev n24 : List Str := ["_law_one", "_law_left", "_law_right", "e"]
abbrev p24 : List Str := ["_law_one", "_law_left", "_law_right"]
theorem sc24 : FnScope n24 p24 (defScope s24) := ⟨rfl, rfl, rfl, by decide +kernel, rfl, by decide +kernel, by decide +kernel⟩
abbrev s25 : Stmt := top 22
abbrev n25 : List Str := ["_law_value", "e"]
abbrev p25 : List Str := ["_law_value"]
theorem sc25 : FnScope n25 p25 (defScope s25) := ⟨rfl, rfl, rfl, by decide +kernel, rfl, by decide +kernel, by decide +kernel⟩
abbrev s26 : Stmt := top 23
abbrev n26 : List Str := ["_law_script", "_law_value", "_law_k", "_law_cell", "_law_digits", "_law_turn", "_law_good", "_law_one", "_law_odd_here", "_law_told", "_law_size"]
abbrev p26 : List Str := ["_law_script"]
theorem sc26 : FnScope n26 p26 (defScope s26) := ⟨rfl, rfl, rfl, by decide +kernel, rfl, by decide +kernel, by decide +kernel⟩
end K02
end
section
set_option Elab.async false
set_option linter.all false
set_option maxRecDepth 100000
set_option maxHeartbeats 2000000
namespace K02
open PySem L2 MP
theorem b3 {P : Program} {w : World} {Kf : PySem.W.Frag} {mg : Str → Option Value} {base : Heap} {cls : Nat → Addr} {pre : List Addr} {adr : Nat → Addr} {k : Nat} {a : Addr} {cdv : Value} {A : Around} {outer : List Env} {s : Shared} {H : Hp} {E : XK}
    (q : EZ k (cxOf (L2.CX P w) P w Kf mg base n3 "is_integer" (defScope s3) a cdv A outer s H E) (dk (GG Kf cls pre) Γ0 nm0 T 0 k) (fun c d _ H' => E c d H') LL adr) :
    PSs (cxOf (L2.CX P w) P w Kf mg base n3 "is_integer" (defScope s3) a cdv A outer s H E) (defBody s3) (tB (dk (GG Kf cls pre) Γ0 nm0 T 0 k) 0 (fun c d _ H' => E c d H') none f3.body) := by
  repeat' (first
  | exact sb_nil | refine sb_cons ?_ ?_
  | exact sa_nil | refine sa_cons ?_ ?_
  | exact z_var (by (first | assumption | exact EZ.sx (by assumption))) (by rfl) (by (first | exact Or.inl rfl | exact Or.inr (Or.inl rfl) | exact Or.inr (Or.inr rfl))) (by decide +kernel)
  | exact z_int (by (first | assumption | exact EZ.sx (by assumption))) | exact z_str (by (first | assumption | exact EZ.sx (by assumption))) | exact z_bl (by (first | assumption | exact EZ.sx (by assumption))) | exact z_non (by (first | assumption | exact EZ.sx (by assumption)))
  | refine z_bin (by (first | assumption | exact EZ.sx (by assumption))) ?_ ?_
  | refine z_neg (by (first | assumption | exact EZ.sx (by assumption))) ?_
  | refine z_cmp (by (first | assumption | exact EZ.sx (by assumption))) ?_ ?_ (by rfl)
  | refine z_cmp2 (by (first | assumption | exact EZ.sx (by assumption))) ?_ ?_ ?_ (by rfl)
  | refine se_and ?_ ?_ | refine se_or ?_ ?_ | refine se_not ?_ | refine se_one ?_
  | refine SE.val (t := true) (se_and ?_ ?_)
  | refine se_ife ?_ ?_ ?_
  | refine se_lst (ES'.toEX (by (first | assumption | exact EZ.sx (by assumption)))) ?_ | refine se_tup (ES'.toEX (by (first | assumption | exact EZ.sx (by assumption)))) ?_
  | refine se_ix (ES'.toEX (by (first | assumption | exact EZ.sx (by assumption)))) ?_ ?_ (by intro _ _; rfl)
  | refine se_sl (ES'.toEX (by (first | assumption | exact EZ.sx (by assumption)))) ?_ ?_ ?_ | exact so_none | refine so_some ?_
  | refine z_curF (by (first | assumption | exact EZ.sx (by assumption))) (by assumption) (by assumption) (by rfl) (by (first | exact Or.inl rfl | exact Or.inr (Or.inl rfl) | exact Or.inr (Or.inr rfl))) (by decide +kernel) (by rfl) (by rfl)
  | refine z_curI (by (first | assumption | exact EZ.sx (by assumption))) (by assumption) (by assumption) (by rfl) (by (first | exact Or.inl rfl | exact Or.inr (Or.inl rfl) | exact Or.inr (Or.inr rfl))) (by decide +kernel) (by rfl) (by decide +kernel) (by rfl) (by decide +kernel) (by rfl) (by rfl) (by decide +kernel)
  | refine z_curB (by (first | assumption | exact EZ.sx (by assumption))) (by assumption) (by assumption) (by rfl) (by (first | exact Or.inl rfl | exact Or.inr (Or.inl rfl) | exact Or.inr (Or.inr rfl))) (by decide +kernel) (by rfl) (by decide +kernel) (by rfl) (by decide +kernel) (by (first | rfl | decide +kernel)) (by decide +kernel) (by rfl) (by decide +kernel)
  | refine z_glb (by (first | assumption | exact EZ.sx (by assumption))) (by decide +kernel) (by rfl) (by decide +kernel)
  | refine z_call (by (first | assumption | exact EZ.blk (by assumption))) (by decide +kernel) (by decide +kernel) (by rfl) ?_
  | refine z_make (by (first | assumption | exact EZ.blk (by assumption))) (by decide +kernel) (by decide +kernel) (by rfl) ?_
  | refine z_lenSet (by (first | assumption | exact EZ.sx (by assumption))) (by rfl) (by rfl) (by rfl) (by decide +kernel) (by decide +kernel) (by rfl) (by rfl) ?_
  | refine z_biB (by (first | assumption | exact EZ.sx (by assumption))) (by (first | exact Or.inl rfl | exact Or.inr rfl)) (by decide) (by rfl) (by decide +kernel) (by rfl) (by (first | rfl | decide +kernel)) (by decide +kernel) ?_
  | refine z_biT (by (first | assumption | exact EZ.sx (by assumption))) (by (first | exact Or.inl rfl | exact Or.inr rfl)) (by decide) (by rfl) (by decide +kernel) (by rfl) (by (first | rfl | decide +kernel)) (by decide +kernel) ?_
  | refine z_isI (by (first | assumption | exact EZ.sx (by assumption))) (by rfl) (by decide +kernel) (by rfl) ?_ (by rfl) (by decide +kernel) (by (first | rfl | decide +kernel)) (by decide +kernel)
  | refine z_isI2 (by (first | assumption | exact EZ.sx (by assumption))) (by rfl) (by decide +kernel) (by rfl) ?_ (by rfl) (by decide +kernel) (by (first | rfl | decide +kernel)) (by decide +kernel) (by rfl) (by decide +kernel) (by (first | rfl | decide +kernel)) (by decide +kernel)
  | refine z_callv (by (first | assumption | exact EZ.blk (by assumption))) (by rfl) (by (first | exact Or.inl rfl | exact Or.inr (Or.inl rfl) | exact Or.inr (Or.inr rfl))) (by decide +kernel) ?_
  | refine z_clm (by (first | assumption | exact EZ.blk (by assumption))) (by decide +kernel) (by decide +kernel) (by rfl) (by rfl) ?_ (by rfl)
  | refine se_join (by rfl) (ES'.toEX (by (first | assumption | exact EZ.sx (by assumption)))) ?_ ?_ (by rfl) (by rfl) (by rfl)
  | refine se_count (by rfl) (ES'.toEX (by (first | assumption | exact EZ.sx (by assumption)))) ?_ ?_ (by rfl) (by rfl) (by rfl)
  | refine se_append (by rfl) (ES'.toEX (by (first | assumption | exact EZ.sx (by assumption)))) ?_ ?_ (by rfl) (by rfl) (by rfl)
  | refine se_index (by rfl) (ES'.toEX (by (first | assumption | exact EZ.sx (by assumption)))) ?_ ?_ (by rfl) (by rfl) (by rfl)
  | refine se_att (EZ.toEY (by (first | assumption | exact EZ.blk (by assumption)))) (by rfl) ?_ (by rfl)
  | exact se_dct0 (ES'.toEX (by (first | assumption | exact EZ.sx (by assumption))))
  | exact se_dct (ES'.toEX (by (first | assumption | exact EZ.sx (by assumption)))) (.cons pe_int pe_int (by intro a z; cases z) .nil) (by rfl) (by rfl) (by intro z; cases z) (by decide) (by decide)
  | refine z_lc (by (first | assumption | exact EZ.blk (by assumption))) ?_ (by rfl) (fun s H C cl fp q => ?_) (fun s H C cl fp q => ?_) (fun s H C cl fp q => ?_) (by intro _; rfl) (by (intro j hj; simpa [slT, slTs] using hj))
  | exact sc_none | refine sc_one ?_
  | exact z_sgn (EZ.nd (by (first | assumption | exact EZ.blk (by assumption)))) (by rfl) (by (first | exact Or.inl rfl | exact Or.inr rfl)) (by (first | exact Or.inl rfl | exact Or.inr rfl))
  | refine z_sgt (EX.K (EY.toEX (EZ.toEY (by (first | assumption | exact EZ.blk (by assumption)))))) (EY.cm (EZ.toEY (by (first | assumption | exact EZ.blk (by assumption))))) ?_ (by rfl) (by rfl)
  | exact z_sgs0 | refine z_sgs ?_ ?_ (by rfl)
  | refine z_rng1 (by (first | assumption | exact EZ.sx (by assumption))) (by rfl) (by decide +kernel) (by rfl) ?_
  | refine z_enum (by (first | assumption | exact EZ.sx (by assumption))) (by rfl) (by decide +kernel) (by rfl) ?_
  | refine si_ev (EX.K (ES'.toEX (by (first | assumption | exact EZ.sx (by assumption))))) ?_
  | refine ss_ret ?_ | exact ss_retN
  | refine ss_if ?_ ?_ ?_
  | refine z_asg (by (first | assumption | exact EZ.sx (by assumption))) (by rfl) (by (first | exact Or.inl rfl | exact Or.inr rfl)) (by (first | exact Or.inl rfl | exact Or.inr rfl)) ?_ (by rfl) (by (first | (intro _ _ _ _ z; cases z; done) | (intro _ _ _ _ z; cases z; simp [slT, slTs])))
  | refine z_par (by (first | assumption | exact EZ.blk (by assumption))) (by rfl) (by rfl) (by decide) (by rfl) (by rfl) ?_ (by rfl) (by rfl) (by (first | (intro _ _ _ _ z; cases z; done) | (intro _ _ _ _ z; cases z; simp [slT, slTs])))
  | refine z_fld (by (first | assumption | exact EZ.blk (by assumption))) (by rfl) ?_ ?_ (by rfl)
  | refine ss_expr ?_ (by rfl)
  | refine z_for (by (first | assumption | exact EZ.blk (by assumption))) (by first | assumption | exact passes_of rfl) ?_ ?_ ?_ (by intro _; rfl) (by (first | (intro _ _ _ _ z; cases z; done) | (intro _ _ _ _ z; cases z; simp [slT, slTs])))
  | refine z_raise (by (first | assumption | exact EZ.blk (by assumption))) (by decide +kernel) (by rfl) (by decide +kernel) (by rfl) ?_
  | refine z_try (by (first | assumption | exact EZ.blk (by assumption))) (by rfl) (by rfl) (by rfl) (by rfl) (by decide +kernel) (by rfl) (by decide +kernel) (by rfl) (fun W' pn xe q hp => ?_) (fun a oe cls d pn hz hf q => ?_)
  | exact ss_pass | exact ss_brk | exact ss_cnt)
end K02
end
section
set_option Elab.async false
set_option linter.all false
set_option maxRecDepth 100000
set_option maxHeartbeats 2000000
namespace K02
open PySem L2 MP
theorem b4 {P : Program} {w : World} {Kf : PySem.W.Frag} {mg : Str → Option Value} {base : Heap} {cls : Nat → Addr} {pre : List Addr} {adr : Nat → Addr} {k : Nat} {a : Addr} {cdv : Value} {A : Around} {outer : List Env} {s : Shared} {H : Hp} {E : XK}
    (q : EZ k (cxOf (L2.CX P w) P w Kf mg base n4 "is_between" (defScope s4) a cdv A outer s H E) (dk (GG Kf cls pre) Γ0 nm0 T 0 k) (fun c d _ H' => E c d H') LL adr) :
    PSs (cxOf (L2.CX P w) P w Kf mg base n4 "is_between" (defScope s4) a cdv A outer s H E) (defBody s4) (tB (dk (GG Kf cls pre) Γ0 nm0 T 0 k) 0 (fun c d _ H' => E c d H') none f4.body) := by
  repeat' (first
  | exact sb_nil | refine sb_cons ?_ ?_
  | exact sa_nil | refine sa_cons ?_ ?_
  | exact z_var (by (first | assumption | exact EZ.sx (by assumption))) (by rfl) (by (first | exact Or.inl rfl | exact Or.inr (Or.inl rfl) | exact Or.inr (Or.inr rfl))) (by decide +kernel)
  | exact z_int (by (first | assumption | exact EZ.sx (by assumption))) | exact z_str (by (first | assumption | exact EZ.sx (by assumption))) | exact z_bl (by (first | assumption | exact EZ.sx (by assumption))) | exact z_non (by (first | assumption | exact EZ.sx (by assumption)))
  | refine z_bin (by (first | assumption | exact EZ.sx (by assumption))) ?_ ?_
  | refine z_neg (by (first | assumption | exact EZ.sx (by assumption))) ?_
  | refine z_cmp (by (first | assumption | exact EZ.sx (by assumption))) ?_ ?_ (by rfl)
  | refine z_cmp2 (by (first | assumption | exact EZ.sx (by assumption))) ?_ ?_ ?_ (by rfl)
  | refine se_and ?_ ?_ | refine se_or ?_ ?_ | refine se_not ?_ | refine se_one ?_
  | refine SE.val (t := true) (se_and ?_ ?_)
  | refine se_ife ?_ ?_ ?_
  | refine se_lst (ES'.toEX (by (first | assumption | exact EZ.sx (by assumption)))) ?_ | refine se_tup (ES'.toEX (by (first | assumption | exact EZ.sx (by assumption)))) ?_
  | refine se_ix (ES'.toEX (by (first | assumption | exact EZ.sx (by assumption)))) ?_ ?_ (by intro _ _; rfl)
  | refine se_sl (ES'.toEX (by (first | assumption | exact EZ.sx (by assumption)))) ?_ ?_ ?_ | exact so_none | refine so_some ?_
  | refine z_curF (by (first | assumption | exact EZ.sx (by assumption))) (by assumption) (by assumption) (by rfl) (by (first | exact Or.inl rfl | exact Or.inr (Or.inl rfl) | exact Or.inr (Or.inr rfl))) (by decide +kernel) (by rfl) (by rfl)
  | refine z_curI (by (first | assumption | exact EZ.sx (by assumption))) (by assumption) (by assumption) (by rfl) (by (first | exact Or.inl rfl | exact Or.inr (Or.inl rfl) | exact Or.inr (Or.inr rfl))) (by decide +kernel) (by rfl) (by decide +kernel) (by rfl) (by decide +kernel) (by rfl) (by rfl) (by decide +kernel)
  | refine z_curB (by (first | assumption | exact EZ.sx (by assumption))) (by assumption) (by assumption) (by rfl) (by (first | exact Or.inl rfl | exact Or.inr (Or.inl rfl) | exact Or.inr (Or.inr rfl))) (by decide +kernel) (by rfl) (by decide +kernel) (by rfl) (by decide +kernel) (by (first | rfl | decide +kernel)) (by decide +kernel) (by rfl) (by decide +kernel)
  | refine z_glb (by (first | assumption | exact EZ.sx (by assumption))) (by decide +kernel) (by rfl) (by decide +kernel)
  | refine z_call (by (first | assumption | exact EZ.blk (by assumption))) (by decide +kernel) (by decide +kernel) (by rfl) ?_
  | refine z_make (by (first | assumption | exact EZ.blk (by assumption))) (by decide +kernel) (by decide +kernel) (by rfl) ?_
  | refine z_lenSet (by (first | assumption | exact EZ.sx (by assumption))) (by rfl) (by rfl) (by rfl) (by decide +kernel) (by decide +kernel) (by rfl) (by rfl) ?_
  | refine z_biB (by (first | assumption | exact EZ.sx (by assumption))) (by (first | exact Or.inl rfl | exact Or.inr rfl)) (by decide) (by rfl) (by decide +kernel) (by rfl) (by (first | rfl | decide +kernel)) (by decide +kernel) ?_
  | refine z_biT (by (first | assumption | exact EZ.sx (by assumption))) (by (first | exact Or.inl rfl | exact Or.inr rfl)) (by decide) (by rfl) (by decide +kernel) (by rfl) (by (first | rfl | decide +kernel)) (by decide +kernel) ?_
  | refine z_isI (by (first | assumption | exact EZ.sx (by assumption))) (by rfl) (by decide +kernel) (by rfl) ?_ (by rfl) (by decide +kernel) (by (first | rfl | decide +kernel)) (by decide +kernel)
  | refine z_isI2 (by (first | assumption | exact EZ.sx (by assumption))) (by rfl) (by decide +kernel) (by rfl) ?_ (by rfl) (by decide +kernel) (by (first | rfl | decide +kernel)) (by decide +kernel) (by rfl) (by decide +kernel) (by (first | rfl | decide +kernel)) (by decide +kernel)
  | refine z_callv (by (first | assumption | exact EZ.blk (by assumption))) (by rfl) (by (first | exact Or.inl rfl | exact Or.inr (Or.inl rfl) | exact Or.inr (Or.inr rfl))) (by decide +kernel) ?_
  | refine z_clm (by (first | assumption | exact EZ.blk (by assumption))) (by decide +kernel) (by decide +kernel) (by rfl) (by rfl) ?_ (by rfl)
  | refine se_join (by rfl) (ES'.toEX (by (first | assumption | exact EZ.sx (by assumption)))) ?_ ?_ (by rfl) (by rfl) (by rfl)
  | refine se_count (by rfl) (ES'.toEX (by (first | assumption | exact EZ.sx (by assumption)))) ?_ ?_ (by rfl) (by rfl) (by rfl)
  | refine se_append (by rfl) (ES'.toEX (by (first | assumption | exact EZ.sx (by assumption)))) ?_ ?_ (by rfl) (by rfl) (by rfl)
  | refine se_index (by rfl) (ES'.toEX (by (first | assumption | exact EZ.sx (by assumption)))) ?_ ?_ (by rfl) (by rfl) (by rfl)
  | refine se_att (EZ.toEY (by (first | assumption | exact EZ.blk (by assumption)))) (by rfl) ?_ (by rfl)
  | exact se_dct0 (ES'.toEX (by (first | assumption | exact EZ.sx (by assumption))))
  | exact se_dct (ES'.toEX (by (first | assumption | exact EZ.sx (by assumption)))) (.cons pe_int pe_int (by intro a z; cases z) .nil) (by rfl) (by rfl) (by intro z; cases z) (by decide) (by decide)
  | refine z_lc (by (first | assumption | exact EZ.blk (by assumption))) ?_ (by rfl) (fun s H C cl fp q => ?_) (fun s H C cl fp q => ?_) (fun s H C cl fp q => ?_) (by intro _; rfl) (by (intro j hj; simpa [slT, slTs] using hj))
  | exact sc_none | refine sc_one ?_
  | exact z_sgn (EZ.nd (by (first | assumption | exact EZ.blk (by assumption)))) (by rfl) (by (first | exact Or.inl rfl | exact Or.inr rfl)) (by (first | exact Or.inl rfl | exact Or.inr rfl))
  | refine z_sgt (EX.K (EY.toEX (EZ.toEY (by (first | assumption | exact EZ.blk (by assumption)))))) (EY.cm (EZ.toEY (by (first | assumption | exact EZ.blk (by assumption))))) ?_ (by rfl) (by rfl)
  | exact z_sgs0 | refine z_sgs ?_ ?_ (by rfl)
  | refine z_rng1 (by (first | assumption | exact EZ.sx (by assumption))) (by rfl) (by decide +kernel) (by rfl) ?_
  | refine z_enum (by (first | assumption | exact EZ.sx (by assumption))) (by rfl) (by decide +kernel) (by rfl) ?_
  | refine si_ev (EX.K (ES'.toEX (by (first | assumption | exact EZ.sx (by assumption))))) ?_
  | refine ss_ret ?_ | exact ss_retN
  | refine ss_if ?_ ?_ ?_
  | refine z_asg (by (first | assumption | exact EZ.sx (by assumption))) (by rfl) (by (first | exact Or.inl rfl | exact Or.inr rfl)) (by (first | exact Or.inl rfl | exact Or.inr rfl)) ?_ (by rfl) (by (first | (intro _ _ _ _ z; cases z; done) | (intro _ _ _ _ z; cases z; simp [slT, slTs])))
  | refine z_par (by (first | assumption | exact EZ.blk (by assumption))) (by rfl) (by rfl) (by decide) (by rfl) (by rfl) ?_ (by rfl) (by rfl) (by (first | (intro _ _ _ _ z; cases z; done) | (intro _ _ _ _ z; cases z; simp [slT, slTs])))
  | refine z_fld (by (first | assumption | exact EZ.blk (by assumption))) (by rfl) ?_ ?_ (by rfl)
  | refine ss_expr ?_ (by rfl)
  | refine z_for (by (first | assumption | exact EZ.blk (by assumption))) (by first | assumption | exact passes_of rfl) ?_ ?_ ?_ (by intro _; rfl) (by (first | (intro _ _ _ _ z; cases z; done) | (intro _ _ _ _ z; cases z; simp [slT, slTs])))
  | refine z_raise (by (first | assumption | exact EZ.blk (by assumption))) (by decide +kernel) (by rfl) (by decide +kernel) (by rfl) ?_
  | refine z_try (by (first | assumption | exact EZ.blk (by assumption))) (by rfl) (by rfl) (by rfl) (by rfl) (by decide +kernel) (by rfl) (by decide +kernel) (by rfl) (fun W' pn xe q hp => ?_) (fun a oe cls d pn hz hf q => ?_)
  | exact ss_pass | exact ss_brk | exact ss_cnt)
end K02
end
section
set_option Elab.async false
set_option linter.all false
set_option maxRecDepth 100000
set_option maxHeartbeats 2000000
namespace K02
open PySem L2 MP
theorem b5 {P : Program} {w : World} {Kf : PySem.W.Frag} {mg : Str → Option Value} {base : Heap} {cls : Nat → Addr} {pre : List Addr} {adr : Nat → Addr} {k : Nat} {a : Addr} {cdv : Value} {A : Around} {outer : List Env} {s : Shared} {H : Hp} {E : XK}
    (q : EZ k (cxOf (L2.CX P w) P w Kf mg base n5 "text_of" (defScope s5) a cdv A outer s H E) (dk (GG Kf cls pre) Γ0 nm0 T 0 k) (fun c d _ H' => E c d H') LL adr) :
    PSs (cxOf (L2.CX P w) P w Kf mg base n5 "text_of" (defScope s5) a cdv A outer s H E) (defBody s5) (tB (dk (GG Kf cls pre) Γ0 nm0 T 0 k) 0 (fun c d _ H' => E c d H') none f5.body) := by
  repeat' (first
  | exact sb_nil | refine sb_cons ?_ ?_
  | exact sa_nil | refine sa_cons ?_ ?_
  | exact z_var (by (first | assumption | exact EZ.sx (by assumption))) (by rfl) (by (first | exact Or.inl rfl | exact Or.inr (Or.inl rfl) | exact Or.inr (Or.inr rfl))) (by decide +kernel)
  | exact z_int (by (first | assumption | exact EZ.sx (by assumption))) | exact z_str (by (first | assumption | exact EZ.sx (by assumption))) | exact z_bl (by (first | assumption | exact EZ.sx (by assumption))) | exact z_non (by (first | assumption | exact EZ.sx (by assumption)))
  | refine z_bin (by (first | assumption | exact EZ.sx (by assumption))) ?_ ?_
  | refine z_neg (by (first | assumption | exact EZ.sx (by assumption))) ?_
  | refine z_cmp (by (first | assumption | exact EZ.sx (by assumption))) ?_ ?_ (by rfl)
  | refine z_cmp2 (by (first | assumption | exact EZ.sx (by assumption))) ?_ ?_ ?_ (by rfl)
  | refine se_and ?_ ?_ | refine se_or ?_ ?_ | refine se_not ?_ | refine se_one ?_
  | refine SE.val (t := true) (se_and ?_ ?_)
  | refine se_ife ?_ ?_ ?_
  | refine se_lst (ES'.toEX (by (first | assumption | exact EZ.sx (by assumption)))) ?_ | refine se_tup (ES'.toEX (by (first | assumption | exact EZ.sx (by assumption)))) ?_
  | refine se_ix (ES'.toEX (by (first | assumption | exact EZ.sx (by assumption)))) ?_ ?_ (by intro _ _; rfl)
  | refine se_sl (ES'.toEX (by (first | assumption | exact EZ.sx (by assumption)))) ?_ ?_ ?_ | exact so_none | refine so_some ?_
  | refine z_curF (by (first | assumption | exact EZ.sx (by assumption))) (by assumption) (by assumption) (by rfl) (by (first | exact Or.inl rfl | exact Or.inr (Or.inl rfl) | exact Or.inr (Or.inr rfl))) (by decide +kernel) (by rfl) (by rfl)
  | refine z_curI (by (first | assumption | exact EZ.sx (by assumption))) (by assumption) (by assumption) (by rfl) (by (first | exact Or.inl rfl | exact Or.inr (Or.inl rfl) | exact Or.inr (Or.inr rfl))) (by decide +kernel) (by rfl) (by decide +kernel) (by rfl) (by decide +kernel) (by rfl) (by rfl) (by decide +kernel)
  | refine z_curB (by (first | assumption | exact EZ.sx (by assumption))) (by assumption) (by assumption) (by rfl) (by (first | exact Or.inl rfl | exact Or.inr (Or.inl rfl) | exact Or.inr (Or.inr rfl))) (by decide +kernel) (by rfl) (by decide +kernel) (by rfl) (by decide +kernel) (by (first | rfl | decide +kernel)) (by decide +kernel) (by rfl) (by decide +kernel)
  | refine z_glb (by (first | assumption | exact EZ.sx (by assumption))) (by decide +kernel) (by rfl) (by decide +kernel)
  | refine z_call (by (first | assumption | exact EZ.blk (by assumption))) (by decide +kernel) (by decide +kernel) (by rfl) ?_
  | refine z_make (by (first | assumption | exact EZ.blk (by assumption))) (by decide +kernel) (by decide +kernel) (by rfl) ?_
  | refine z_lenSet (by (first | assumption | exact EZ.sx (by assumption))) (by rfl) (by rfl) (by rfl) (by decide +kernel) (by decide +kernel) (by rfl) (by rfl) ?_
  | refine z_biB (by (first | assumption | exact EZ.sx (by assumption))) (by (first | exact Or.inl rfl | exact Or.inr rfl)) (by decide) (by rfl) (by decide +kernel) (by rfl) (by (first | rfl | decide +kernel)) (by decide +kernel) ?_
  | refine z_biT (by (first | assumption | exact EZ.sx (by assumption))) (by (first | exact Or.inl rfl | exact Or.inr rfl)) (by decide) (by rfl) (by decide +kernel) (by rfl) (by (first | rfl | decide +kernel)) (by decide +kernel) ?_
  | refine z_isI (by (first | assumption | exact EZ.sx (by assumption))) (by rfl) (by decide +kernel) (by rfl) ?_ (by rfl) (by decide +kernel) (by (first | rfl | decide +kernel)) (by decide +kernel)
  | refine z_isI2 (by (first | assumption | exact EZ.sx (by assumption))) (by rfl) (by decide +kernel) (by rfl) ?_ (by rfl) (by decide +kernel) (by (first | rfl | decide +kernel)) (by decide +kernel) (by rfl) (by decide +kernel) (by (first | rfl | decide +kernel)) (by decide +kernel)
  | refine z_callv (by (first | assumption | exact EZ.blk (by assumption))) (by rfl) (by (first | exact Or.inl rfl | exact Or.inr (Or.inl rfl) | exact Or.inr (Or.inr rfl))) (by decide +kernel) ?_
  | refine z_clm (by (first | assumption | exact EZ.blk (by assumption))) (by decide +kernel) (by decide +kernel) (by rfl) (by rfl) ?_ (by rfl)
  | refine se_join (by rfl) (ES'.toEX (by (first | assumption | exact EZ.sx (by assumption)))) ?_ ?_ (by rfl) (by rfl) (by rfl)
  | refine se_count (by rfl) (ES'.toEX (by (first | assumption | exact EZ.sx (by assumption)))) ?_ ?_ (by rfl) (by rfl) (by rfl)
  | refine se_append (by rfl) (ES'.toEX (by (first | assumption | exact EZ.sx (by assumption)))) ?_ ?_ (by rfl) (by rfl) (by rfl)
  | refine se_index (by rfl) (ES'.toEX (by (first | assumption | exact EZ.sx (by assumption)))) ?_ ?_ (by rfl) (by rfl) (by rfl)
  | refine se_att (EZ.toEY (by (first | assumption | exact EZ.blk (by assumption)))) (by rfl) ?_ (by rfl)
  | exact se_dct0 (ES'.toEX (by (first | assumption | exact EZ.sx (by assumption))))
  | exact se_dct (ES'.toEX (by (first | assumption | exact EZ.sx (by assumption)))) (.cons pe_int pe_int (by intro a z; cases z) .nil) (by rfl) (by rfl) (by intro z; cases z) (by decide) (by decide)
  | refine z_lc (by (first | assumption | exact EZ.blk (by assumption))) ?_ (by rfl) (fun s H C cl fp q => ?_) (fun s H C cl fp q => ?_) (fun s H C cl fp q => ?_) (by intro _; rfl) (by (intro j hj; simpa [slT, slTs] using hj))
  | exact sc_none | refine sc_one ?_
  | exact z_sgn (EZ.nd (by (first | assumption | exact EZ.blk (by assumption)))) (by rfl) (by (first | exact Or.inl rfl | exact Or.inr rfl)) (by (first | exact Or.inl rfl | exact Or.inr rfl))
  | refine z_sgt (EX.K (EY.toEX (EZ.toEY (by (first | assumption | exact EZ.blk (by assumption)))))) (EY.cm (EZ.toEY (by (first | assumption | exact EZ.blk (by assumption))))) ?_ (by rfl) (by rfl)
  | exact z_sgs0 | refine z_sgs ?_ ?_ (by rfl)
  | refine z_rng1 (by (first | assumption | exact EZ.sx (by assumption))) (by rfl) (by decide +kernel) (by rfl) ?_
  | refine z_enum (by (first | assumption | exact EZ.sx (by assumption))) (by rfl) (by decide +kernel) (by rfl) ?_
  | refine si_ev (EX.K (ES'.toEX (by (first | assumption | exact EZ.sx (by assumption))))) ?_
  | refine ss_ret ?_ | exact ss_retN
  | refine ss_if ?_ ?_ ?_
  | refine z_asg (by (first | assumption | exact EZ.sx (by assumption))) (by rfl) (by (first | exact Or.inl rfl | exact Or.inr rfl)) (by (first | exact Or.inl rfl | exact Or.inr rfl)) ?_ (by rfl) (by (first | (intro _ _ _ _ z; cases z; done) | (intro _ _ _ _ z; cases z; simp [slT, slTs])))
  | refine z_par (by (first | assumption | exact EZ.blk (by assumption))) (by rfl) (by rfl) (by decide) (by rfl) (by rfl) ?_ (by rfl) (by rfl) (by (first | (intro _ _ _ _ z; cases z; done) | (intro _ _ _ _ z; cases z; simp [slT, slTs])))
  | refine z_fld (by (first | assumption | exact EZ.blk (by assumption))) (by rfl) ?_ ?_ (by rfl)
  | refine ss_expr ?_ (by rfl)
  | refine z_for (by (first | assumption | exact EZ.blk (by assumption))) (by first | assumption | exact passes_of rfl) ?_ ?_ ?_ (by intro _; rfl) (by (first | (intro _ _ _ _ z; cases z; done) | (intro _ _ _ _ z; cases z; simp [slT, slTs])))
  | refine z_raise (by (first | assumption | exact EZ.blk (by assumption))) (by decide +kernel) (by rfl) (by decide +kernel) (by rfl) ?_
  | refine z_try (by (first | assumption | exact EZ.blk (by assumption))) (by rfl) (by rfl) (by rfl) (by rfl) (by decide +kernel) (by rfl) (by decide +kernel) (by rfl) (fun W' pn xe q hp => ?_) (fun a oe cls d pn hz hf q => ?_)
  | exact ss_pass | exact ss_brk | exact ss_cnt)
end K02
end
section
set_option Elab.async false
set_option linter.all false
set_option maxRecDepth 100000
set_option maxHeartbeats 2000000
namespace K02
open PySem L2 MP
theorem b6 {P : Program} {w : World} {Kf : PySem.W.Frag} {mg : Str → Option Value} {base : Heap} {cls : Nat → Addr} {pre : List Addr} {adr : Nat → Addr} {k : Nat} {a : Addr} {cdv : Value} {A : Around} {outer : List Env} {s : Shared} {H : Hp} {E : XK}
    (q : EZ k (cxOf (L2.CX P w) P w Kf mg base n6 "is_statement_text" (defScope s6) a cdv A outer s H E) (dk (GG Kf cls pre) Γ0 nm0 T 0 k) (fun c d _ H' => E c d H') LL adr) :
    PSs (cxOf (L2.CX P w) P w Kf mg base n6 "is_statement_text" (defScope s6) a cdv A outer s H E) (defBody s6) (tB (dk (GG Kf cls pre) Γ0 nm0 T 0 k) 0 (fun c d _ H' => E c d H') none f6.body) := by
  repeat' (first
  | exact sb_nil | refine sb_cons ?_ ?_
  | exact sa_nil | refine sa_cons ?_ ?_
  | exact z_var (by (first | assumption | exact EZ.sx (by assumption))) (by rfl) (by (first | exact Or.inl rfl | exact Or.inr (Or.inl rfl) | exact Or.inr (Or.inr rfl))) (by decide +kernel)
  | exact z_int (by (first | assumption | exact EZ.sx (by assumption))) | exact z_str (by (first | assumption | exact EZ.sx (by assumption))) | exact z_bl (by (first | assumption | exact EZ.sx (by assumption))) | exact z_non (by (first | assumption | exact EZ.sx (by assumption)))
  | refine z_bin (by (first | assumption | exact EZ.sx (by assumption))) ?_ ?_
  | refine z_neg (by (first | assumption | exact EZ.sx (by assumption))) ?_
  | refine z_cmp (by (first | assumption | exact EZ.sx (by assumption))) ?_ ?_ (by rfl)
  | refine z_cmp2 (by (first | assumption | exact EZ.sx (by assumption))) ?_ ?_ ?_ (by rfl)
  | refine se_and ?_ ?_ | refine se_or ?_ ?_ | refine se_not ?_ | refine se_one ?_
  | refine SE.val (t := true) (se_and ?_ ?_)
  | refine se_ife ?_ ?_ ?_
  | refine se_lst (ES'.toEX (by (first | assumption | exact EZ.sx (by assumption)))) ?_ | refine se_tup (ES'.toEX (by (first | assumption | exact EZ.sx (by assumption)))) ?_
  | refine se_ix (ES'.toEX (by (first | assumption | exact EZ.sx (by assumption)))) ?_ ?_ (by intro _ _; rfl)
  | refine se_sl (ES'.toEX (by (first | assumption | exact EZ.sx (by assumption)))) ?_ ?_ ?_ | exact so_none | refine so_some ?_
  | refine z_curF (by (first | assumption | exact EZ.sx (by assumption))) (by assumption) (by assumption) (by rfl) (by (first | exact Or.inl rfl | exact Or.inr (Or.inl rfl) | exact Or.inr (Or.inr rfl))) (by decide +kernel) (by rfl) (by rfl)
  | refine z_curI (by (first | assumption | exact EZ.sx (by assumption))) (by assumption) (by assumption) (by rfl) (by (first | exact Or.inl rfl | exact Or.inr (Or.inl rfl) | exact Or.inr (Or.inr rfl))) (by decide +kernel) (by rfl) (by decide +kernel) (by rfl) (by decide +kernel) (by rfl) (by rfl) (by decide +kernel)
  | refine z_curB (by (first | assumption | exact EZ.sx (by assumption))) (by assumption) (by assumption) (by rfl) (by (first | exact Or.inl rfl | exact Or.inr (Or.inl rfl) | exact Or.inr (Or.inr rfl))) (by decide +kernel) (by rfl) (by decide +kernel) (by rfl) (by decide +kernel) (by (first | rfl | decide +kernel)) (by decide +kernel) (by rfl) (by decide +kernel)
  | refine z_glb (by (first | assumption | exact EZ.sx (by assumption))) (by decide +kernel) (by rfl) (by decide +kernel)
  | refine z_call (by (first | assumption | exact EZ.blk (by assumption))) (by decide +kernel) (by decide +kernel) (by rfl) ?_
  | refine z_make (by (first | assumption | exact EZ.blk (by assumption))) (by decide +kernel) (by decide +kernel) (by rfl) ?_
  | refine z_lenSet (by (first | assumption | exact EZ.sx (by assumption))) (by rfl) (by rfl) (by rfl) (by decide +kernel) (by decide +kernel) (by rfl) (by rfl) ?_
  | refine z_biB (by (first | assumption | exact EZ.sx (by assumption))) (by (first | exact Or.inl rfl | exact Or.inr rfl)) (by decide) (by rfl) (by decide +kernel) (by rfl) (by (first | rfl | decide +kernel)) (by decide +kernel) ?_
  | refine z_biT (by (first | assumption | exact EZ.sx (by assumption))) (by (first | exact Or.inl rfl | exact Or.inr rfl)) (by decide) (by rfl) (by decide +kernel) (by rfl) (by (first | rfl | decide +kernel)) (by decide +kernel) ?_
  | refine z_isI (by (first | assumption | exact EZ.sx (by assumption))) (by rfl) (by decide +kernel) (by rfl) ?_ (by rfl) (by decide +kernel) (by (first | rfl | decide +kernel)) (by decide +kernel)
  | refine z_isI2 (by (first | assumption | exact EZ.sx (by assumption))) (by rfl) (by decide +kernel) (by rfl) ?_ (by rfl) (by decide +kernel) (by (first | rfl | decide +kernel)) (by decide +kernel) (by rfl) (by decide +kernel) (by (first | rfl | decide +kernel)) (by decide +kernel)
  | refine z_callv (by (first | assumption | exact EZ.blk (by assumption))) (by rfl) (by (first | exact Or.inl rfl | exact Or.inr (Or.inl rfl) | exact Or.inr (Or.inr rfl))) (by decide +kernel) ?_
  | refine z_clm (by (first | assumption | exact EZ.blk (by assumption))) (by decide +kernel) (by decide +kernel) (by rfl) (by rfl) ?_ (by rfl)
  | refine se_join (by rfl) (ES'.toEX (by (first | assumption | exact EZ.sx (by assumption)))) ?_ ?_ (by rfl) (by rfl) (by rfl)
  | refine se_count (by rfl) (ES'.toEX (by (first | assumption | exact EZ.sx (by assumption)))) ?_ ?_ (by rfl) (by rfl) (by rfl)
  | refine se_append (by rfl) (ES'.toEX (by (first | assumption | exact EZ.sx (by assumption)))) ?_ ?_ (by rfl) (by rfl) (by rfl)
  | refine se_index (by rfl) (ES'.toEX (by (first | assumption | exact EZ.sx (by assumption)))) ?_ ?_ (by rfl) (by rfl) (by rfl)
  | refine se_att (EZ.toEY (by (first | assumption | exact EZ.blk (by assumption)))) (by rfl) ?_ (by rfl)
  | exact se_dct0 (ES'.toEX (by (first | assumption | exact EZ.sx (by assumption))))
  | exact se_dct (ES'.toEX (by (first | assumption | exact EZ.sx (by assumption)))) (.cons pe_int pe_int (by intro a z; cases z) .nil) (by rfl) (by rfl) (by intro z; cases z) (by decide) (by decide)
  | refine z_lc (by (first | assumption | exact EZ.blk (by assumption))) ?_ (by rfl) (fun s H C cl fp q => ?_) (fun s H C cl fp q => ?_) (fun s H C cl fp q => ?_) (by intro _; rfl) (by (intro j hj; simpa [slT, slTs] using hj))
  | exact sc_none | refine sc_one ?_
  | exact z_sgn (EZ.nd (by (first | assumption | exact EZ.blk (by assumption)))) (by rfl) (by (first | exact Or.inl rfl | exact Or.inr rfl)) (by (first | exact Or.inl rfl | exact Or.inr rfl))
  | refine z_sgt (EX.K (EY.toEX (EZ.toEY (by (first | assumption | exact EZ.blk (by assumption)))))) (EY.cm (EZ.toEY (by (first | assumption | exact EZ.blk (by assumption))))) ?_ (by rfl) (by rfl)
  | exact z_sgs0 | refine z_sgs ?_ ?_ (by rfl)
  | refine z_rng1 (by (first | assumption | exact EZ.sx (by assumption))) (by rfl) (by decide +kernel) (by rfl) ?_
  | refine z_enum (by (first | assumption | exact EZ.sx (by assumption))) (by rfl) (by decide +kernel) (by rfl) ?_
  | refine si_ev (EX.K (ES'.toEX (by (first | assumption | exact EZ.sx (by assumption))))) ?_
  | refine ss_ret ?_ | exact ss_retN
  | refine ss_if ?_ ?_ ?_
  | refine z_asg (by (first | assumption | exact EZ.sx (by assumption))) (by rfl) (by (first | exact Or.inl rfl | exact Or.inr rfl)) (by (first | exact Or.inl rfl | exact Or.inr rfl)) ?_ (by rfl) (by (first | (intro _ _ _ _ z; cases z; done) | (intro _ _ _ _ z; cases z; simp [slT, slTs])))
  | refine z_par (by (first | assumption | exact EZ.blk (by assumption))) (by rfl) (by rfl) (by decide) (by rfl) (by rfl) ?_ (by rfl) (by rfl) (by (first | (intro _ _ _ _ z; cases z; done) | (intro _ _ _ _ z; cases z; simp [slT, slTs])))
  | refine z_fld (by (first | assumption | exact EZ.blk (by assumption))) (by rfl) ?_ ?_ (by rfl)
  | refine ss_expr ?_ (by rfl)
  | refine z_for (by (first | assumption | exact EZ.blk (by assumption))) (by first | assumption | exact passes_of rfl) ?_ ?_ ?_ (by intro _; rfl) (by (first | (intro _ _ _ _ z; cases z; done) | (intro _ _ _ _ z; cases z; simp [slT, slTs])))
  | refine z_raise (by (first | assumption | exact EZ.blk (by assumption))) (by decide +kernel) (by rfl) (by decide +kernel) (by rfl) ?_
  | refine z_try (by (first | assumption | exact EZ.blk (by assumption))) (by rfl) (by rfl) (by rfl) (by rfl) (by decide +kernel) (by rfl) (by decide +kernel) (by rfl) (fun W' pn xe q hp => ?_) (fun a oe cls d pn hz hf q => ?_)
  | exact ss_pass | exact ss_brk | exact ss_cnt)
end K02
end
section
set_option Elab.async false
set_option linter.all false
set_option maxRecDepth 100000
set_option maxHeartbeats 2000000
namespace K02
open PySem L2 MP
theorem b7 {P : Program} {w : World} {Kf : PySem.W.Frag} {mg : Str → Option Value} {base : Heap} {cls : Nat → Addr} {pre : List Addr} {adr : Nat → Addr} {k : Nat} {a : Addr} {cdv : Value} {A : Around} {outer : List Env} {s : Shared} {H : Hp} {E : XK}
    (q : EZ k (cxOf (L2.CX P w) P w Kf mg base n7 "Statement.__init__" (defScope s7) a cdv A outer s H E) (dk (GG Kf cls pre) Γ0 nm0 T 0 k) (fun c d _ H' => E c d H') LL adr) :
    PSs (cxOf (L2.CX P w) P w Kf mg base n7 "Statement.__init__" (defScope s7) a cdv A outer s H E) (defBody s7) (tB (dk (GG Kf cls pre) Γ0 nm0 T 0 k) 0 (fun c d _ H' => E c d H') none f7.body) := by
  repeat' (first
  | exact sb_nil | refine sb_cons ?_ ?_
  | exact sa_nil | refine sa_cons ?_ ?_
  | exact z_var (by (first | assumption | exact EZ.sx (by assumption))) (by rfl) (by (first | exact Or.inl rfl | exact Or.inr (Or.inl rfl) | exact Or.inr (Or.inr rfl))) (by decide +kernel)
  | exact z_int (by (first | assumption | exact EZ.sx (by assumption))) | exact z_str (by (first | assumption | exact EZ.sx (by assumption))) | exact z_bl (by (first | assumption | exact EZ.sx (by assumption))) | exact z_non (by (first | assumption | exact EZ.sx (by assumption)))
  | refine z_bin (by (first | assumption | exact EZ.sx (by assumption))) ?_ ?_
  | refine z_neg (by (first | assumption | exact EZ.sx (by assumption))) ?_
  | refine z_cmp (by (first | assumption | exact EZ.sx (by assumption))) ?_ ?_ (by rfl)
  | refine z_cmp2 (by (first | assumption | exact EZ.sx (by assumption))) ?_ ?_ ?_ (by rfl)
  | refine se_and ?_ ?_ | refine se_or ?_ ?_ | refine se_not ?_ | refine se_one ?_
  | refine SE.val (t := true) (se_and ?_ ?_)
  | refine se_ife ?_ ?_ ?_
  | refine se_lst (ES'.toEX (by (first | assumption | exact EZ.sx (by assumption)))) ?_ | refine se_tup (ES'.toEX (by (first | assumption | exact EZ.sx (by assumption)))) ?_
  | refine se_ix (ES'.toEX (by (first | assumption | exact EZ.sx (by assumption)))) ?_ ?_ (by intro _ _; rfl)
  | refine se_sl (ES'.toEX (by (first | assumption | exact EZ.sx (by assumption)))) ?_ ?_ ?_ | exact so_none | refine so_some ?_
  | refine z_curF (by (first | assumption | exact EZ.sx (by assumption))) (by assumption) (by assumption) (by rfl) (by (first | exact Or.inl rfl | exact Or.inr (Or.inl rfl) | exact Or.inr (Or.inr rfl))) (by decide +kernel) (by rfl) (by rfl)
  | refine z_curI (by (first | assumption | exact EZ.sx (by assumption))) (by assumption) (by assumption) (by rfl) (by (first | exact Or.inl rfl | exact Or.inr (Or.inl rfl) | exact Or.inr (Or.inr rfl))) (by decide +kernel) (by rfl) (by decide +kernel) (by rfl) (by decide +kernel) (by rfl) (by rfl) (by decide +kernel)
  | refine z_curB (by (first | assumption | exact EZ.sx (by assumption))) (by assumption) (by assumption) (by rfl) (by (first | exact Or.inl rfl | exact Or.inr (Or.inl rfl) | exact Or.inr (Or.inr rfl))) (by decide +kernel) (by rfl) (by decide +kernel) (by rfl) (by decide +kernel) (by (first | rfl | decide +kernel)) (by decide +kernel) (by rfl) (by decide +kernel)
  | refine z_glb (by (first | assumption | exact EZ.sx (by assumption))) (by decide +kernel) (by rfl) (by decide +kernel)
  | refine z_call (by (first | assumption | exact EZ.blk (by assumption))) (by decide +kernel) (by decide +kernel) (by rfl) ?_
  | refine z_make (by (first | assumption | exact EZ.blk (by assumption))) (by decide +kernel) (by decide +kernel) (by rfl) ?_
  | refine z_lenSet (by (first | assumption | exact EZ.sx (by assumption))) (by rfl) (by rfl) (by rfl) (by decide +kernel) (by decide +kernel) (by rfl) (by rfl) ?_
  | refine z_biB (by (first | assumption | exact EZ.sx (by assumption))) (by (first | exact Or.inl rfl | exact Or.inr rfl)) (by decide) (by rfl) (by decide +kernel) (by rfl) (by (first | rfl | decide +kernel)) (by decide +kernel) ?_
  | refine z_biT (by (first | assumption | exact EZ.sx (by assumption))) (by (first | exact Or.inl rfl | exact Or.inr rfl)) (by decide) (by rfl) (by decide +kernel) (by rfl) (by (first | rfl | decide +kernel)) (by decide +kernel) ?_
  | refine z_isI (by (first | assumption | exact EZ.sx (by assumption))) (by rfl) (by decide +kernel) (by rfl) ?_ (by rfl) (by decide +kernel) (by (first | rfl | decide +kernel)) (by decide +kernel)
  | refine z_isI2 (by (first | assumption | exact EZ.sx (by assumption))) (by rfl) (by decide +kernel) (by rfl) ?_ (by rfl) (by decide +kernel) (by (first | rfl | decide +kernel)) (by decide +kernel) (by rfl) (by decide +kernel) (by (first | rfl | decide +kernel)) (by decide +kernel)
  | refine z_callv (by (first | assumption | exact EZ.blk (by assumption))) (by rfl) (by (first | exact Or.inl rfl | exact Or.inr (Or.inl rfl) | exact Or.inr (Or.inr rfl))) (by decide +kernel) ?_
  | refine z_clm (by (first | assumption | exact EZ.blk (by assumption))) (by decide +kernel) (by decide +kernel) (by rfl) (by rfl) ?_ (by rfl)
  | refine se_join (by rfl) (ES'.toEX (by (first | assumption | exact EZ.sx (by assumption)))) ?_ ?_ (by rfl) (by rfl) (by rfl)
  | refine se_count (by rfl) (ES'.toEX (by (first | assumption | exact EZ.sx (by assumption)))) ?_ ?_ (by rfl) (by rfl) (by rfl)
  | refine se_append (by rfl) (ES'.toEX (by (first | assumption | exact EZ.sx (by assumption)))) ?_ ?_ (by rfl) (by rfl) (by rfl)
  | refine se_index (by rfl) (ES'.toEX (by (first | assumption | exact EZ.sx (by assumption)))) ?_ ?_ (by rfl) (by rfl) (by rfl)
  | refine se_att (EZ.toEY (by (first | assumption | exact EZ.blk (by assumption)))) (by rfl) ?_ (by rfl)
  | exact se_dct0 (ES'.toEX (by (first | assumption | exact EZ.sx (by assumption))))
  | exact se_dct (ES'.toEX (by (first | assumption | exact EZ.sx (by assumption)))) (.cons pe_int pe_int (by intro a z; cases z) .nil) (by rfl) (by rfl) (by intro z; cases z) (by decide) (by decide)
  | refine z_lc (by (first | assumption | exact EZ.blk (by assumption))) ?_ (by rfl) (fun s H C cl fp q => ?_) (fun s H C cl fp q => ?_) (fun s H C cl fp q => ?_) (by intro _; rfl) (by (intro j hj; simpa [slT, slTs] using hj))
  | exact sc_none | refine sc_one ?_
  | exact z_sgn (EZ.nd (by (first | assumption | exact EZ.blk (by assumption)))) (by rfl) (by (first | exact Or.inl rfl | exact Or.inr rfl)) (by (first | exact Or.inl rfl | exact Or.inr rfl))
  | refine z_sgt (EX.K (EY.toEX (EZ.toEY (by (first | assumption | exact EZ.blk (by assumption)))))) (EY.cm (EZ.toEY (by (first | assumption | exact EZ.blk (by assumption))))) ?_ (by rfl) (by rfl)
  | exact z_sgs0 | refine z_sgs ?_ ?_ (by rfl)
  | refine z_rng1 (by (first | assumption | exact EZ.sx (by assumption))) (by rfl) (by decide +kernel) (by rfl) ?_
  | refine z_enum (by (first | assumption | exact EZ.sx (by assumption))) (by rfl) (by decide +kernel) (by rfl) ?_
  | refine si_ev (EX.K (ES'.toEX (by (first | assumption | exact EZ.sx (by assumption))))) ?_
  | refine ss_ret ?_ | exact ss_retN
  | refine ss_if ?_ ?_ ?_
  | refine z_asg (by (first | assumption | exact EZ.sx (by assumption))) (by rfl) (by (first | exact Or.inl rfl | exact Or.inr rfl)) (by (first | exact Or.inl rfl | exact Or.inr rfl)) ?_ (by rfl) (by (first | (intro _ _ _ _ z; cases z; done) | (intro _ _ _ _ z; cases z; simp [slT, slTs])))
  | refine z_par (by (first | assumption | exact EZ.blk (by assumption))) (by rfl) (by rfl) (by decide) (by rfl) (by rfl) ?_ (by rfl) (by rfl) (by (first | (intro _ _ _ _ z; cases z; done) | (intro _ _ _ _ z; cases z; simp [slT, slTs])))
  | refine z_fld (by (first | assumption | exact EZ.blk (by assumption))) (by rfl) ?_ ?_ (by rfl)
  | refine ss_expr ?_ (by rfl)
  | refine z_for (by (first | assumption | exact EZ.blk (by assumption))) (by first | assumption | exact passes_of rfl) ?_ ?_ ?_ (by intro _; rfl) (by (first | (intro _ _ _ _ z; cases z; done) | (intro _ _ _ _ z; cases z; simp [slT, slTs])))
  | refine z_raise (by (first | assumption | exact EZ.blk (by assumption))) (by decide +kernel) (by rfl) (by decide +kernel) (by rfl) ?_
  | refine z_try (by (first | assumption | exact EZ.blk (by assumption))) (by rfl) (by rfl) (by rfl) (by rfl) (by decide +kernel) (by rfl) (by decide +kernel) (by rfl) (fun W' pn xe q hp => ?_) (fun a oe cls d pn hz hf q => ?_)
  | exact ss_pass | exact ss_brk | exact ss_cnt)
end K02
end
section
set_option Elab.async false
set_option linter.all false
set_option maxRecDepth 100000
set_option maxHeartbeats 2000000
namespace K02
open PySem L2 MP
theorem b8 {P : Program} {w : World} {Kf : PySem.W.Frag} {mg : Str → Option Value} {base : Heap} {cls : Nat → Addr} {pre : List Addr} {adr : Nat → Addr} {k : Nat} {a : Addr} {cdv : Value} {A : Around} {outer : List Env} {s : Shared} {H : Hp} {E : XK}
    (q : EZ k (cxOf (L2.CX P w) P w Kf mg base n8 "Statement.of_numbers" (defScope s8) a cdv A outer s H E) (dk (GG Kf cls pre) Γ0 nm0 T 0 k) (fun c d _ H' => E c d H') LL adr) :
    PSs (cxOf (L2.CX P w) P w Kf mg base n8 "Statement.of_numbers" (defScope s8) a cdv A outer s H E) (defBody s8) (tB (dk (GG Kf cls pre) Γ0 nm0 T 0 k) 0 (fun c d _ H' => E c d H') none f8.body) := by
  repeat' (first
  | exact sb_nil | refine sb_cons ?_ ?_
  | exact sa_nil | refine sa_cons ?_ ?_
  | exact z_var (by (first | assumption | exact EZ.sx (by assumption))) (by rfl) (by (first | exact Or.inl rfl | exact Or.inr (Or.inl rfl) | exact Or.inr (Or.inr rfl))) (by decide +kernel)
  | exact z_int (by (first | assumption | exact EZ.sx (by assumption))) | exact z_str (by (first | assumption | exact EZ.sx (by assumption))) | exact z_bl (by (first | assumption | exact EZ.sx (by assumption))) | exact z_non (by (first | assumption | exact EZ.sx (by assumption)))
  | refine z_bin (by (first | assumption | exact EZ.sx (by assumption))) ?_ ?_
  | refine z_neg (by (first | assumption | exact EZ.sx (by assumption))) ?_
  | refine z_cmp (by (first | assumption | exact EZ.sx (by assumption))) ?_ ?_ (by rfl)
  | refine z_cmp2 (by (first | assumption | exact EZ.sx (by assumption))) ?_ ?_ ?_ (by rfl)
  | refine se_and ?_ ?_ | refine se_or ?_ ?_ | refine se_not ?_ | refine se_one ?_
  | refine SE.val (t := true) (se_and ?_ ?_)
  | refine se_ife ?_ ?_ ?_
  | refine se_lst (ES'.toEX (by (first | assumption | exact EZ.sx (by assumption)))) ?_ | refine se_tup (ES'.toEX (by (first | assumption | exact EZ.sx (by assumption)))) ?_
  | refine se_ix (ES'.toEX (by (first | assumption | exact EZ.sx (by assumption)))) ?_ ?_ (by intro _ _; rfl)
  | refine se_sl (ES'.toEX (by (first | assumption | exact EZ.sx (by assumption)))) ?_ ?_ ?_ | exact so_none | refine so_some ?_
  | refine z_curF (by (first | assumption | exact EZ.sx (by assumption))) (by assumption) (by assumption) (by rfl) (by (first | exact Or.inl rfl | exact Or.inr (Or.inl rfl) | exact Or.inr (Or.inr rfl))) (by decide +kernel) (by rfl) (by rfl)
  | refine z_curI (by (first | assumption | exact EZ.sx (by assumption))) (by assumption) (by assumption) (by rfl) (by (first | exact Or.inl rfl | exact Or.inr (Or.inl rfl) | exact Or.inr (Or.inr rfl))) (by decide +kernel) (by rfl) (by decide +kernel) (by rfl) (by decide +kernel) (by rfl) (by rfl) (by decide +kernel)
  | refine z_curB (by (first | assumption | exact EZ.sx (by assumption))) (by assumption) (by assumption) (by rfl) (by (first | exact Or.inl rfl | exact Or.inr (Or.inl rfl) | exact Or.inr (Or.inr rfl))) (by decide +kernel) (by rfl) (by decide +kernel) (by rfl) (by decide +kernel) (by (first | rfl | decide +kernel)) (by decide +kernel) (by rfl) (by decide +kernel)
  | refine z_glb (by (first | assumption | exact EZ.sx (by assumption))) (by decide +kernel) (by rfl) (by decide +kernel)
  | refine z_call (by (first | assumption | exact EZ.blk (by assumption))) (by decide +kernel) (by decide +kernel) (by rfl) ?_
  | refine z_make (by (first | assumption | exact EZ.blk (by assumption))) (by decide +kernel) (by decide +kernel) (by rfl) ?_
  | refine z_lenSet (by (first | assumption | exact EZ.sx (by assumption))) (by rfl) (by rfl) (by rfl) (by decide +kernel) (by decide +kernel) (by rfl) (by rfl) ?_
  | refine z_biB (by (first | assumption | exact EZ.sx (by assumption))) (by (first | exact Or.inl rfl | exact Or.inr rfl)) (by decide) (by rfl) (by decide +kernel) (by rfl) (by (first | rfl | decide +kernel)) (by decide +kernel) ?_
  | refine z_biT (by (first | assumption | exact EZ.sx (by assumption))) (by (first | exact Or.inl rfl | exact Or.inr rfl)) (by decide) (by rfl) (by decide +kernel) (by rfl) (by (first | rfl | decide +kernel)) (by decide +kernel) ?_
  | refine z_isI (by (first | assumption | exact EZ.sx (by assumption))) (by rfl) (by decide +kernel) (by rfl) ?_ (by rfl) (by decide +kernel) (by (first | rfl | decide +kernel)) (by decide +kernel)
  | refine z_isI2 (by (first | assumption | exact EZ.sx (by assumption))) (by rfl) (by decide +kernel) (by rfl) ?_ (by rfl) (by decide +kernel) (by (first | rfl | decide +kernel)) (by decide +kernel) (by rfl) (by decide +kernel) (by (first | rfl | decide +kernel)) (by decide +kernel)
  | refine z_callv (by (first | assumption | exact EZ.blk (by assumption))) (by rfl) (by (first | exact Or.inl rfl | exact Or.inr (Or.inl rfl) | exact Or.inr (Or.inr rfl))) (by decide +kernel) ?_
  | refine z_clm (by (first | assumption | exact EZ.blk (by assumption))) (by decide +kernel) (by decide +kernel) (by rfl) (by rfl) ?_ (by rfl)
  | refine se_join (by rfl) (ES'.toEX (by (first | assumption | exact EZ.sx (by assumption)))) ?_ ?_ (by rfl) (by rfl) (by rfl)
  | refine se_count (by rfl) (ES'.toEX (by (first | assumption | exact EZ.sx (by assumption)))) ?_ ?_ (by rfl) (by rfl) (by rfl)
  | refine se_append (by rfl) (ES'.toEX (by (first | assumption | exact EZ.sx (by assumption)))) ?_ ?_ (by rfl) (by rfl) (by rfl)
  | refine se_index (by rfl) (ES'.toEX (by (first | assumption | exact EZ.sx (by assumption)))) ?_ ?_ (by rfl) (by rfl) (by rfl)
  | refine se_att (EZ.toEY (by (first | assumption | exact EZ.blk (by assumption)))) (by rfl) ?_ (by rfl)
  | exact se_dct0 (ES'.toEX (by (first | assumption | exact EZ.sx (by assumption))))
  | exact se_dct (ES'.toEX (by (first | assumption | exact EZ.sx (by assumption)))) (.cons pe_int pe_int (by intro a z; cases z) .nil) (by rfl) (by rfl) (by intro z; cases z) (by decide) (by decide)
  | refine z_lc (by (first | assumption | exact EZ.blk (by assumption))) ?_ (by rfl) (fun s H C cl fp q => ?_) (fun s H C cl fp q => ?_) (fun s H C cl fp q => ?_) (by intro _; rfl) (by (intro j hj; simpa [slT, slTs] using hj))
  | exact sc_none | refine sc_one ?_
  | exact z_sgn (EZ.nd (by (first | assumption | exact EZ.blk (by assumption)))) (by rfl) (by (first | exact Or.inl rfl | exact Or.inr rfl)) (by (first | exact Or.inl rfl | exact Or.inr rfl))
  | refine z_sgt (EX.K (EY.toEX (EZ.toEY (by (first | assumption | exact EZ.blk (by assumption)))))) (EY.cm (EZ.toEY (by (first | assumption | exact EZ.blk (by assumption))))) ?_ (by rfl) (by rfl)
  | exact z_sgs0 | refine z_sgs ?_ ?_ (by rfl)
  | refine z_rng1 (by (first | assumption | exact EZ.sx (by assumption))) (by rfl) (by decide +kernel) (by rfl) ?_
  | refine z_enum (by (first | assumption | exact EZ.sx (by assumption))) (by rfl) (by decide +kernel) (by rfl) ?_
  | refine si_ev (EX.K (ES'.toEX (by (first | assumption | exact EZ.sx (by assumption))))) ?_
  | refine ss_ret ?_ | exact ss_retN
  | refine ss_if ?_ ?_ ?_
  | refine z_asg (by (first | assumption | exact EZ.sx (by assumption))) (by rfl) (by (first | exact Or.inl rfl | exact Or.inr rfl)) (by (first | exact Or.inl rfl | exact Or.inr rfl)) ?_ (by rfl) (by (first | (intro _ _ _ _ z; cases z; done) | (intro _ _ _ _ z; cases z; simp [slT, slTs])))
  | refine z_par (by (first | assumption | exact EZ.blk (by assumption))) (by rfl) (by rfl) (by decide) (by rfl) (by rfl) ?_ (by rfl) (by rfl) (by (first | (intro _ _ _ _ z; cases z; done) | (intro _ _ _ _ z; cases z; simp [slT, slTs])))
  | refine z_fld (by (first | assumption | exact EZ.blk (by assumption))) (by rfl) ?_ ?_ (by rfl)
  | refine ss_expr ?_ (by rfl)
  | refine z_for (by (first | assumption | exact EZ.blk (by assumption))) (by first | assumption | exact passes_of rfl) ?_ ?_ ?_ (by intro _; rfl) (by (first | (intro _ _ _ _ z; cases z; done) | (intro _ _ _ _ z; cases z; simp [slT, slTs])))
  | refine z_raise (by (first | assumption | exact EZ.blk (by assumption))) (by decide +kernel) (by rfl) (by decide +kernel) (by rfl) ?_
  | refine z_try (by (first | assumption | exact EZ.blk (by assumption))) (by rfl) (by rfl) (by rfl) (by rfl) (by decide +kernel) (by rfl) (by decide +kernel) (by rfl) (fun W' pn xe q hp => ?_) (fun a oe cls d pn hz hf q => ?_)
  | exact ss_pass | exact ss_brk | exact ss_cnt)
end K02
end
section
set_option Elab.async false
set_option linter.all false
set_option maxRecDepth 100000
set_option maxHeartbeats 2000000
namespace K02
open PySem L2 MP
theorem b9 {P : Program} {w : World} {Kf : PySem.W.Frag} {mg : Str → Option Value} {base : Heap} {cls : Nat → Addr} {pre : List Addr} {adr : Nat → Addr} {k : Nat} {a : Addr} {cdv : Value} {A : Around} {outer : List Env} {s : Shared} {H : Hp} {E : XK}
    (q : EZ k (cxOf (L2.CX P w) P w Kf mg base n9 "Statement.is_text" (defScope s9) a cdv A outer s H E) (dk (GG Kf cls pre) Γ0 nm0 T 0 k) (fun c d _ H' => E c d H') LL adr) :
    PSs (cxOf (L2.CX P w) P w Kf mg base n9 "Statement.is_text" (defScope s9) a cdv A outer s H E) (defBody s9) (tB (dk (GG Kf cls pre) Γ0 nm0 T 0 k) 0 (fun c d _ H' => E c d H') none f9.body) := by
  repeat' (first
  | exact sb_nil | refine sb_cons ?_ ?_
  | exact sa_nil | refine sa_cons ?_ ?_
  | exact z_var (by (first | assumption | exact EZ.sx (by assumption))) (by rfl) (by (first | exact Or.inl rfl | exact Or.inr (Or.inl rfl) | exact Or.inr (Or.inr rfl))) (by decide +kernel)
  | exact z_int (by (first | assumption | exact EZ.sx (by assumption))) | exact z_str (by (first | assumption | exact EZ.sx (by assumption))) | exact z_bl (by (first | assumption | exact EZ.sx (by assumption))) | exact z_non (by (first | assumption | exact EZ.sx (by assumption)))
  | refine z_bin (by (first | assumption | exact EZ.sx (by assumption))) ?_ ?_
  | refine z_neg (by (first | assumption | exact EZ.sx (by assumption))) ?_
  | refine z_cmp (by (first | assumption | exact EZ.sx (by assumption))) ?_ ?_ (by rfl)
  | refine z_cmp2 (by (first | assumption | exact EZ.sx (by assumption))) ?_ ?_ ?_ (by rfl)
  | refine se_and ?_ ?_ | refine se_or ?_ ?_ | refine se_not ?_ | refine se_one ?_
  | refine SE.val (t := true) (se_and ?_ ?_)
  | refine se_ife ?_ ?_ ?_
  | refine se_lst (ES'.toEX (by (first | assumption | exact EZ.sx (by assumption)))) ?_ | refine se_tup (ES'.toEX (by (first | assumption | exact EZ.sx (by assumption)))) ?_
  | refine se_ix (ES'.toEX (by (first | assumption | exact EZ.sx (by assumption)))) ?_ ?_ (by intro _ _; rfl)
  | refine se_sl (ES'.toEX (by (first | assumption | exact EZ.sx (by assumption)))) ?_ ?_ ?_ | exact so_none | refine so_some ?_
  | refine z_curF (by (first | assumption | exact EZ.sx (by assumption))) (by assumption) (by assumption) (by rfl) (by (first | exact Or.inl rfl | exact Or.inr (Or.inl rfl) | exact Or.inr (Or.inr rfl))) (by decide +kernel) (by rfl) (by rfl)
  | refine z_curI (by (first | assumption | exact EZ.sx (by assumption))) (by assumption) (by assumption) (by rfl) (by (first | exact Or.inl rfl | exact Or.inr (Or.inl rfl) | exact Or.inr (Or.inr rfl))) (by decide +kernel) (by rfl) (by decide +kernel) (by rfl) (by decide +kernel) (by rfl) (by rfl) (by decide +kernel)
  | refine z_curB (by (first | assumption | exact EZ.sx (by assumption))) (by assumption) (by assumption) (by rfl) (by (first | exact Or.inl rfl | exact Or.inr (Or.inl rfl) | exact Or.inr (Or.inr rfl))) (by decide +kernel) (by rfl) (by decide +kernel) (by rfl) (by decide +kernel) (by (first | rfl | decide +kernel)) (by decide +kernel) (by rfl) (by decide +kernel)
  | refine z_glb (by (first | assumption | exact EZ.sx (by assumption))) (by decide +kernel) (by rfl) (by decide +kernel)
  | refine z_call (by (first | assumption | exact EZ.blk (by assumption))) (by decide +kernel) (by decide +kernel) (by rfl) ?_
  | refine z_make (by (first | assumption | exact EZ.blk (by assumption))) (by decide +kernel) (by decide +kernel) (by rfl) ?_
  | refine z_lenSet (by (first | assumption | exact EZ.sx (by assumption))) (by rfl) (by rfl) (by rfl) (by decide +kernel) (by decide +kernel) (by rfl) (by rfl) ?_
  | refine z_biB (by (first | assumption | exact EZ.sx (by assumption))) (by (first | exact Or.inl rfl | exact Or.inr rfl)) (by decide) (by rfl) (by decide +kernel) (by rfl) (by (first | rfl | decide +kernel)) (by decide +kernel) ?_
  | refine z_biT (by (first | assumption | exact EZ.sx (by assumption))) (by (first | exact Or.inl rfl | exact Or.inr rfl)) (by decide) (by rfl) (by decide +kernel) (by rfl) (by (first | rfl | decide +kernel)) (by decide +kernel) ?_
  | refine z_isI (by (first | assumption | exact EZ.sx (by assumption))) (by rfl) (by decide +kernel) (by rfl) ?_ (by rfl) (by decide +kernel) (by (first | rfl | decide +kernel)) (by decide +kernel)
  | refine z_isI2 (by (first | assumption | exact EZ.sx (by assumption))) (by rfl) (by decide +kernel) (by rfl) ?_ (by rfl) (by decide +kernel) (by (first | rfl | decide +kernel)) (by decide +kernel) (by rfl) (by decide +kernel) (by (first | rfl | decide +kernel)) (by decide +kernel)
  | refine z_callv (by (first | assumption | exact EZ.blk (by assumption))) (by rfl) (by (first | exact Or.inl rfl | exact Or.inr (Or.inl rfl) | exact Or.inr (Or.inr rfl))) (by decide +kernel) ?_
  | refine z_clm (by (first | assumption | exact EZ.blk (by assumption))) (by decide +kernel) (by decide +kernel) (by rfl) (by rfl) ?_ (by rfl)
  | refine se_join (by rfl) (ES'.toEX (by (first | assumption | exact EZ.sx (by assumption)))) ?_ ?_ (by rfl) (by rfl) (by rfl)
  | refine se_count (by rfl) (ES'.toEX (by (first | assumption | exact EZ.sx (by assumption)))) ?_ ?_ (by rfl) (by rfl) (by rfl)
  | refine se_append (by rfl) (ES'.toEX (by (first | assumption | exact EZ.sx (by assumption)))) ?_ ?_ (by rfl) (by rfl) (by rfl)
  | refine se_index (by rfl) (ES'.toEX (by (first | assumption | exact EZ.sx (by assumption)))) ?_ ?_ (by rfl) (by rfl) (by rfl)
  | refine se_att (EZ.toEY (by (first | assumption | exact EZ.blk (by assumption)))) (by rfl) ?_ (by rfl)
  | exact se_dct0 (ES'.toEX (by (first | assumption | exact EZ.sx (by assumption))))
  | exact se_dct (ES'.toEX (by (first | assumption | exact EZ.sx (by assumption)))) (.cons pe_int pe_int (by intro a z; cases z) .nil) (by rfl) (by rfl) (by intro z; cases z) (by decide) (by decide)
  | refine z_lc (by (first | assumption | exact EZ.blk (by assumption))) ?_ (by rfl) (fun s H C cl fp q => ?_) (fun s H C cl fp q => ?_) (fun s H C cl fp q => ?_) (by intro _; rfl) (by (intro j hj; simpa [slT, slTs] using hj))
  | exact sc_none | refine sc_one ?_
  | exact z_sgn (EZ.nd (by (first | assumption | exact EZ.blk (by assumption)))) (by rfl) (by (first | exact Or.inl rfl | exact Or.inr rfl)) (by (first | exact Or.inl rfl | exact Or.inr rfl))
  | refine z_sgt (EX.K (EY.toEX (EZ.toEY (by (first | assumption | exact EZ.blk (by assumption)))))) (EY.cm (EZ.toEY (by (first | assumption | exact EZ.blk (by assumption))))) ?_ (by rfl) (by rfl)
  | exact z_sgs0 | refine z_sgs ?_ ?_ (by rfl)
  | refine z_rng1 (by (first | assumption | exact EZ.sx (by assumption))) (by rfl) (by decide +kernel) (by rfl) ?_
  | refine z_enum (by (first | assumption | exact EZ.sx (by assumption))) (by rfl) (by decide +kernel) (by rfl) ?_
  | refine si_ev (EX.K (ES'.toEX (by (first | assumption | exact EZ.sx (by assumption))))) ?_
  | refine ss_ret ?_ | exact ss_retN
  | refine ss_if ?_ ?_ ?_
  | refine z_asg (by (first | assumption | exact EZ.sx (by assumption))) (by rfl) (by (first | exact Or.inl rfl | exact Or.inr rfl)) (by (first | exact Or.inl rfl | exact Or.inr rfl)) ?_ (by rfl) (by (first | (intro _ _ _ _ z; cases z; done) | (intro _ _ _ _ z; cases z; simp [slT, slTs])))
  | refine z_par (by (first | assumption | exact EZ.blk (by assumption))) (by rfl) (by rfl) (by decide) (by rfl) (by rfl) ?_ (by rfl) (by rfl) (by (first | (intro _ _ _ _ z; cases z; done) | (intro _ _ _ _ z; cases z; simp [slT, slTs])))
  | refine z_fld (by (first | assumption | exact EZ.blk (by assumption))) (by rfl) ?_ ?_ (by rfl)
  | refine ss_expr ?_ (by rfl)
  | refine z_for (by (first | assumption | exact EZ.blk (by assumption))) (by first | assumption | exact passes_of rfl) ?_ ?_ ?_ (by intro _; rfl) (by (first | (intro _ _ _ _ z; cases z; done) | (intro _ _ _ _ z; cases z; simp [slT, slTs])))
  | refine z_raise (by (first | assumption | exact EZ.blk (by assumption))) (by decide +kernel) (by rfl) (by decide +kernel) (by rfl) ?_
  | refine z_try (by (first | assumption | exact EZ.blk (by assumption))) (by rfl) (by rfl) (by rfl) (by rfl) (by decide +kernel) (by rfl) (by decide +kernel) (by rfl) (fun W' pn xe q hp => ?_) (fun a oe cls d pn hz hf q => ?_)
  | exact ss_pass | exact ss_brk | exact ss_cnt)
end K02
end
section
set_option Elab.async false
set_option linter.all false
set_option maxRecDepth 100000
set_option maxHeartbeats 2000000
namespace K02
open PySem L2 MP
theorem b10 {P : Program} {w : World} {Kf : PySem.W.Frag} {mg : Str → Option Value} {base : Heap} {cls : Nat → Addr} {pre : List Addr} {adr : Nat → Addr} {k : Nat} {a : Addr} {cdv : Value} {A : Around} {outer : List Env} {s : Shared} {H : Hp} {E : XK}
    (q : EZ k (cxOf (L2.CX P w) P w Kf mg base n10 "Statement.text" (defScope s10) a cdv A outer s H E) (dk (GG Kf cls pre) Γ0 nm0 T 0 k) (fun c d _ H' => E c d H') LL adr) :
    PSs (cxOf (L2.CX P w) P w Kf mg base n10 "Statement.text" (defScope s10) a cdv A outer s H E) (defBody s10) (tB (dk (GG Kf cls pre) Γ0 nm0 T 0 k) 0 (fun c d _ H' => E c d H') none f10.body) := by
  repeat' (first
  | exact sb_nil | refine sb_cons ?_ ?_
  | exact sa_nil | refine sa_cons ?_ ?_
  | exact z_var (by (first | assumption | exact EZ.sx (by assumption))) (by rfl) (by (first | exact Or.inl rfl | exact Or.inr (Or.inl rfl) | exact Or.inr (Or.inr rfl))) (by decide +kernel)
  | exact z_int (by (first | assumption | exact EZ.sx (by assumption))) | exact z_str (by (first | assumption | exact EZ.sx (by assumption))) | exact z_bl (by (first | assumption | exact EZ.sx (by assumption))) | exact z_non (by (first | assumption | exact EZ.sx (by assumption)))
  | refine z_bin (by (first | assumption | exact EZ.sx (by assumption))) ?_ ?_
  | refine z_neg (by (first | assumption | exact EZ.sx (by assumption))) ?_
  | refine z_cmp (by (first | assumption | exact EZ.sx (by assumption))) ?_ ?_ (by rfl)
  | refine z_cmp2 (by (first | assumption | exact EZ.sx (by assumption))) ?_ ?_ ?_ (by rfl)
  | refine se_and ?_ ?_ | refine se_or ?_ ?_ | refine se_not ?_ | refine se_one ?_
  | refine SE.val (t := true) (se_and ?_ ?_)
  | refine se_ife ?_ ?_ ?_
  | refine se_lst (ES'.toEX (by (first | assumption | exact EZ.sx (by assumption)))) ?_ | refine se_tup (ES'.toEX (by (first | assumption | exact EZ.sx (by assumption)))) ?_
  | refine se_ix (ES'.toEX (by (first | assumption | exact EZ.sx (by assumption)))) ?_ ?_ (by intro _ _; rfl)
  | refine se_sl (ES'.toEX (by (first | assumption | exact EZ.sx (by assumption)))) ?_ ?_ ?_ | exact so_none | refine so_some ?_
  | refine z_curF (by (first | assumption | exact EZ.sx (by assumption))) (by assumption) (by assumption) (by rfl) (by (first | exact Or.inl rfl | exact Or.inr (Or.inl rfl) | exact Or.inr (Or.inr rfl))) (by decide +kernel) (by rfl) (by rfl)
  | refine z_curI (by (first | assumption | exact EZ.sx (by assumption))) (by assumption) (by assumption) (by rfl) (by (first | exact Or.inl rfl | exact Or.inr (Or.inl rfl) | exact Or.inr (Or.inr rfl))) (by decide +kernel) (by rfl) (by decide +kernel) (by rfl) (by decide +kernel) (by rfl) (by rfl) (by decide +kernel)
  | refine z_curB (by (first | assumption | exact EZ.sx (by assumption))) (by assumption) (by assumption) (by rfl) (by (first | exact Or.inl rfl | exact Or.inr (Or.inl rfl) | exact Or.inr (Or.inr rfl))) (by decide +kernel) (by rfl) (by decide +kernel) (by rfl) (by decide +kernel) (by (first | rfl | decide +kernel)) (by decide +kernel) (by rfl) (by decide +kernel)
  | refine z_glb (by (first | assumption | exact EZ.sx (by assumption))) (by decide +kernel) (by rfl) (by decide +kernel)
  | refine z_call (by (first | assumption | exact EZ.blk (by assumption))) (by decide +kernel) (by decide +kernel) (by rfl) ?_
  | refine z_make (by (first | assumption | exact EZ.blk (by assumption))) (by decide +kernel) (by decide +kernel) (by rfl) ?_
  | refine z_lenSet (by (first | assumption | exact EZ.sx (by assumption))) (by rfl) (by rfl) (by rfl) (by decide +kernel) (by decide +kernel) (by rfl) (by rfl) ?_
  | refine z_biB (by (first | assumption | exact EZ.sx (by assumption))) (by (first | exact Or.inl rfl | exact Or.inr rfl)) (by decide) (by rfl) (by decide +kernel) (by rfl) (by (first | rfl | decide +kernel)) (by decide +kernel) ?_
  | refine z_biT (by (first | assumption | exact EZ.sx (by assumption))) (by (first | exact Or.inl rfl | exact Or.inr rfl)) (by decide) (by rfl) (by decide +kernel) (by rfl) (by (first | rfl | decide +kernel)) (by decide +kernel) ?_
  | refine z_isI (by (first | assumption | exact EZ.sx (by assumption))) (by rfl) (by decide +kernel) (by rfl) ?_ (by rfl) (by decide +kernel) (by (first | rfl | decide +kernel)) (by decide +kernel)
  | refine z_isI2 (by (first | assumption | exact EZ.sx (by assumption))) (by rfl) (by decide +kernel) (by rfl) ?_ (by rfl) (by decide +kernel) (by (first | rfl | decide +kernel)) (by decide +kernel) (by rfl) (by decide +kernel) (by (first | rfl | decide +kernel)) (by decide +kernel)
  | refine z_callv (by (first | assumption | exact EZ.blk (by assumption))) (by rfl) (by (first | exact Or.inl rfl | exact Or.inr (Or.inl rfl) | exact Or.inr (Or.inr rfl))) (by decide +kernel) ?_
  | refine z_clm (by (first | assumption | exact EZ.blk (by assumption))) (by decide +kernel) (by decide +kernel) (by rfl) (by rfl) ?_ (by rfl)
  | refine se_join (by rfl) (ES'.toEX (by (first | assumption | exact EZ.sx (by assumption)))) ?_ ?_ (by rfl) (by rfl) (by rfl)
  | refine se_count (by rfl) (ES'.toEX (by (first | assumption | exact EZ.sx (by assumption)))) ?_ ?_ (by rfl) (by rfl) (by rfl)
  | refine se_append (by rfl) (ES'.toEX (by (first | assumption | exact EZ.sx (by assumption)))) ?_ ?_ (by rfl) (by rfl) (by rfl)
  | refine se_index (by rfl) (ES'.toEX (by (first | assumption | exact EZ.sx (by assumption)))) ?_ ?_ (by rfl) (by rfl) (by rfl)
  | refine se_att (EZ.toEY (by (first | assumption | exact EZ.blk (by assumption)))) (by rfl) ?_ (by rfl)
  | exact se_dct0 (ES'.toEX (by (first | assumption | exact EZ.sx (by assumption))))
  | exact se_dct (ES'.toEX (by (first | assumption | exact EZ.sx (by assumption)))) (.cons pe_int pe_int (by intro a z; cases z) .nil) (by rfl) (by rfl) (by intro z; cases z) (by decide) (by decide)
  | refine z_lc (by (first | assumption | exact EZ.blk (by assumption))) ?_ (by rfl) (fun s H C cl fp q => ?_) (fun s H C cl fp q => ?_) (fun s H C cl fp q => ?_) (by intro _; rfl) (by (intro j hj; simpa [slT, slTs] using hj))
  | exact sc_none | refine sc_one ?_
  | exact z_sgn (EZ.nd (by (first | assumption | exact EZ.blk (by assumption)))) (by rfl) (by (first | exact Or.inl rfl | exact Or.inr rfl)) (by (first | exact Or.inl rfl | exact Or.inr rfl))
  | refine z_sgt (EX.K (EY.toEX (EZ.toEY (by (first | assumption | exact EZ.blk (by assumption)))))) (EY.cm (EZ.toEY (by (first | assumption | exact EZ.blk (by assumption))))) ?_ (by rfl) (by rfl)
  | exact z_sgs0 | refine z_sgs ?_ ?_ (by rfl)
  | refine z_rng1 (by (first | assumption | exact EZ.sx (by assumption))) (by rfl) (by decide +kernel) (by rfl) ?_
  | refine z_enum (by (first | assumption | exact EZ.sx (by assumption))) (by rfl) (by decide +kernel) (by rfl) ?_
  | refine si_ev (EX.K (ES'.toEX (by (first | assumption | exact EZ.sx (by assumption))))) ?_
  | refine ss_ret ?_ | exact ss_retN
  | refine ss_if ?_ ?_ ?_
  | refine z_asg (by (first | assumption | exact EZ.sx (by assumption))) (by rfl) (by (first | exact Or.inl rfl | exact Or.inr rfl)) (by (first | exact Or.inl rfl | exact Or.inr rfl)) ?_ (by rfl) (by (first | (intro _ _ _ _ z; cases z; done) | (intro _ _ _ _ z; cases z; simp [slT, slTs])))
  | refine z_par (by (first | assumption | exact EZ.blk (by assumption))) (by rfl) (by rfl) (by decide) (by rfl) (by rfl) ?_ (by rfl) (by rfl) (by (first | (intro _ _ _ _ z; cases z; done) | (intro _ _ _ _ z; cases z; simp [slT, slTs])))
  | refine z_fld (by (first | assumption | exact EZ.blk (by assumption))) (by rfl) ?_ ?_ (by rfl)
  | refine ss_expr ?_ (by rfl)
  | refine z_for (by (first | assumption | exact EZ.blk (by assumption))) (by first | assumption | exact passes_of rfl) ?_ ?_ ?_ (by intro _; rfl) (by (first | (intro _ _ _ _ z; cases z; done) | (intro _ _ _ _ z; cases z; simp [slT, slTs])))
  | refine z_raise (by (first | assumption | exact EZ.blk (by assumption))) (by decide +kernel) (by rfl) (by decide +kernel) (by rfl) ?_
  | refine z_try (by (first | assumption | exact EZ.blk (by assumption))) (by rfl) (by rfl) (by rfl) (by rfl) (by decide +kernel) (by rfl) (by decide +kernel) (by rfl) (fun W' pn xe q hp => ?_) (fun a oe cls d pn hz hf q => ?_)
  | exact ss_pass | exact ss_brk | exact ss_cnt)
end K02
end
section
set_option Elab.async false
set_option linter.all false
set_option maxRecDepth 100000
set_option maxHeartbeats 2000000
namespace K02
open PySem L2 MP
theorem b16 {P : Program} {w : World} {Kf : PySem.W.Frag} {mg : Str → Option Value} {base : Heap} {cls : Nat → Addr} {pre : List Addr} {adr : Nat → Addr} {k : Nat} {a : Addr} {cdv : Value} {A : Around} {outer : List Env} {s : Shared} {H : Hp} {E : XK}
    (q : EZ k (cxOf (L2.CX P w) P w Kf mg base n16 "Statement.__call__" (defScope s16) a cdv A outer s H E) (dk (GG Kf cls pre) Γ0 nm0 T 0 k) (fun c d _ H' => E c d H') LL adr) :
    PSs (cxOf (L2.CX P w) P w Kf mg base n16 "Statement.__call__" (defScope s16) a cdv A outer s H E) (defBody s16) (tB (dk (GG Kf cls pre) Γ0 nm0 T 0 k) 0 (fun c d _ H' => E c d H') none f16.body) := by
  repeat' (first
  | exact sb_nil | refine sb_cons ?_ ?_
  | exact sa_nil | refine sa_cons ?_ ?_
  | exact z_var (by (first | assumption | exact EZ.sx (by assumption))) (by rfl) (by (first | exact Or.inl rfl | exact Or.inr (Or.inl rfl) | exact Or.inr (Or.inr rfl))) (by decide +kernel)
  | exact z_int (by (first | assumption | exact EZ.sx (by assumption))) | exact z_str (by (first | assumption | exact EZ.sx (by assumption))) | exact z_bl (by (first | assumption | exact EZ.sx (by assumption))) | exact z_non (by (first | assumption | exact EZ.sx (by assumption)))
  | refine z_bin (by (first | assumption | exact EZ.sx (by assumption))) ?_ ?_
  | refine z_neg (by (first | assumption | exact EZ.sx (by assumption))) ?_
  | refine z_cmp (by (first | assumption | exact EZ.sx (by assumption))) ?_ ?_ (by rfl)
  | refine z_cmp2 (by (first | assumption | exact EZ.sx (by assumption))) ?_ ?_ ?_ (by rfl)
  | refine se_and ?_ ?_ | refine se_or ?_ ?_ | refine se_not ?_ | refine se_one ?_
  | refine SE.val (t := true) (se_and ?_ ?_)
  | refine se_ife ?_ ?_ ?_
  | refine se_lst (ES'.toEX (by (first | assumption | exact EZ.sx (by assumption)))) ?_ | refine se_tup (ES'.toEX (by (first | assumption | exact EZ.sx (by assumption)))) ?_
  | refine se_ix (ES'.toEX (by (first | assumption | exact EZ.sx (by assumption)))) ?_ ?_ (by intro _ _; rfl)
  | refine se_sl (ES'.toEX (by (first | assumption | exact EZ.sx (by assumption)))) ?_ ?_ ?_ | exact so_none | refine so_some ?_
  | refine z_curF (by (first | assumption | exact EZ.sx (by assumption))) (by assumption) (by assumption) (by rfl) (by (first | exact Or.inl rfl | exact Or.inr (Or.inl rfl) | exact Or.inr (Or.inr rfl))) (by decide +kernel) (by rfl) (by rfl)
  | refine z_curI (by (first | assumption | exact EZ.sx (by assumption))) (by assumption) (by assumption) (by rfl) (by (first | exact Or.inl rfl | exact Or.inr (Or.inl rfl) | exact Or.inr (Or.inr rfl))) (by decide +kernel) (by rfl) (by decide +kernel) (by rfl) (by decide +kernel) (by rfl) (by rfl) (by decide +kernel)
  | refine z_curB (by (first | assumption | exact EZ.sx (by assumption))) (by assumption) (by assumption) (by rfl) (by (first | exact Or.inl rfl | exact Or.inr (Or.inl rfl) | exact Or.inr (Or.inr rfl))) (by decide +kernel) (by rfl) (by decide +kernel) (by rfl) (by decide +kernel) (by (first | rfl | decide +kernel)) (by decide +kernel) (by rfl) (by decide +kernel)
  | refine z_glb (by (first | assumption | exact EZ.sx (by assumption))) (by decide +kernel) (by rfl) (by decide +kernel)
  | refine z_call (by (first | assumption | exact EZ.blk (by assumption))) (by decide +kernel) (by decide +kernel) (by rfl) ?_
  | refine z_make (by (first | assumption | exact EZ.blk (by assumption))) (by decide +kernel) (by decide +kernel) (by rfl) ?_
  | refine z_lenSet (by (first | assumption | exact EZ.sx (by assumption))) (by rfl) (by rfl) (by rfl) (by decide +kernel) (by decide +kernel) (by rfl) (by rfl) ?_
  | refine z_biB (by (first | assumption | exact EZ.sx (by assumption))) (by (first | exact Or.inl rfl | exact Or.inr rfl)) (by decide) (by rfl) (by decide +kernel) (by rfl) (by (first | rfl | decide +kernel)) (by decide +kernel) ?_
  | refine z_biT (by (first | assumption | exact EZ.sx (by assumption))) (by (first | exact Or.inl rfl | exact Or.inr rfl)) (by decide) (by rfl) (by decide +kernel) (by rfl) (by (first | rfl | decide +kernel)) (by decide +kernel) ?_
  | refine z_isI (by (first | assumption | exact EZ.sx (by assumption))) (by rfl) (by decide +kernel) (by rfl) ?_ (by rfl) (by decide +kernel) (by (first | rfl | decide +kernel)) (by decide +kernel)
  | refine z_isI2 (by (first | assumption | exact EZ.sx (by assumption))) (by rfl) (by decide +kernel) (by rfl) ?_ (by rfl) (by decide +kernel) (by (first | rfl | decide +kernel)) (by decide +kernel) (by rfl) (by decide +kernel) (by (first | rfl | decide +kernel)) (by decide +kernel)
  | refine z_callv (by (first | assumption | exact EZ.blk (by assumption))) (by rfl) (by (first | exact Or.inl rfl | exact Or.inr (Or.inl rfl) | exact Or.inr (Or.inr rfl))) (by decide +kernel) ?_
  | refine z_clm (by (first | assumption | exact EZ.blk (by assumption))) (by decide +kernel) (by decide +kernel) (by rfl) (by rfl) ?_ (by rfl)
  | refine se_join (by rfl) (ES'.toEX (by (first | assumption | exact EZ.sx (by assumption)))) ?_ ?_ (by rfl) (by rfl) (by rfl)
  | refine se_count (by rfl) (ES'.toEX (by (first | assumption | exact EZ.sx (by assumption)))) ?_ ?_ (by rfl) (by rfl) (by rfl)
  | refine se_append (by rfl) (ES'.toEX (by (first | assumption | exact EZ.sx (by assumption)))) ?_ ?_ (by rfl) (by rfl) (by rfl)
  | refine se_index (by rfl) (ES'.toEX (by (first | assumption | exact EZ.sx (by assumption)))) ?_ ?_ (by rfl) (by rfl) (by rfl)
  | refine se_att (EZ.toEY (by (first | assumption | exact EZ.blk (by assumption)))) (by rfl) ?_ (by rfl)
  | exact se_dct0 (ES'.toEX (by (first | assumption | exact EZ.sx (by assumption))))
  | exact se_dct (ES'.toEX (by (first | assumption | exact EZ.sx (by assumption)))) (.cons pe_int pe_int (by intro a z; cases z) .nil) (by rfl) (by rfl) (by intro z; cases z) (by decide) (by decide)
  | refine z_lc (by (first | assumption | exact EZ.blk (by assumption))) ?_ (by rfl) (fun s H C cl fp q => ?_) (fun s H C cl fp q => ?_) (fun s H C cl fp q => ?_) (by intro _; rfl) (by (intro j hj; simpa [slT, slTs] using hj))
  | exact sc_none | refine sc_one ?_
  | exact z_sgn (EZ.nd (by (first | assumption | exact EZ.blk (by assumption)))) (by rfl) (by (first | exact Or.inl rfl | exact Or.inr rfl)) (by (first | exact Or.inl rfl | exact Or.inr rfl))
  | refine z_sgt (EX.K (EY.toEX (EZ.toEY (by (first | assumption | exact EZ.blk (by assumption)))))) (EY.cm (EZ.toEY (by (first | assumption | exact EZ.blk (by assumption))))) ?_ (by rfl) (by rfl)
  | exact z_sgs0 | refine z_sgs ?_ ?_ (by rfl)
  | refine z_rng1 (by (first | assumption | exact EZ.sx (by assumption))) (by rfl) (by decide +kernel) (by rfl) ?_
  | refine z_enum (by (first | assumption | exact EZ.sx (by assumption))) (by rfl) (by decide +kernel) (by rfl) ?_
  | refine si_ev (EX.K (ES'.toEX (by (first | assumption | exact EZ.sx (by assumption))))) ?_
  | refine ss_ret ?_ | exact ss_retN
  | refine ss_if ?_ ?_ ?_
  | refine z_asg (by (first | assumption | exact EZ.sx (by assumption))) (by rfl) (by (first | exact Or.inl rfl | exact Or.inr rfl)) (by (first | exact Or.inl rfl | exact Or.inr rfl)) ?_ (by rfl) (by (first | (intro _ _ _ _ z; cases z; done) | (intro _ _ _ _ z; cases z; simp [slT, slTs])))
  | refine z_par (by (first | assumption | exact EZ.blk (by assumption))) (by rfl) (by rfl) (by decide) (by rfl) (by rfl) ?_ (by rfl) (by rfl) (by (first | (intro _ _ _ _ z; cases z; done) | (intro _ _ _ _ z; cases z; simp [slT, slTs])))
  | refine z_fld (by (first | assumption | exact EZ.blk (by assumption))) (by rfl) ?_ ?_ (by rfl)
  | refine ss_expr ?_ (by rfl)
  | refine z_for (by (first | assumption | exact EZ.blk (by assumption))) (by first | assumption | exact passes_of rfl) ?_ ?_ ?_ (by intro _; rfl) (by (first | (intro _ _ _ _ z; cases z; done) | (intro _ _ _ _ z; cases z; simp [slT, slTs])))
  | refine z_raise (by (first | assumption | exact EZ.blk (by assumption))) (by decide +kernel) (by rfl) (by decide +kernel) (by rfl) ?_
  | refine z_try (by (first | assumption | exact EZ.blk (by assumption))) (by rfl) (by rfl) (by rfl) (by rfl) (by decide +kernel) (by rfl) (by decide +kernel) (by rfl) (fun W' pn xe q hp => ?_) (fun a oe cls d pn hz hf q => ?_)
  | exact ss_pass | exact ss_brk | exact ss_cnt)
end K02
end
section
set_option Elab.async false
set_option linter.all false
set_option maxRecDepth 100000
set_option maxHeartbeats 2000000
namespace K02
open PySem L2 MP
theorem b19 {P : Program} {w : World} {Kf : PySem.W.Frag} {mg : Str → Option Value} {base : Heap} {cls : Nat → Addr} {pre : List Addr} {adr : Nat → Addr} {k : Nat} {a : Addr} {cdv : Value} {A : Around} {outer : List Env} {s : Shared} {H : Hp} {E : XK}
    (q : EZ k (cxOf (L2.CX P w) P w Kf mg base n19 "_law_numbers" (defScope s19) a cdv A outer s H E) (dk (GG Kf cls pre) Γ0 nm0 T 0 k) (fun c d _ H' => E c d H') LL adr) :
    PSs (cxOf (L2.CX P w) P w Kf mg base n19 "_law_numbers" (defScope s19) a cdv A outer s H E) (defBody s19) (tB (dk (GG Kf cls pre) Γ0 nm0 T 0 k) 0 (fun c d _ H' => E c d H') none f19.body) := by
  repeat' (first
  | exact sb_nil | refine sb_cons ?_ ?_
  | exact sa_nil | refine sa_cons ?_ ?_
  | exact z_var (by (first | assumption | exact EZ.sx (by assumption))) (by rfl) (by (first | exact Or.inl rfl | exact Or.inr (Or.inl rfl) | exact Or.inr (Or.inr rfl))) (by decide +kernel)
  | exact z_int (by (first | assumption | exact EZ.sx (by assumption))) | exact z_str (by (first | assumption | exact EZ.sx (by assumption))) | exact z_bl (by (first | assumption | exact EZ.sx (by assumption))) | exact z_non (by (first | assumption | exact EZ.sx (by assumption)))
  | refine z_bin (by (first | assumption | exact EZ.sx (by assumption))) ?_ ?_
  | refine z_neg (by (first | assumption | exact EZ.sx (by assumption))) ?_
  | refine z_cmp (by (first | assumption | exact EZ.sx (by assumption))) ?_ ?_ (by rfl)
  | refine z_cmp2 (by (first | assumption | exact EZ.sx (by assumption))) ?_ ?_ ?_ (by rfl)
  | refine se_and ?_ ?_ | refine se_or ?_ ?_ | refine se_not ?_ | refine se_one ?_
  | refine SE.val (t := true) (se_and ?_ ?_)
  | refine se_ife ?_ ?_ ?_
  | refine se_lst (ES'.toEX (by (first | assumption | exact EZ.sx (by assumption)))) ?_ | refine se_tup (ES'.toEX (by (first | assumption | exact EZ.sx (by assumption)))) ?_
  | refine se_ix (ES'.toEX (by (first | assumption | exact EZ.sx (by assumption)))) ?_ ?_ (by intro _ _; rfl)
  | refine se_sl (ES'.toEX (by (first | assumption | exact EZ.sx (by assumption)))) ?_ ?_ ?_ | exact so_none | refine so_some ?_
  | refine z_curF (by (first | assumption | exact EZ.sx (by assumption))) (by assumption) (by assumption) (by rfl) (by (first | exact Or.inl rfl | exact Or.inr (Or.inl rfl) | exact Or.inr (Or.inr rfl))) (by decide +kernel) (by rfl) (by rfl)
  | refine z_curI (by (first | assumption | exact EZ.sx (by assumption))) (by assumption) (by assumption) (by rfl) (by (first | exact Or.inl rfl | exact Or.inr (Or.inl rfl) | exact Or.inr (Or.inr rfl))) (by decide +kernel) (by rfl) (by decide +kernel) (by rfl) (by decide +kernel) (by rfl) (by rfl) (by decide +kernel)
  | refine z_curB (by (first | assumption | exact EZ.sx (by assumption))) (by assumption) (by assumption) (by rfl) (by (first | exact Or.inl rfl | exact Or.inr (Or.inl rfl) | exact Or.inr (Or.inr rfl))) (by decide +kernel) (by rfl) (by decide +kernel) (by rfl) (by decide +kernel) (by (first | rfl | decide +kernel)) (by decide +kernel) (by rfl) (by decide +kernel)
  | refine z_glb (by (first | assumption | exact EZ.sx (by assumption))) (by decide +kernel) (by rfl) (by decide +kernel)
  | refine z_call (by (first | assumption | exact EZ.blk (by assumption))) (by decide +kernel) (by decide +kernel) (by rfl) ?_
  | refine z_make (by (first | assumption | exact EZ.blk (by assumption))) (by decide +kernel) (by decide +kernel) (by rfl) ?_
  | refine z_lenSet (by (first | assumption | exact EZ.sx (by assumption))) (by rfl) (by rfl) (by rfl) (by decide +kernel) (by decide +kernel) (by rfl) (by rfl) ?_
  | refine z_biB (by (first | assumption | exact EZ.sx (by assumption))) (by (first | exact Or.inl rfl | exact Or.inr rfl)) (by decide) (by rfl) (by decide +kernel) (by rfl) (by (first | rfl | decide +kernel)) (by decide +kernel) ?_
  | refine z_biT (by (first | assumption | exact EZ.sx (by assumption))) (by (first | exact Or.inl rfl | exact Or.inr rfl)) (by decide) (by rfl) (by decide +kernel) (by rfl) (by (first | rfl | decide +kernel)) (by decide +kernel) ?_
  | refine z_isI (by (first | assumption | exact EZ.sx (by assumption))) (by rfl) (by decide +kernel) (by rfl) ?_ (by rfl) (by decide +kernel) (by (first | rfl | decide +kernel)) (by decide +kernel)
  | refine z_isI2 (by (first | assumption | exact EZ.sx (by assumption))) (by rfl) (by decide +kernel) (by rfl) ?_ (by rfl) (by decide +kernel) (by (first | rfl | decide +kernel)) (by decide +kernel) (by rfl) (by decide +kernel) (by (first | rfl | decide +kernel)) (by decide +kernel)
  | refine z_callv (by (first | assumption | exact EZ.blk (by assumption))) (by rfl) (by (first | exact Or.inl rfl | exact Or.inr (Or.inl rfl) | exact Or.inr (Or.inr rfl))) (by decide +kernel) ?_
  | refine z_clm (by (first | assumption | exact EZ.blk (by assumption))) (by decide +kernel) (by decide +kernel) (by rfl) (by rfl) ?_ (by rfl)
  | refine se_join (by rfl) (ES'.toEX (by (first | assumption | exact EZ.sx (by assumption)))) ?_ ?_ (by rfl) (by rfl) (by rfl)
  | refine se_count (by rfl) (ES'.toEX (by (first | assumption | exact EZ.sx (by assumption)))) ?_ ?_ (by rfl) (by rfl) (by rfl)
  | refine se_append (by rfl) (ES'.toEX (by (first | assumption | exact EZ.sx (by assumption)))) ?_ ?_ (by rfl) (by rfl) (by rfl)
  | refine se_index (by rfl) (ES'.toEX (by (first | assumption | exact EZ.sx (by assumption)))) ?_ ?_ (by rfl) (by rfl) (by rfl)
  | refine se_att (EZ.toEY (by (first | assumption | exact EZ.blk (by assumption)))) (by rfl) ?_ (by rfl)
  | exact se_dct0 (ES'.toEX (by (first | assumption | exact EZ.sx (by assumption))))
  | exact se_dct (ES'.toEX (by (first | assumption | exact EZ.sx (by assumption)))) (.cons pe_int pe_int (by intro a z; cases z) .nil) (by rfl) (by rfl) (by intro z; cases z) (by decide) (by decide)
  | refine z_lc (by (first | assumption | exact EZ.blk (by assumption))) ?_ (by rfl) (fun s H C cl fp q => ?_) (fun s H C cl fp q => ?_) (fun s H C cl fp q => ?_) (by intro _; rfl) (by (intro j hj; simpa [slT, slTs] using hj))
  | exact sc_none | refine sc_one ?_
  | exact z_sgn (EZ.nd (by (first | assumption | exact EZ.blk (by assumption)))) (by rfl) (by (first | exact Or.inl rfl | exact Or.inr rfl)) (by (first | exact Or.inl rfl | exact Or.inr rfl))
  | refine z_sgt (EX.K (EY.toEX (EZ.toEY (by (first | assumption | exact EZ.blk (by assumption)))))) (EY.cm (EZ.toEY (by (first | assumption | exact EZ.blk (by assumption))))) ?_ (by rfl) (by rfl)
  | exact z_sgs0 | refine z_sgs ?_ ?_ (by rfl)
  | refine z_rng1 (by (first | assumption | exact EZ.sx (by assumption))) (by rfl) (by decide +kernel) (by rfl) ?_
  | refine z_enum (by (first | assumption | exact EZ.sx (by assumption))) (by rfl) (by decide +kernel) (by rfl) ?_
  | refine si_ev (EX.K (ES'.toEX (by (first | assumption | exact EZ.sx (by assumption))))) ?_
  | refine ss_ret ?_ | exact ss_retN
  | refine ss_if ?_ ?_ ?_
  | refine z_asg (by (first | assumption | exact EZ.sx (by assumption))) (by rfl) (by (first | exact Or.inl rfl | exact Or.inr rfl)) (by (first | exact Or.inl rfl | exact Or.inr rfl)) ?_ (by rfl) (by (first | (intro _ _ _ _ z; cases z; done) | (intro _ _ _ _ z; cases z; simp [slT, slTs])))
  | refine z_par (by (first | assumption | exact EZ.blk (by assumption))) (by rfl) (by rfl) (by decide) (by rfl) (by rfl) ?_ (by rfl) (by rfl) (by (first | (intro _ _ _ _ z; cases z; done) | (intro _ _ _ _ z; cases z; simp [slT, slTs])))
  | refine z_fld (by (first | assumption | exact EZ.blk (by assumption))) (by rfl) ?_ ?_ (by rfl)
  | refine ss_expr ?_ (by rfl)
  | refine z_for (by (first | assumption | exact EZ.blk (by assumption))) (by first | assumption | exact passes_of rfl) ?_ ?_ ?_ (by intro _; rfl) (by (first | (intro _ _ _ _ z; cases z; done) | (intro _ _ _ _ z; cases z; simp [slT, slTs])))
  | refine z_raise (by (first | assumption | exact EZ.blk (by assumption))) (by decide +kernel) (by rfl) (by decide +kernel) (by rfl) ?_
  | refine z_try (by (first | assumption | exact EZ.blk (by assumption))) (by rfl) (by rfl) (by rfl) (by rfl) (by decide +kernel) (by rfl) (by decide +kernel) (by rfl) (fun W' pn xe q hp => ?_) (fun a oe cls d pn hz hf q => ?_)
  | exact ss_pass | exact ss_brk | exact ss_cnt)
end K02
end
section
set_option Elab.async false
set_option linter.all false
set_option maxRecDepth 100000
set_option maxHeartbeats 2000000
namespace K02
open PySem L2 MP
theorem b20 {P : Program} {w : World} {Kf : PySem.W.Frag} {mg : Str → Option Value} {base : Heap} {cls : Nat → Addr} {pre : List Addr} {adr : Nat → Addr} {k : Nat} {a : Addr} {cdv : Value} {A : Around} {outer : List Env} {s : Shared} {H : Hp} {E : XK}
    (q : EZ k (cxOf (L2.CX P w) P w Kf mg base n20 "_law_odd" (defScope s20) a cdv A outer s H E) (dk (GG Kf cls pre) Γ0 nm0 T 0 k) (fun c d _ H' => E c d H') LL adr) :
    PSs (cxOf (L2.CX P w) P w Kf mg base n20 "_law_odd" (defScope s20) a cdv A outer s H E) (defBody s20) (tB (dk (GG Kf cls pre) Γ0 nm0 T 0 k) 0 (fun c d _ H' => E c d H') none f20.body) := by
  repeat' (first
  | exact sb_nil | refine sb_cons ?_ ?_
  | exact sa_nil | refine sa_cons ?_ ?_
  | exact z_var (by (first | assumption | exact EZ.sx (by assumption))) (by rfl) (by (first | exact Or.inl rfl | exact Or.inr (Or.inl rfl) | exact Or.inr (Or.inr rfl))) (by decide +kernel)
  | exact z_int (by (first | assumption | exact EZ.sx (by assumption))) | exact z_str (by (first | assumption | exact EZ.sx (by assumption))) | exact z_bl (by (first | assumption | exact EZ.sx (by assumption))) | exact z_non (by (first | assumption | exact EZ.sx (by assumption)))
  | refine z_bin (by (first | assumption | exact EZ.sx (by assumption))) ?_ ?_
  | refine z_neg (by (first | assumption | exact EZ.sx (by assumption))) ?_
  | refine z_cmp (by (first | assumption | exact EZ.sx (by assumption))) ?_ ?_ (by rfl)
  | refine z_cmp2 (by (first | assumption | exact EZ.sx (by assumption))) ?_ ?_ ?_ (by rfl)
  | refine se_and ?_ ?_ | refine se_or ?_ ?_ | refine se_not ?_ | refine se_one ?_
  | refine SE.val (t := true) (se_and ?_ ?_)
  | refine se_ife ?_ ?_ ?_
  | refine se_lst (ES'.toEX (by (first | assumption | exact EZ.sx (by assumption)))) ?_ | refine se_tup (ES'.toEX (by (first | assumption | exact EZ.sx (by assumption)))) ?_
  | refine se_ix (ES'.toEX (by (first | assumption | exact EZ.sx (by assumption)))) ?_ ?_ (by intro _ _; rfl)
  | refine se_sl (ES'.toEX (by (first | assumption | exact EZ.sx (by assumption)))) ?_ ?_ ?_ | exact so_none | refine so_some ?_
  | refine z_curF (by (first | assumption | exact EZ.sx (by assumption))) (by assumption) (by assumption) (by rfl) (by (first | exact Or.inl rfl | exact Or.inr (Or.inl rfl) | exact Or.inr (Or.inr rfl))) (by decide +kernel) (by rfl) (by rfl)
  | refine z_curI (by (first | assumption | exact EZ.sx (by assumption))) (by assumption) (by assumption) (by rfl) (by (first | exact Or.inl rfl | exact Or.inr (Or.inl rfl) | exact Or.inr (Or.inr rfl))) (by decide +kernel) (by rfl) (by decide +kernel) (by rfl) (by decide +kernel) (by rfl) (by rfl) (by decide +kernel)
  | refine z_curB (by (first | assumption | exact EZ.sx (by assumption))) (by assumption) (by assumption) (by rfl) (by (first | exact Or.inl rfl | exact Or.inr (Or.inl rfl) | exact Or.inr (Or.inr rfl))) (by decide +kernel) (by rfl) (by decide +kernel) (by rfl) (by decide +kernel) (by (first | rfl | decide +kernel)) (by decide +kernel) (by rfl) (by decide +kernel)
  | refine z_glb (by (first | assumption | exact EZ.sx (by assumption))) (by decide +kernel) (by rfl) (by decide +kernel)
  | refine z_call (by (first | assumption | exact EZ.blk (by assumption))) (by decide +kernel) (by decide +kernel) (by rfl) ?_
  | refine z_make (by (first | assumption | exact EZ.blk (by assumption))) (by decide +kernel) (by decide +kernel) (by rfl) ?_
  | refine z_lenSet (by (first | assumption | exact EZ.sx (by assumption))) (by rfl) (by rfl) (by rfl) (by decide +kernel) (by decide +kernel) (by rfl) (by rfl) ?_
  | refine z_biB (by (first | assumption | exact EZ.sx (by assumption))) (by (first | exact Or.inl rfl | exact Or.inr rfl)) (by decide) (by rfl) (by decide +kernel) (by rfl) (by (first | rfl | decide +kernel)) (by decide +kernel) ?_
  | refine z_biT (by (first | assumption | exact EZ.sx (by assumption))) (by (first | exact Or.inl rfl | exact Or.inr rfl)) (by decide) (by rfl) (by decide +kernel) (by rfl) (by (first | rfl | decide +kernel)) (by decide +kernel) ?_
  | refine z_isI (by (first | assumption | exact EZ.sx (by assumption))) (by rfl) (by decide +kernel) (by rfl) ?_ (by rfl) (by decide +kernel) (by (first | rfl | decide +kernel)) (by decide +kernel)
  | refine z_isI2 (by (first | assumption | exact EZ.sx (by assumption))) (by rfl) (by decide +kernel) (by rfl) ?_ (by rfl) (by decide +kernel) (by (first | rfl | decide +kernel)) (by decide +kernel) (by rfl) (by decide +kernel) (by (first | rfl | decide +kernel)) (by decide +kernel)
  | refine z_callv (by (first | assumption | exact EZ.blk (by assumption))) (by rfl) (by (first | exact Or.inl rfl | exact Or.inr (Or.inl rfl) | exact Or.inr (Or.inr rfl))) (by decide +kernel) ?_
  | refine z_clm (by (first | assumption | exact EZ.blk (by assumption))) (by decide +kernel) (by decide +kernel) (by rfl) (by rfl) ?_ (by rfl)
  | refine se_join (by rfl) (ES'.toEX (by (first | assumption | exact EZ.sx (by assumption)))) ?_ ?_ (by rfl) (by rfl) (by rfl)
  | refine se_count (by rfl) (ES'.toEX (by (first | assumption | exact EZ.sx (by assumption)))) ?_ ?_ (by rfl) (by rfl) (by rfl)
  | refine se_append (by rfl) (ES'.toEX (by (first | assumption | exact EZ.sx (by assumption)))) ?_ ?_ (by rfl) (by rfl) (by rfl)
  | refine se_index (by rfl) (ES'.toEX (by (first | assumption | exact EZ.sx (by assumption)))) ?_ ?_ (by rfl) (by rfl) (by rfl)
  | refine se_att (EZ.toEY (by (first | assumption | exact EZ.blk (by assumption)))) (by rfl) ?_ (by rfl)
  | exact se_dct0 (ES'.toEX (by (first | assumption | exact EZ.sx (by assumption))))
  | exact se_dct (ES'.toEX (by (first | assumption | exact EZ.sx (by assumption)))) (.cons pe_int pe_int (by intro a z; cases z) .nil) (by rfl) (by rfl) (by intro z; cases z) (by decide) (by decide)
  | refine z_lc (by (first | assumption | exact EZ.blk (by assumption))) ?_ (by rfl) (fun s H C cl fp q => ?_) (fun s H C cl fp q => ?_) (fun s H C cl fp q => ?_) (by intro _; rfl) (by (intro j hj; simpa [slT, slTs] using hj))
  | exact sc_none | refine sc_one ?_
  | exact z_sgn (EZ.nd (by (first | assumption | exact EZ.blk (by assumption)))) (by rfl) (by (first | exact Or.inl rfl | exact Or.inr rfl)) (by (first | exact Or.inl rfl | exact Or.inr rfl))
  | refine z_sgt (EX.K (EY.toEX (EZ.toEY (by (first | assumption | exact EZ.blk (by assumption)))))) (EY.cm (EZ.toEY (by (first | assumption | exact EZ.blk (by assumption))))) ?_ (by rfl) (by rfl)
  | exact z_sgs0 | refine z_sgs ?_ ?_ (by rfl)
  | refine z_rng1 (by (first | assumption | exact EZ.sx (by assumption))) (by rfl) (by decide +kernel) (by rfl) ?_
  | refine z_enum (by (first | assumption | exact EZ.sx (by assumption))) (by rfl) (by decide +kernel) (by rfl) ?_
  | refine si_ev (EX.K (ES'.toEX (by (first | assumption | exact EZ.sx (by assumption))))) ?_
  | refine ss_ret ?_ | exact ss_retN
  | refine ss_if ?_ ?_ ?_
  | refine z_asg (by (first | assumption | exact EZ.sx (by assumption))) (by rfl) (by (first | exact Or.inl rfl | exact Or.inr rfl)) (by (first | exact Or.inl rfl | exact Or.inr rfl)) ?_ (by rfl) (by (first | (intro _ _ _ _ z; cases z; done) | (intro _ _ _ _ z; cases z; simp [slT, slTs])))
  | refine z_par (by (first | assumption | exact EZ.blk (by assumption))) (by rfl) (by rfl) (by decide) (by rfl) (by rfl) ?_ (by rfl) (by rfl) (by (first | (intro _ _ _ _ z; cases z; done) | (intro _ _ _ _ z; cases z; simp [slT, slTs])))
  | refine z_fld (by (first | assumption | exact EZ.blk (by assumption))) (by rfl) ?_ ?_ (by rfl)
  | refine ss_expr ?_ (by rfl)
  | refine z_for (by (first | assumption | exact EZ.blk (by assumption))) (by first | assumption | exact passes_of rfl) ?_ ?_ ?_ (by intro _; rfl) (by (first | (intro _ _ _ _ z; cases z; done) | (intro _ _ _ _ z; cases z; simp [slT, slTs])))
  | refine z_raise (by (first | assumption | exact EZ.blk (by assumption))) (by decide +kernel) (by rfl) (by decide +kernel) (by rfl) ?_
  | refine z_try (by (first | assumption | exact EZ.blk (by assumption))) (by rfl) (by rfl) (by rfl) (by rfl) (by decide +kernel) (by rfl) (by decide +kernel) (by rfl) (fun W' pn xe q hp => ?_) (fun a oe cls d pn hz hf q => ?_)
  | exact ss_pass | exact ss_brk | exact ss_cnt)
end K02
end
section
set_option Elab.async false
set_option linter.all false
set_option maxRecDepth 100000
set_option maxHeartbeats 2000000
namespace K02
open PySem L2 MP
theorem b21 {P : Program} {w : World} {Kf : PySem.W.Frag} {mg : Str → Option Value} {base : Heap} {cls : Nat → Addr} {pre : List Addr} {adr : Nat → Addr} {k : Nat} {a : Addr} {cdv : Value} {A : Around} {outer : List Env} {s : Shared} {H : Hp} {E : XK}
    (q : EZ k (cxOf (L2.CX P w) P w Kf mg base n21 "_law_changed" (defScope s21) a cdv A outer s H E) (dk (GG Kf cls pre) Γ0 nm0 T 0 k) (fun c d _ H' => E c d H') LL adr) :
    PSs (cxOf (L2.CX P w) P w Kf mg base n21 "_law_changed" (defScope s21) a cdv A outer s H E) (defBody s21) (tB (dk (GG Kf cls pre) Γ0 nm0 T 0 k) 0 (fun c d _ H' => E c d H') none f21.body) := by
  repeat' (first
  | exact sb_nil | refine sb_cons ?_ ?_
  | exact sa_nil | refine sa_cons ?_ ?_
  | exact z_var (by (first | assumption | exact EZ.sx (by assumption))) (by rfl) (by (first | exact Or.inl rfl | exact Or.inr (Or.inl rfl) | exact Or.inr (Or.inr rfl))) (by decide +kernel)
  | exact z_int (by (first | assumption | exact EZ.sx (by assumption))) | exact z_str (by (first | assumption | exact EZ.sx (by assumption))) | exact z_bl (by (first | assumption | exact EZ.sx (by assumption))) | exact z_non (by (first | assumption | exact EZ.sx (by assumption)))
  | refine z_bin (by (first | assumption | exact EZ.sx (by assumption))) ?_ ?_
  | refine z_neg (by (first | assumption | exact EZ.sx (by assumption))) ?_
  | refine z_cmp (by (first | assumption | exact EZ.sx (by assumption))) ?_ ?_ (by rfl)
  | refine z_cmp2 (by (first | assumption | exact EZ.sx (by assumption))) ?_ ?_ ?_ (by rfl)
  | refine se_and ?_ ?_ | refine se_or ?_ ?_ | refine se_not ?_ | refine se_one ?_
  | refine SE.val (t := true) (se_and ?_ ?_)
  | refine se_ife ?_ ?_ ?_
  | refine se_lst (ES'.toEX (by (first | assumption | exact EZ.sx (by assumption)))) ?_ | refine se_tup (ES'.toEX (by (first | assumption | exact EZ.sx (by assumption)))) ?_
  | refine se_ix (ES'.toEX (by (first | assumption | exact EZ.sx (by assumption)))) ?_ ?_ (by intro _ _; rfl)
  | refine se_sl (ES'.toEX (by (first | assumption | exact EZ.sx (by assumption)))) ?_ ?_ ?_ | exact so_none | refine so_some ?_
  | refine z_curF (by (first | assumption | exact EZ.sx (by assumption))) (by assumption) (by assumption) (by rfl) (by (first | exact Or.inl rfl | exact Or.inr (Or.inl rfl) | exact Or.inr (Or.inr rfl))) (by decide +kernel) (by rfl) (by rfl)
  | refine z_curI (by (first | assumption | exact EZ.sx (by assumption))) (by assumption) (by assumption) (by rfl) (by (first | exact Or.inl rfl | exact Or.inr (Or.inl rfl) | exact Or.inr (Or.inr rfl))) (by decide +kernel) (by rfl) (by decide +kernel) (by rfl) (by decide +kernel) (by rfl) (by rfl) (by decide +kernel)
  | refine z_curB (by (first | assumption | exact EZ.sx (by assumption))) (by assumption) (by assumption) (by rfl) (by (first | exact Or.inl rfl | exact Or.inr (Or.inl rfl) | exact Or.inr (Or.inr rfl))) (by decide +kernel) (by rfl) (by decide +kernel) (by rfl) (by decide +kernel) (by (first | rfl | decide +kernel)) (by decide +kernel) (by rfl) (by decide +kernel)
  | refine z_glb (by (first | assumption | exact EZ.sx (by assumption))) (by decide +kernel) (by rfl) (by decide +kernel)
  | refine z_call (by (first | assumption | exact EZ.blk (by assumption))) (by decide +kernel) (by decide +kernel) (by rfl) ?_
  | refine z_make (by (first | assumption | exact EZ.blk (by assumption))) (by decide +kernel) (by decide +kernel) (by rfl) ?_
  | refine z_lenSet (by (first | assumption | exact EZ.sx (by assumption))) (by rfl) (by rfl) (by rfl) (by decide +kernel) (by decide +kernel) (by rfl) (by rfl) ?_
  | refine z_biB (by (first | assumption | exact EZ.sx (by assumption))) (by (first | exact Or.inl rfl | exact Or.inr rfl)) (by decide) (by rfl) (by decide +kernel) (by rfl) (by (first | rfl | decide +kernel)) (by decide +kernel) ?_
  | refine z_biT (by (first | assumption | exact EZ.sx (by assumption))) (by (first | exact Or.inl rfl | exact Or.inr rfl)) (by decide) (by rfl) (by decide +kernel) (by rfl) (by (first | rfl | decide +kernel)) (by decide +kernel) ?_
  | refine z_isI (by (first | assumption | exact EZ.sx (by assumption))) (by rfl) (by decide +kernel) (by rfl) ?_ (by rfl) (by decide +kernel) (by (first | rfl | decide +kernel)) (by decide +kernel)
  | refine z_isI2 (by (first | assumption | exact EZ.sx (by assumption))) (by rfl) (by decide +kernel) (by rfl) ?_ (by rfl) (by decide +kernel) (by (first | rfl | decide +kernel)) (by decide +kernel) (by rfl) (by decide +kernel) (by (first | rfl | decide +kernel)) (by decide +kernel)
  | refine z_callv (by (first | assumption | exact EZ.blk (by assumption))) (by rfl) (by (first | exact Or.inl rfl | exact Or.inr (Or.inl rfl) | exact Or.inr (Or.inr rfl))) (by decide +kernel) ?_
  | refine z_clm (by (first | assumption | exact EZ.blk (by assumption))) (by decide +kernel) (by decide +kernel) (by rfl) (by rfl) ?_ (by rfl)
  | refine se_join (by rfl) (ES'.toEX (by (first | assumption | exact EZ.sx (by assumption)))) ?_ ?_ (by rfl) (by rfl) (by rfl)
  | refine se_count (by rfl) (ES'.toEX (by (first | assumption | exact EZ.sx (by assumption)))) ?_ ?_ (by rfl) (by rfl) (by rfl)
  | refine se_append (by rfl) (ES'.toEX (by (first | assumption | exact EZ.sx (by assumption)))) ?_ ?_ (by rfl) (by rfl) (by rfl)
  | refine se_index (by rfl) (ES'.toEX (by (first | assumption | exact EZ.sx (by assumption)))) ?_ ?_ (by rfl) (by rfl) (by rfl)
  | refine se_att (EZ.toEY (by (first | assumption | exact EZ.blk (by assumption)))) (by rfl) ?_ (by rfl)
  | exact se_dct0 (ES'.toEX (by (first | assumption | exact EZ.sx (by assumption))))
  | exact se_dct (ES'.toEX (by (first | assumption | exact EZ.sx (by assumption)))) (.cons pe_int pe_int (by intro a z; cases z) .nil) (by rfl) (by rfl) (by intro z; cases z) (by decide) (by decide)
  | refine z_lc (by (first | assumption | exact EZ.blk (by assumption))) ?_ (by rfl) (fun s H C cl fp q => ?_) (fun s H C cl fp q => ?_) (fun s H C cl fp q => ?_) (by intro _; rfl) (by (intro j hj; simpa [slT, slTs] using hj))
  | exact sc_none | refine sc_one ?_
  | exact z_sgn (EZ.nd (by (first | assumption | exact EZ.blk (by assumption)))) (by rfl) (by (first | exact Or.inl rfl | exact Or.inr rfl)) (by (first | exact Or.inl rfl | exact Or.inr rfl))
  | refine z_sgt (EX.K (EY.toEX (EZ.toEY (by (first | assumption | exact EZ.blk (by assumption)))))) (EY.cm (EZ.toEY (by (first | assumption | exact EZ.blk (by assumption))))) ?_ (by rfl) (by rfl)
  | exact z_sgs0 | refine z_sgs ?_ ?_ (by rfl)
  | refine z_rng1 (by (first | assumption | exact EZ.sx (by assumption))) (by rfl) (by decide +kernel) (by rfl) ?_
  | refine z_enum (by (first | assumption | exact EZ.sx (by assumption))) (by rfl) (by decide +kernel) (by rfl) ?_
  | refine si_ev (EX.K (ES'.toEX (by (first | assumption | exact EZ.sx (by assumption))))) ?_
  | refine ss_ret ?_ | exact ss_retN
  | refine ss_if ?_ ?_ ?_
  | refine z_asg (by (first | assumption | exact EZ.sx (by assumption))) (by rfl) (by (first | exact Or.inl rfl | exact Or.inr rfl)) (by (first | exact Or.inl rfl | exact Or.inr rfl)) ?_ (by rfl) (by (first | (intro _ _ _ _ z; cases z; done) | (intro _ _ _ _ z; cases z; simp [slT, slTs])))
  | refine z_par (by (first | assumption | exact EZ.blk (by assumption))) (by rfl) (by rfl) (by decide) (by rfl) (by rfl) ?_ (by rfl) (by rfl) (by (first | (intro _ _ _ _ z; cases z; done) | (intro _ _ _ _ z; cases z; simp [slT, slTs])))
  | refine z_fld (by (first | assumption | exact EZ.blk (by assumption))) (by rfl) ?_ ?_ (by rfl)
  | refine ss_expr ?_ (by rfl)
  | refine z_for (by (first | assumption | exact EZ.blk (by assumption))) (by first | assumption | exact passes_of rfl) ?_ ?_ ?_ (by intro _; rfl) (by (first | (intro _ _ _ _ z; cases z; done) | (intro _ _ _ _ z; cases z; simp [slT, slTs])))
  | refine z_raise (by (first | assumption | exact EZ.blk (by assumption))) (by decide +kernel) (by rfl) (by decide +kernel) (by rfl) ?_
  | refine z_try (by (first | assumption | exact EZ.blk (by assumption))) (by rfl) (by rfl) (by rfl) (by rfl) (by decide +kernel) (by rfl) (by decide +kernel) (by rfl) (fun W' pn xe q hp => ?_) (fun a oe cls d pn hz hf q => ?_)
  | exact ss_pass | exact ss_brk | exact ss_cnt)
end K02
end
section
set_option Elab.async false
set_option linter.all false
set_option maxRecDepth 100000
set_option maxHeartbeats 2000000
namespace K02
open PySem L2 MP
theorem b22 {P : Program} {w : World} {Kf : PySem.W.Frag} {mg : Str → Option Value} {base : Heap} {cls : Nat → Addr} {pre : List Addr} {adr : Nat → Addr} {k : Nat} {a : Addr} {cdv : Value} {A : Around} {outer : List Env} {s : Shared} {H : Hp} {E : XK}
    (q : EZ k (cxOf (L2.CX P w) P w Kf mg base n22 "_law_is_text" (defScope s22) a cdv A outer s H E) (dk (GG Kf cls pre) Γ0 nm0 T 0 k) (fun c d _ H' => E c d H') LL adr) :
    PSs (cxOf (L2.CX P w) P w Kf mg base n22 "_law_is_text" (defScope s22) a cdv A outer s H E) (defBody s22) (tB (dk (GG Kf cls pre) Γ0 nm0 T 0 k) 0 (fun c d _ H' => E c d H') none f22.body) := by
  repeat' (first
  | exact sb_nil | refine sb_cons ?_ ?_
  | exact sa_nil | refine sa_cons ?_ ?_
  | exact z_var (by (first | assumption | exact EZ.sx (by assumption))) (by rfl) (by (first | exact Or.inl rfl | exact Or.inr (Or.inl rfl) | exact Or.inr (Or.inr rfl))) (by decide +kernel)
  | exact z_int (by (first | assumption | exact EZ.sx (by assumption))) | exact z_str (by (first | assumption | exact EZ.sx (by assumption))) | exact z_bl (by (first | assumption | exact EZ.sx (by assumption))) | exact z_non (by (first | assumption | exact EZ.sx (by assumption)))
  | refine z_bin (by (first | assumption | exact EZ.sx (by assumption))) ?_ ?_
  | refine z_neg (by (first | assumption | exact EZ.sx (by assumption))) ?_
  | refine z_cmp (by (first | assumption | exact EZ.sx (by assumption))) ?_ ?_ (by rfl)
  | refine z_cmp2 (by (first | assumption | exact EZ.sx (by assumption))) ?_ ?_ ?_ (by rfl)
  | refine se_and ?_ ?_ | refine se_or ?_ ?_ | refine se_not ?_ | refine se_one ?_
  | refine SE.val (t := true) (se_and ?_ ?_)
  | refine se_ife ?_ ?_ ?_
  | refine se_lst (ES'.toEX (by (first | assumption | exact EZ.sx (by assumption)))) ?_ | refine se_tup (ES'.toEX (by (first | assumption | exact EZ.sx (by assumption)))) ?_
  | refine se_ix (ES'.toEX (by (first | assumption | exact EZ.sx (by assumption)))) ?_ ?_ (by intro _ _; rfl)
  | refine se_sl (ES'.toEX (by (first | assumption | exact EZ.sx (by assumption)))) ?_ ?_ ?_ | exact so_none | refine so_some ?_
  | refine z_curF (by (first | assumption | exact EZ.sx (by assumption))) (by assumption) (by assumption) (by rfl) (by (first | exact Or.inl rfl | exact Or.inr (Or.inl rfl) | exact Or.inr (Or.inr rfl))) (by decide +kernel) (by rfl) (by rfl)
  | refine z_curI (by (first | assumption | exact EZ.sx (by assumption))) (by assumption) (by assumption) (by rfl) (by (first | exact Or.inl rfl | exact Or.inr (Or.inl rfl) | exact Or.inr (Or.inr rfl))) (by decide +kernel) (by rfl) (by decide +kernel) (by rfl) (by decide +kernel) (by rfl) (by rfl) (by decide +kernel)
  | refine z_curB (by (first | assumption | exact EZ.sx (by assumption))) (by assumption) (by assumption) (by rfl) (by (first | exact Or.inl rfl | exact Or.inr (Or.inl rfl) | exact Or.inr (Or.inr rfl))) (by decide +kernel) (by rfl) (by decide +kernel) (by rfl) (by decide +kernel) (by (first | rfl | decide +kernel)) (by decide +kernel) (by rfl) (by decide +kernel)
  | refine z_glb (by (first | assumption | exact EZ.sx (by assumption))) (by decide +kernel) (by rfl) (by decide +kernel)
  | refine z_call (by (first | assumption | exact EZ.blk (by assumption))) (by decide +kernel) (by decide +kernel) (by rfl) ?_
  | refine z_make (by (first | assumption | exact EZ.blk (by assumption))) (by decide +kernel) (by decide +kernel) (by rfl) ?_
  | refine z_lenSet (by (first | assumption | exact EZ.sx (by assumption))) (by rfl) (by rfl) (by rfl) (by decide +kernel) (by decide +kernel) (by rfl) (by rfl) ?_
  | refine z_biB (by (first | assumption | exact EZ.sx (by assumption))) (by (first | exact Or.inl rfl | exact Or.inr rfl)) (by decide) (by rfl) (by decide +kernel) (by rfl) (by (first | rfl | decide +kernel)) (by decide +kernel) ?_
  | refine z_biT (by (first | assumption | exact EZ.sx (by assumption))) (by (first | exact Or.inl rfl | exact Or.inr rfl)) (by decide) (by rfl) (by decide +kernel) (by rfl) (by (first | rfl | decide +kernel)) (by decide +kernel) ?_
  | refine z_isI (by (first | assumption | exact EZ.sx (by assumption))) (by rfl) (by decide +kernel) (by rfl) ?_ (by rfl) (by decide +kernel) (by (first | rfl | decide +kernel)) (by decide +kernel)
  | refine z_isI2 (by (first | assumption | exact EZ.sx (by assumption))) (by rfl) (by decide +kernel) (by rfl) ?_ (by rfl) (by decide +kernel) (by (first | rfl | decide +kernel)) (by decide +kernel) (by rfl) (by decide +kernel) (by (first | rfl | decide +kernel)) (by decide +kernel)
  | refine z_callv (by (first | assumption | exact EZ.blk (by assumption))) (by rfl) (by (first | exact Or.inl rfl | exact Or.inr (Or.inl rfl) | exact Or.inr (Or.inr rfl))) (by decide +kernel) ?_
  | refine z_clm (by (first | assumption | exact EZ.blk (by assumption))) (by decide +kernel) (by decide +kernel) (by rfl) (by rfl) ?_ (by rfl)
  | refine se_join (by rfl) (ES'.toEX (by (first | assumption | exact EZ.sx (by assumption)))) ?_ ?_ (by rfl) (by rfl) (by rfl)
  | refine se_count (by rfl) (ES'.toEX (by (first | assumption | exact EZ.sx (by assumption)))) ?_ ?_ (by rfl) (by rfl) (by rfl)
  | refine se_append (by rfl) (ES'.toEX (by (first | assumption | exact EZ.sx (by assumption)))) ?_ ?_ (by rfl) (by rfl) (by rfl)
  | refine se_index (by rfl) (ES'.toEX (by (first | assumption | exact EZ.sx (by assumption)))) ?_ ?_ (by rfl) (by rfl) (by rfl)
  | refine se_att (EZ.toEY (by (first | assumption | exact EZ.blk (by assumption)))) (by rfl) ?_ (by rfl)
  | exact se_dct0 (ES'.toEX (by (first | assumption | exact EZ.sx (by assumption))))
  | exact se_dct (ES'.toEX (by (first | assumption | exact EZ.sx (by assumption)))) (.cons pe_int pe_int (by intro a z; cases z) .nil) (by rfl) (by rfl) (by intro z; cases z) (by decide) (by decide)
  | refine z_lc (by (first | assumption | exact EZ.blk (by assumption))) ?_ (by rfl) (fun s H C cl fp q => ?_) (fun s H C cl fp q => ?_) (fun s H C cl fp q => ?_) (by intro _; rfl) (by (intro j hj; simpa [slT, slTs] using hj))
  | exact sc_none | refine sc_one ?_
  | exact z_sgn (EZ.nd (by (first | assumption | exact EZ.blk (by assumption)))) (by rfl) (by (first | exact Or.inl rfl | exact Or.inr rfl)) (by (first | exact Or.inl rfl | exact Or.inr rfl))
  | refine z_sgt (EX.K (EY.toEX (EZ.toEY (by (first | assumption | exact EZ.blk (by assumption)))))) (EY.cm (EZ.toEY (by (first | assumption | exact EZ.blk (by assumption))))) ?_ (by rfl) (by rfl)
  | exact z_sgs0 | refine z_sgs ?_ ?_ (by rfl)
  | refine z_rng1 (by (first | assumption | exact EZ.sx (by assumption))) (by rfl) (by decide +kernel) (by rfl) ?_
  | refine z_enum (by (first | assumption | exact EZ.sx (by assumption))) (by rfl) (by decide +kernel) (by rfl) ?_
  | refine si_ev (EX.K (ES'.toEX (by (first | assumption | exact EZ.sx (by assumption))))) ?_
  | refine ss_ret ?_ | exact ss_retN
  | refine ss_if ?_ ?_ ?_
  | refine z_asg (by (first | assumption | exact EZ.sx (by assumption))) (by rfl) (by (first | exact Or.inl rfl | exact Or.inr rfl)) (by (first | exact Or.inl rfl | exact Or.inr rfl)) ?_ (by rfl) (by (first | (intro _ _ _ _ z; cases z; done) | (intro _ _ _ _ z; cases z; simp [slT, slTs])))
  | refine z_par (by (first | assumption | exact EZ.blk (by assumption))) (by rfl) (by rfl) (by decide) (by rfl) (by rfl) ?_ (by rfl) (by rfl) (by (first | (intro _ _ _ _ z; cases z; done) | (intro _ _ _ _ z; cases z; simp [slT, slTs])))
  | refine z_fld (by (first | assumption | exact EZ.blk (by assumption))) (by rfl) ?_ ?_ (by rfl)
  | refine ss_expr ?_ (by rfl)
  | refine z_for (by (first | assumption | exact EZ.blk (by assumption))) (by first | assumption | exact passes_of rfl) ?_ ?_ ?_ (by intro _; rfl) (by (first | (intro _ _ _ _ z; cases z; done) | (intro _ _ _ _ z; cases z; simp [slT, slTs])))
  | refine z_raise (by (first | assumption | exact EZ.blk (by assumption))) (by decide +kernel) (by rfl) (by decide +kernel) (by rfl) ?_
  | refine z_try (by (first | assumption | exact EZ.blk (by assumption))) (by rfl) (by rfl) (by rfl) (by rfl) (by decide +kernel) (by rfl) (by decide +kernel) (by rfl) (fun W' pn xe q hp => ?_) (fun a oe cls d pn hz hf q => ?_)
  | exact ss_pass | exact ss_brk | exact ss_cnt)
end K02
end
section
set_option Elab.async false
set_option linter.all false
set_option maxRecDepth 100000
set_option maxHeartbeats 2000000
namespace K02
open PySem L2 MP
theorem b23 {P : Program} {w : World} {Kf : PySem.W.Frag} {mg : Str → Option Value} {base : Heap} {cls : Nat → Addr} {pre : List Addr} {adr : Nat → Addr} {k : Nat} {a : Addr} {cdv : Value} {A : Around} {outer : List Env} {s : Shared} {H : Hp} {E : XK}
    (q : EZ k (cxOf (L2.CX P w) P w Kf mg base n23 "_law_made" (defScope s23) a cdv A outer s H E) (dk (GG Kf cls pre) Γ0 nm0 T 0 k) (fun c d _ H' => E c d H') LL adr) :
    PSs (cxOf (L2.CX P w) P w Kf mg base n23 "_law_made" (defScope s23) a cdv A outer s H E) (defBody s23) (tB (dk (GG Kf cls pre) Γ0 nm0 T 0 k) 0 (fun c d _ H' => E c d H') none f23.body) := by
  repeat' (first
  | exact sb_nil | refine sb_cons ?_ ?_
  | exact sa_nil | refine sa_cons ?_ ?_
  | exact z_var (by (first | assumption | exact EZ.sx (by assumption))) (by rfl) (by (first | exact Or.inl rfl | exact Or.inr (Or.inl rfl) | exact Or.inr (Or.inr rfl))) (by decide +kernel)
  | exact z_int (by (first | assumption | exact EZ.sx (by assumption))) | exact z_str (by (first | assumption | exact EZ.sx (by assumption))) | exact z_bl (by (first | assumption | exact EZ.sx (by assumption))) | exact z_non (by (first | assumption | exact EZ.sx (by assumption)))
  | refine z_bin (by (first | assumption | exact EZ.sx (by assumption))) ?_ ?_
  | refine z_neg (by (first | assumption | exact EZ.sx (by assumption))) ?_
  | refine z_cmp (by (first | assumption | exact EZ.sx (by assumption))) ?_ ?_ (by rfl)
  | refine z_cmp2 (by (first | assumption | exact EZ.sx (by assumption))) ?_ ?_ ?_ (by rfl)
  | refine se_and ?_ ?_ | refine se_or ?_ ?_ | refine se_not ?_ | refine se_one ?_
  | refine SE.val (t := true) (se_and ?_ ?_)
  | refine se_ife ?_ ?_ ?_
  | refine se_lst (ES'.toEX (by (first | assumption | exact EZ.sx (by assumption)))) ?_ | refine se_tup (ES'.toEX (by (first | assumption | exact EZ.sx (by assumption)))) ?_
  | refine se_ix (ES'.toEX (by (first | assumption | exact EZ.sx (by assumption)))) ?_ ?_ (by intro _ _; rfl)
  | refine se_sl (ES'.toEX (by (first | assumption | exact EZ.sx (by assumption)))) ?_ ?_ ?_ | exact so_none | refine so_some ?_
  | refine z_curF (by (first | assumption | exact EZ.sx (by assumption))) (by assumption) (by assumption) (by rfl) (by (first | exact Or.inl rfl | exact Or.inr (Or.inl rfl) | exact Or.inr (Or.inr rfl))) (by decide +kernel) (by rfl) (by rfl)
  | refine z_curI (by (first | assumption | exact EZ.sx (by assumption))) (by assumption) (by assumption) (by rfl) (by (first | exact Or.inl rfl | exact Or.inr (Or.inl rfl) | exact Or.inr (Or.inr rfl))) (by decide +kernel) (by rfl) (by decide +kernel) (by rfl) (by decide +kernel) (by rfl) (by rfl) (by decide +kernel)
  | refine z_curB (by (first | assumption | exact EZ.sx (by assumption))) (by assumption) (by assumption) (by rfl) (by (first | exact Or.inl rfl | exact Or.inr (Or.inl rfl) | exact Or.inr (Or.inr rfl))) (by decide +kernel) (by rfl) (by decide +kernel) (by rfl) (by decide +kernel) (by (first | rfl | decide +kernel)) (by decide +kernel) (by rfl) (by decide +kernel)
  | refine z_glb (by (first | assumption | exact EZ.sx (by assumption))) (by decide +kernel) (by rfl) (by decide +kernel)
  | refine z_call (by (first | assumption | exact EZ.blk (by assumption))) (by decide +kernel) (by decide +kernel) (by rfl) ?_
  | refine z_make (by (first | assumption | exact EZ.blk (by assumption))) (by decide +kernel) (by decide +kernel) (by rfl) ?_
  | refine z_lenSet (by (first | assumption | exact EZ.sx (by assumption))) (by rfl) (by rfl) (by rfl) (by decide +kernel) (by decide +kernel) (by rfl) (by rfl) ?_
  | refine z_biB (by (first | assumption | exact EZ.sx (by assumption))) (by (first | exact Or.inl rfl | exact Or.inr rfl)) (by decide) (by rfl) (by decide +kernel) (by rfl) (by (first | rfl | decide +kernel)) (by decide +kernel) ?_
  | refine z_biT (by (first | assumption | exact EZ.sx (by assumption))) (by (first | exact Or.inl rfl | exact Or.inr rfl)) (by decide) (by rfl) (by decide +kernel) (by rfl) (by (first | rfl | decide +kernel)) (by decide +kernel) ?_
  | refine z_isI (by (first | assumption | exact EZ.sx (by assumption))) (by rfl) (by decide +kernel) (by rfl) ?_ (by rfl) (by decide +kernel) (by (first | rfl | decide +kernel)) (by decide +kernel)
  | refine z_isI2 (by (first | assumption | exact EZ.sx (by assumption))) (by rfl) (by decide +kernel) (by rfl) ?_ (by rfl) (by decide +kernel) (by (first | rfl | decide +kernel)) (by decide +kernel) (by rfl) (by decide +kernel) (by (first | rfl | decide +kernel)) (by decide +kernel)
  | refine z_callv (by (first | assumption | exact EZ.blk (by assumption))) (by rfl) (by (first | exact Or.inl rfl | exact Or.inr (Or.inl rfl) | exact Or.inr (Or.inr rfl))) (by decide +kernel) ?_
  | refine z_clm (by (first | assumption | exact EZ.blk (by assumption))) (by decide +kernel) (by decide +kernel) (by rfl) (by rfl) ?_ (by rfl)
  | refine se_join (by rfl) (ES'.toEX (by (first | assumption | exact EZ.sx (by assumption)))) ?_ ?_ (by rfl) (by rfl) (by rfl)
  | refine se_count (by rfl) (ES'.toEX (by (first | assumption | exact EZ.sx (by assumption)))) ?_ ?_ (by rfl) (by rfl) (by rfl)
  | refine se_append (by rfl) (ES'.toEX (by (first | assumption | exact EZ.sx (by assumption)))) ?_ ?_ (by rfl) (by rfl) (by rfl)
  | refine se_index (by rfl) (ES'.toEX (by (first | assumption | exact EZ.sx (by assumption)))) ?_ ?_ (by rfl) (by rfl) (by rfl)
  | refine se_att (EZ.toEY (by (first | assumption | exact EZ.blk (by assumption)))) (by rfl) ?_ (by rfl)
  | exact se_dct0 (ES'.toEX (by (first | assumption | exact EZ.sx (by assumption))))
  | exact se_dct (ES'.toEX (by (first | assumption | exact EZ.sx (by assumption)))) (.cons pe_int pe_int (by intro a z; cases z) .nil) (by rfl) (by rfl) (by intro z; cases z) (by decide) (by decide)
  | refine z_lc (by (first | assumption | exact EZ.blk (by assumption))) ?_ (by rfl) (fun s H C cl fp q => ?_) (fun s H C cl fp q => ?_) (fun s H C cl fp q => ?_) (by intro _; rfl) (by (intro j hj; simpa [slT, slTs] using hj))
  | exact sc_none | refine sc_one ?_
  | exact z_sgn (EZ.nd (by (first | assumption | exact EZ.blk (by assumption)))) (by rfl) (by (first | exact Or.inl rfl | exact Or.inr rfl)) (by (first | exact Or.inl rfl | exact Or.inr rfl))
  | refine z_sgt (EX.K (EY.toEX (EZ.toEY (by (first | assumption | exact EZ.blk (by assumption)))))) (EY.cm (EZ.toEY (by (first | assumption | exact EZ.blk (by assumption))))) ?_ (by rfl) (by rfl)
  | exact z_sgs0 | refine z_sgs ?_ ?_ (by rfl)
  | refine z_rng1 (by (first | assumption | exact EZ.sx (by assumption))) (by rfl) (by decide +kernel) (by rfl) ?_
  | refine z_enum (by (first | assumption | exact EZ.sx (by assumption))) (by rfl) (by decide +kernel) (by rfl) ?_
  | refine si_ev (EX.K (ES'.toEX (by (first | assumption | exact EZ.sx (by assumption))))) ?_
  | refine ss_ret ?_ | exact ss_retN
  | refine ss_if ?_ ?_ ?_
  | refine z_asg (by (first | assumption | exact EZ.sx (by assumption))) (by rfl) (by (first | exact Or.inl rfl | exact Or.inr rfl)) (by (first | exact Or.inl rfl | exact Or.inr rfl)) ?_ (by rfl) (by (first | (intro _ _ _ _ z; cases z; done) | (intro _ _ _ _ z; cases z; simp [slT, slTs])))
  | refine z_par (by (first | assumption | exact EZ.blk (by assumption))) (by rfl) (by rfl) (by decide) (by rfl) (by rfl) ?_ (by rfl) (by rfl) (by (first | (intro _ _ _ _ z; cases z; done) | (intro _ _ _ _ z; cases z; simp [slT, slTs])))
  | refine z_fld (by (first | assumption | exact EZ.blk (by assumption))) (by rfl) ?_ ?_ (by rfl)
  | refine ss_expr ?_ (by rfl)
  | refine z_for (by (first | assumption | exact EZ.blk (by assumption))) (by first | assumption | exact passes_of rfl) ?_ ?_ ?_ (by intro _; rfl) (by (first | (intro _ _ _ _ z; cases z; done) | (intro _ _ _ _ z; cases z; simp [slT, slTs])))
  | refine z_raise (by (first | assumption | exact EZ.blk (by assumption))) (by decide +kernel) (by rfl) (by decide +kernel) (by rfl) ?_
  | refine z_try (by (first | assumption | exact EZ.blk (by assumption))) (by rfl) (by rfl) (by rfl) (by rfl) (by decide +kernel) (by rfl) (by decide +kernel) (by rfl) (fun W' pn xe q hp => ?_) (fun a oe cls d pn hz hf q => ?_)
  | exact ss_pass | exact ss_brk | exact ss_cnt)
end K02
end
section
set_option Elab.async false
set_option linter.all false
set_option maxRecDepth 100000
set_option maxHeartbeats 2000000
namespace K02
open PySem L2 MP
theorem b24 {P : Program} {w : World} {Kf : PySem.W.Frag} {mg : Str → Option Value} {base : Heap} {cls : Nat → Addr} {pre : List Addr} {adr : Nat → Addr} {k : Nat} {a : Addr} {cdv : Value} {A : Around} {outer : List Env} {s : Shared} {H : Hp} {E : XK}
    (q : EZ k (cxOf (L2.CX P w) P w Kf mg base n24 "_law_called" (defScope s24) a cdv A outer s H E) (dk (GG Kf cls pre) Γ0 nm0 T 0 k) (fun c d _ H' => E c d H') LL adr) :
    PSs (cxOf (L2.CX P w) P w Kf mg base n24 "_law_called" (defScope s24) a cdv A outer s H E) (defBody s24) (tB (dk (GG Kf cls pre) Γ0 nm0 T 0 k) 0 (fun c d _ H' => E c d H') none f24.body) := by
  repeat' (first
  | exact sb_nil | refine sb_cons ?_ ?_
  | exact sa_nil | refine sa_cons ?_ ?_
  | exact z_var (by (first | assumption | exact EZ.sx (by assumption))) (by rfl) (by (first | exact Or.inl rfl | exact Or.inr (Or.inl rfl) | exact Or.inr (Or.inr rfl))) (by decide +kernel)
  | exact z_int (by (first | assumption | exact EZ.sx (by assumption))) | exact z_str (by (first | assumption | exact EZ.sx (by assumption))) | exact z_bl (by (first | assumption | exact EZ.sx (by assumption))) | exact z_non (by (first | assumption | exact EZ.sx (by assumption)))
  | refine z_bin (by (first | assumption | exact EZ.sx (by assumption))) ?_ ?_
  | refine z_neg (by (first | assumption | exact EZ.sx (by assumption))) ?_
  | refine z_cmp (by (first | assumption | exact EZ.sx (by assumption))) ?_ ?_ (by rfl)
  | refine z_cmp2 (by (first | assumption | exact EZ.sx (by assumption))) ?_ ?_ ?_ (by rfl)
  | refine se_and ?_ ?_ | refine se_or ?_ ?_ | refine se_not ?_ | refine se_one ?_
  | refine SE.val (t := true) (se_and ?_ ?_)
  | refine se_ife ?_ ?_ ?_
  | refine se_lst (ES'.toEX (by (first | assumption | exact EZ.sx (by assumption)))) ?_ | refine se_tup (ES'.toEX (by (first | assumption | exact EZ.sx (by assumption)))) ?_
  | refine se_ix (ES'.toEX (by (first | assumption | exact EZ.sx (by assumption)))) ?_ ?_ (by intro _ _; rfl)
  | refine se_sl (ES'.toEX (by (first | assumption | exact EZ.sx (by assumption)))) ?_ ?_ ?_ | exact so_none | refine so_some ?_
  | refine z_curF (by (first | assumption | exact EZ.sx (by assumption))) (by assumption) (by assumption) (by rfl) (by (first | exact Or.inl rfl | exact Or.inr (Or.inl rfl) | exact Or.inr (Or.inr rfl))) (by decide +kernel) (by rfl) (by rfl)
  | refine z_curI (by (first | assumption | exact EZ.sx (by assumption))) (by assumption) (by assumption) (by rfl) (by (first | exact Or.inl rfl | exact Or.inr (Or.inl rfl) | exact Or.inr (Or.inr rfl))) (by decide +kernel) (by rfl) (by decide +kernel) (by rfl) (by decide +kernel) (by rfl) (by rfl) (by decide +kernel)
  | refine z_curB (by (first | assumption | exact EZ.sx (by assumption))) (by assumption) (by assumption) (by rfl) (by (first | exact Or.inl rfl | exact Or.inr (Or.inl rfl) | exact Or.inr (Or.inr rfl))) (by decide +kernel) (by rfl) (by decide +kernel) (by rfl) (by decide +kernel) (by (first | rfl | decide +kernel)) (by decide +kernel) (by rfl) (by decide +kernel)
  | refine z_glb (by (first | assumption | exact EZ.sx (by assumption))) (by decide +kernel) (by rfl) (by decide +kernel)
  | refine z_call (by (first | assumption | exact EZ.blk (by assumption))) (by decide +kernel) (by decide +kernel) (by rfl) ?_
  | refine z_make (by (first | assumption | exact EZ.blk (by assumption))) (by decide +kernel) (by decide +kernel) (by rfl) ?_
  | refine z_lenSet (by (first | assumption | exact EZ.sx (by assumption))) (by rfl) (by rfl) (by rfl) (by decide +kernel) (by decide +kernel) (by rfl) (by rfl) ?_
  | refine z_biB (by (first | assumption | exact EZ.sx (by assumption))) (by (first | exact Or.inl rfl | exact Or.inr rfl)) (by decide) (by rfl) (by decide +kernel) (by rfl) (by (first | rfl | decide +kernel)) (by decide +kernel) ?_
  | refine z_biT (by (first | assumption | exact EZ.sx (by assumption))) (by (first | exact Or.inl rfl | exact Or.inr rfl)) (by decide) (by rfl) (by decide +kernel) (by rfl) (by (first | rfl | decide +kernel)) (by decide +kernel) ?_
  | refine z_isI (by (first | assumption | exact EZ.sx (by assumption))) (by rfl) (by decide +kernel) (by rfl) ?_ (by rfl) (by decide +kernel) (by (first | rfl | decide +kernel)) (by decide +kernel)
  | refine z_isI2 (by (first | assumption | exact EZ.sx (by assumption))) (by rfl) (by decide +kernel) (by rfl) ?_ (by rfl) (by decide +kernel) (by (first | rfl | decide +kernel)) (by decide +kernel) (by rfl) (by decide +kernel) (by (first | rfl | decide +kernel)) (by decide +kernel)
  | refine z_callv (by (first | assumption | exact EZ.blk (by assumption))) (by rfl) (by (first | exact Or.inl rfl | exact Or.inr (Or.inl rfl) | exact Or.inr (Or.inr rfl))) (by decide +kernel) ?_
  | refine z_clm (by (first | assumption | exact EZ.blk (by assumption))) (by decide +kernel) (by decide +kernel) (by rfl) (by rfl) ?_ (by rfl)
  | refine se_join (by rfl) (ES'.toEX (by (first | assumption | exact EZ.sx (by assumption)))) ?_ ?_ (by rfl) (by rfl) (by rfl)
  | refine se_count (by rfl) (ES'.toEX (by (first | assumption | exact EZ.sx (by assumption)))) ?_ ?_ (by rfl) (by rfl) (by rfl)
  | refine se_append (by rfl) (ES'.toEX (by (first | assumption | exact EZ.sx (by assumption)))) ?_ ?_ (by rfl) (by rfl) (by rfl)
  | refine se_index (by rfl) (ES'.toEX (by (first | assumption | exact EZ.sx (by assumption)))) ?_ ?_ (by rfl) (by rfl) (by rfl)
  | refine se_att (EZ.toEY (by (first | assumption | exact EZ.blk (by assumption)))) (by rfl) ?_ (by rfl)
  | exact se_dct0 (ES'.toEX (by (first | assumption | exact EZ.sx (by assumption))))
  | exact se_dct (ES'.toEX (by (first | assumption | exact EZ.sx (by assumption)))) (.cons pe_int pe_int (by intro a z; cases z) .nil) (by rfl) (by rfl) (by intro z; cases z) (by decide) (by decide)
  | refine z_lc (by (first | assumption | exact EZ.blk (by assumption))) ?_ (by rfl) (fun s H C cl fp q => ?_) (fun s H C cl fp q => ?_) (fun s H C cl fp q => ?_) (by intro _; rfl) (by (intro j hj; simpa [slT, slTs] using hj))
  | exact sc_none | refine sc_one ?_
  | exact z_sgn (EZ.nd (by (first | assumption | exact EZ.blk (by assumption)))) (by rfl) (by (first | exact Or.inl rfl | exact Or.inr rfl)) (by (first | exact Or.inl rfl | exact Or.inr rfl))
  | refine z_sgt (EX.K (EY.toEX (EZ.toEY (by (first | assumption | exact EZ.blk (by assumption)))))) (EY.cm (EZ.toEY (by (first | assumption | exact EZ.blk (by assumption))))) ?_ (by rfl) (by rfl)
  | exact z_sgs0 | refine z_sgs ?_ ?_ (by rfl)
  | refine z_rng1 (by (first | assumption | exact EZ.sx (by assumption))) (by rfl) (by decide +kernel) (by rfl) ?_
  | refine z_enum (by (first | assumption | exact EZ.sx (by assumption))) (by rfl) (by decide +kernel) (by rfl) ?_
  | refine si_ev (EX.K (ES'.toEX (by (first | assumption | exact EZ.sx (by assumption))))) ?_
  | refine ss_ret ?_ | exact ss_retN
  | refine ss_if ?_ ?_ ?_
  | refine z_asg (by (first | assumption | exact EZ.sx (by assumption))) (by rfl) (by (first | exact Or.inl rfl | exact Or.inr rfl)) (by (first | exact Or.inl rfl | exact Or.inr rfl)) ?_ (by rfl) (by (first | (intro _ _ _ _ z; cases z; done) | (intro _ _ _ _ z; cases z; simp [slT, slTs])))
  | refine z_par (by (first | assumption | exact EZ.blk (by assumption))) (by rfl) (by rfl) (by decide) (by rfl) (by rfl) ?_ (by rfl) (by rfl) (by (first | (intro _ _ _ _ z; cases z; done) | (intro _ _ _ _ z; cases z; simp [slT, slTs])))
  | refine z_fld (by (first | assumption | exact EZ.blk (by assumption))) (by rfl) ?_ ?_ (by rfl)
  | refine ss_expr ?_ (by rfl)
  | refine z_for (by (first | assumption | exact EZ.blk (by assumption))) (by first | assumption | exact passes_of rfl) ?_ ?_ ?_ (by intro _; rfl) (by (first | (intro _ _ _ _ z; cases z; done) | (intro _ _ _ _ z; cases z; simp [slT, slTs])))
  | refine z_raise (by (first | assumption | exact EZ.blk (by assumption))) (by decide +kernel) (by rfl) (by decide +kernel) (by rfl) ?_
  | refine z_try (by (first | assumption | exact EZ.blk (by assumption))) (by rfl) (by rfl) (by rfl) (by rfl) (by decide +kernel) (by rfl) (by decide +kernel) (by rfl) (fun W' pn xe q hp => ?_) (fun a oe cls d pn hz hf q => ?_)
  | exact ss_pass | exact ss_brk | exact ss_cnt)
end K02
end
section
set_option Elab.async false
set_option linter.all false
set_option maxRecDepth 100000
set_option maxHeartbeats 2000000
namespace K02
open PySem L2 MP
theorem b25 {P : Program} {w : World} {Kf : PySem.W.Frag} {mg : Str → Option Value} {base : Heap} {cls : Nat → Addr} {pre : List Addr} {adr : Nat → Addr} {k : Nat} {a : Addr} {cdv : Value} {A : Around} {outer : List Env} {s : Shared} {H : Hp} {E : XK}
    (q : EZ k (cxOf (L2.CX P w) P w Kf mg base n25 "_law_counted" (defScope s25) a cdv A outer s H E) (dk (GG Kf cls pre) Γ0 nm0 T 0 k) (fun c d _ H' => E c d H') LL adr) :
    PSs (cxOf (L2.CX P w) P w Kf mg base n25 "_law_counted" (defScope s25) a cdv A outer s H E) (defBody s25) (tB (dk (GG Kf cls pre) Γ0 nm0 T 0 k) 0 (fun c d _ H' => E c d H') none f25.body) := by
  repeat' (first
  | exact sb_nil | refine sb_cons ?_ ?_
  | exact sa_nil | refine sa_cons ?_ ?_
  | exact z_var (by (first | assumption | exact EZ.sx (by assumption))) (by rfl) (by (first | exact Or.inl rfl | exact Or.inr (Or.inl rfl) | exact Or.inr (Or.inr rfl))) (by decide +kernel)
  | exact z_int (by (first | assumption | exact EZ.sx (by assumption))) | exact z_str (by (first | assumption | exact EZ.sx (by assumption))) | exact z_bl (by (first | assumption | exact EZ.sx (by assumption))) | exact z_non (by (first | assumption | exact EZ.sx (by assumption)))
  | refine z_bin (by (first | assumption | exact EZ.sx (by assumption))) ?_ ?_
  | refine z_neg (by (first | assumption | exact EZ.sx (by assumption))) ?_
  | refine z_cmp (by (first | assumption | exact EZ.sx (by assumption))) ?_ ?_ (by rfl)
  | refine z_cmp2 (by (first | assumption | exact EZ.sx (by assumption))) ?_ ?_ ?_ (by rfl)
  | refine se_and ?_ ?_ | refine se_or ?_ ?_ | refine se_not ?_ | refine se_one ?_
  | refine SE.val (t := true) (se_and ?_ ?_)
  | refine se_ife ?_ ?_ ?_
  | refine se_lst (ES'.toEX (by (first | assumption | exact EZ.sx (by assumption)))) ?_ | refine se_tup (ES'.toEX (by (first | assumption | exact EZ.sx (by assumption)))) ?_
  | refine se_ix (ES'.toEX (by (first | assumption | exact EZ.sx (by assumption)))) ?_ ?_ (by intro _ _; rfl)
  | refine se_sl (ES'.toEX (by (first | assumption | exact EZ.sx (by assumption)))) ?_ ?_ ?_ | exact so_none | refine so_some ?_
  | refine z_curF (by (first | assumption | exact EZ.sx (by assumption))) (by assumption) (by assumption) (by rfl) (by (first | exact Or.inl rfl | exact Or.inr (Or.inl rfl) | exact Or.inr (Or.inr rfl))) (by decide +kernel) (by rfl) (by rfl)
  | refine z_curI (by (first | assumption | exact EZ.sx (by assumption))) (by assumption) (by assumption) (by rfl) (by (first | exact Or.inl rfl | exact Or.inr (Or.inl rfl) | exact Or.inr (Or.inr rfl))) (by decide +kernel) (by rfl) (by decide +kernel) (by rfl) (by decide +kernel) (by rfl) (by rfl) (by decide +kernel)
  | refine z_curB (by (first | assumption | exact EZ.sx (by assumption))) (by assumption) (by assumption) (by rfl) (by (first | exact Or.inl rfl | exact Or.inr (Or.inl rfl) | exact Or.inr (Or.inr rfl))) (by decide +kernel) (by rfl) (by decide +kernel) (by rfl) (by decide +kernel) (by (first | rfl | decide +kernel)) (by decide +kernel) (by rfl) (by decide +kernel)
  | refine z_glb (by (first | assumption | exact EZ.sx (by assumption))) (by decide +kernel) (by rfl) (by decide +kernel)
  | refine z_call (by (first | assumption | exact EZ.blk (by assumption))) (by decide +kernel) (by decide +kernel) (by rfl) ?_
  | refine z_make (by (first | assumption | exact EZ.blk (by assumption))) (by decide +kernel) (by decide +kernel) (by rfl) ?_
  | refine z_lenSet (by (first | assumption | exact EZ.sx (by assumption))) (by rfl) (by rfl) (by rfl) (by decide +kernel) (by decide +kernel) (by rfl) (by rfl) ?_
  | refine z_biB (by (first | assumption | exact EZ.sx (by assumption))) (by (first | exact Or.inl rfl | exact Or.inr rfl)) (by decide) (by rfl) (by decide +kernel) (by rfl) (by (first | rfl | decide +kernel)) (by decide +kernel) ?_
  | refine z_biT (by (first | assumption | exact EZ.sx (by assumption))) (by (first | exact Or.inl rfl | exact Or.inr rfl)) (by decide) (by rfl) (by decide +kernel) (by rfl) (by (first | rfl | decide +kernel)) (by decide +kernel) ?_
  | refine z_isI (by (first | assumption | exact EZ.sx (by assumption))) (by rfl) (by decide +kernel) (by rfl) ?_ (by rfl) (by decide +kernel) (by (first | rfl | decide +kernel)) (by decide +kernel)
  | refine z_isI2 (by (first | assumption | exact EZ.sx (by assumption))) (by rfl) (by decide +kernel) (by rfl) ?_ (by rfl) (by decide +kernel) (by (first | rfl | decide +kernel)) (by decide +kernel) (by rfl) (by decide +kernel) (by (first | rfl | decide +kernel)) (by decide +kernel)
  | refine z_callv (by (first | assumption | exact EZ.blk (by assumption))) (by rfl) (by (first | exact Or.inl rfl | exact Or.inr (Or.inl rfl) | exact Or.inr (Or.inr rfl))) (by decide +kernel) ?_
  | refine z_clm (by (first | assumption | exact EZ.blk (by assumption))) (by decide +kernel) (by decide +kernel) (by rfl) (by rfl) ?_ (by rfl)
  | refine se_join (by rfl) (ES'.toEX (by (first | assumption | exact EZ.sx (by assumption)))) ?_ ?_ (by rfl) (by rfl) (by rfl)
  | refine se_count (by rfl) (ES'.toEX (by (first | assumption | exact EZ.sx (by assumption)))) ?_ ?_ (by rfl) (by rfl) (by rfl)
  | refine se_append (by rfl) (ES'.toEX (by (first | assumption | exact EZ.sx (by assumption)))) ?_ ?_ (by rfl) (by rfl) (by rfl)
  | refine se_index (by rfl) (ES'.toEX (by (first | assumption | exact EZ.sx (by assumption)))) ?_ ?_ (by rfl) (by rfl) (by rfl)
  | refine se_att (EZ.toEY (by (first | assumption | exact EZ.blk (by assumption)))) (by rfl) ?_ (by rfl)
  | exact se_dct0 (ES'.toEX (by (first | assumption | exact EZ.sx (by assumption))))
  | exact se_dct (ES'.toEX (by (first | assumption | exact EZ.sx (by assumption)))) (.cons pe_int pe_int (by intro a z; cases z) .nil) (by rfl) (by rfl) (by intro z; cases z) (by decide) (by decide)
  | refine z_lc (by (first | assumption | exact EZ.blk (by assumption))) ?_ (by rfl) (fun s H C cl fp q => ?_) (fun s H C cl fp q => ?_) (fun s H C cl fp q => ?_) (by intro _; rfl) (by (intro j hj; simpa [slT, slTs] using hj))
  | exact sc_none | refine sc_one ?_
  | exact z_sgn (EZ.nd (by (first | assumption | exact EZ.blk (by assumption)))) (by rfl) (by (first | exact Or.inl rfl | exact Or.inr rfl)) (by (first | exact Or.inl rfl | exact Or.inr rfl))
  | refine z_sgt (EX.K (EY.toEX (EZ.toEY (by (first | assumption | exact EZ.blk (by assumption)))))) (EY.cm (EZ.toEY (by (first | assumption | exact EZ.blk (by assumption))))) ?_ (by rfl) (by rfl)
  | exact z_sgs0 | refine z_sgs ?_ ?_ (by rfl)
  | refine z_rng1 (by (first | assumption | exact EZ.sx (by assumption))) (by rfl) (by decide +kernel) (by rfl) ?_
  | refine z_enum (by (first | assumption | exact EZ.sx (by assumption))) (by rfl) (by decide +kernel) (by rfl) ?_
  | refine si_ev (EX.K (ES'.toEX (by (first | assumption | exact EZ.sx (by assumption))))) ?_
  | refine ss_ret ?_ | exact ss_retN
  | refine ss_if ?_ ?_ ?_
  | refine z_asg (by (first | assumption | exact EZ.sx (by assumption))) (by rfl) (by (first | exact Or.inl rfl | exact Or.inr rfl)) (by (first | exact Or.inl rfl | exact Or.inr rfl)) ?_ (by rfl) (by (first | (intro _ _ _ _ z; cases z; done) | (intro _ _ _ _ z; cases z; simp [slT, slTs])))
  | refine z_par (by (first | assumption | exact EZ.blk (by assumption))) (by rfl) (by rfl) (by decide) (by rfl) (by rfl) ?_ (by rfl) (by rfl) (by (first | (intro _ _ _ _ z; cases z; done) | (intro _ _ _ _ z; cases z; simp [slT, slTs])))
  | refine z_fld (by (first | assumption | exact EZ.blk (by assumption))) (by rfl) ?_ ?_ (by rfl)
  | refine ss_expr ?_ (by rfl)
  | refine z_for (by (first | assumption | exact EZ.blk (by assumption))) (by first | assumption | exact passes_of rfl) ?_ ?_ ?_ (by intro _; rfl) (by (first | (intro _ _ _ _ z; cases z; done) | (intro _ _ _ _ z; cases z; simp [slT, slTs])))
  | refine z_raise (by (first | assumption | exact EZ.blk (by assumption))) (by decide +kernel) (by rfl) (by decide +kernel) (by rfl) ?_
  | refine z_try (by (first | assumption | exact EZ.blk (by assumption))) (by rfl) (by rfl) (by rfl) (by rfl) (by decide +kernel) (by rfl) (by decide +kernel) (by rfl) (fun W' pn xe q hp => ?_) (fun a oe cls d pn hz hf q => ?_)
  | exact ss_pass | exact ss_brk | exact ss_cnt)
end K02
end
section
set_option Elab.async false
set_option linter.all false
set_option maxRecDepth 100000
set_option maxHeartbeats 2000000
namespace K02
open PySem L2 MP
theorem b26 {P : Program} {w : World} {Kf : PySem.W.Frag} {mg : Str → Option Value} {base : Heap} {cls : Nat → Addr} {pre : List Addr} {adr : Nat → Addr} {k : Nat} {a : Addr} {cdv : Value} {A : Around} {outer : List Env} {s : Shared} {H : Hp} {E : XK}
    (q : EZ k (cxOf (L2.CX P w) P w Kf mg base n26 "law" (defScope s26) a cdv A outer s H E) (dk (GG Kf cls pre) Γ0 nm0 T 0 k) (fun c d _ H' => E c d H') LL adr) :
    PSs (cxOf (L2.CX P w) P w Kf mg base n26 "law" (defScope s26) a cdv A outer s H E) (defBody s26) (tB (dk (GG Kf cls pre) Γ0 nm0 T 0 k) 0 (fun c d _ H' => E c d H') none f26.body) := by
  repeat' (first
  | exact sb_nil | refine sb_cons ?_ ?_
  | exact sa_nil | refine sa_cons ?_ ?_
  | exact z_var (by (first | assumption | exact EZ.sx (by assumption))) (by rfl) (by (first | exact Or.inl rfl | exact Or.inr (Or.inl rfl) | exact Or.inr (Or.inr rfl))) (by decide +kernel)
  | exact z_int (by (first | assumption | exact EZ.sx (by assumption))) | exact z_str (by (first | assumption | exact EZ.sx (by assumption))) | exact z_bl (by (first | assumption | exact EZ.sx (by assumption))) | exact z_non (by (first | assumption | exact EZ.sx (by assumption)))
  | refine z_bin (by (first | assumption | exact EZ.sx (by assumption))) ?_ ?_
  | refine z_neg (by (first | assumption | exact EZ.sx (by assumption))) ?_
  | refine z_cmp (by (first | assumption | exact EZ.sx (by assumption))) ?_ ?_ (by rfl)
  | refine z_cmp2 (by (first | assumption | exact EZ.sx (by assumption))) ?_ ?_ ?_ (by rfl)
  | refine se_and ?_ ?_ | refine se_or ?_ ?_ | refine se_not ?_ | refine se_one ?_
  | refine SE.val (t := true) (se_and ?_ ?_)
  | refine se_ife ?_ ?_ ?_
  | refine se_lst (ES'.toEX (by (first | assumption | exact EZ.sx (by assumption)))) ?_ | refine se_tup (ES'.toEX (by (first | assumption | exact EZ.sx (by assumption)))) ?_
  | refine se_ix (ES'.toEX (by (first | assumption | exact EZ.sx (by assumption)))) ?_ ?_ (by intro _ _; rfl)
  | refine se_sl (ES'.toEX (by (first | assumption | exact EZ.sx (by assumption)))) ?_ ?_ ?_ | exact so_none | refine so_some ?_
  | refine z_curF (by (first | assumption | exact EZ.sx (by assumption))) (by assumption) (by assumption) (by rfl) (by (first | exact Or.inl rfl | exact Or.inr (Or.inl rfl) | exact Or.inr (Or.inr rfl))) (by decide +kernel) (by rfl) (by rfl)
  | refine z_curI (by (first | assumption | exact EZ.sx (by assumption))) (by assumption) (by assumption) (by rfl) (by (first | exact Or.inl rfl | exact Or.inr (Or.inl rfl) | exact Or.inr (Or.inr rfl))) (by decide +kernel) (by rfl) (by decide +kernel) (by rfl) (by decide +kernel) (by rfl) (by rfl) (by decide +kernel)
  | refine z_curB (by (first | assumption | exact EZ.sx (by assumption))) (by assumption) (by assumption) (by rfl) (by (first | exact Or.inl rfl | exact Or.inr (Or.inl rfl) | exact Or.inr (Or.inr rfl))) (by decide +kernel) (by rfl) (by decide +kernel) (by rfl) (by decide +kernel) (by (first | rfl | decide +kernel)) (by decide +kernel) (by rfl) (by decide +kernel)
  | refine z_glb (by (first | assumption | exact EZ.sx (by assumption))) (by decide +kernel) (by rfl) (by decide +kernel)
  | refine z_call (by (first | assumption | exact EZ.blk (by assumption))) (by decide +kernel) (by decide +kernel) (by rfl) ?_
  | refine z_make (by (first | assumption | exact EZ.blk (by assumption))) (by decide +kernel) (by decide +kernel) (by rfl) ?_
  | refine z_lenSet (by (first | assumption | exact EZ.sx (by assumption))) (by rfl) (by rfl) (by rfl) (by decide +kernel) (by decide +kernel) (by rfl) (by rfl) ?_
  | refine z_biB (by (first | assumption | exact EZ.sx (by assumption))) (by (first | exact Or.inl rfl | exact Or.inr rfl)) (by decide) (by rfl) (by decide +kernel) (by rfl) (by (first | rfl | decide +kernel)) (by decide +kernel) ?_
  | refine z_biT (by (first | assumption | exact EZ.sx (by assumption))) (by (first | exact Or.inl rfl | exact Or.inr rfl)) (by decide) (by rfl) (by decide +kernel) (by rfl) (by (first | rfl | decide +kernel)) (by decide +kernel) ?_
  | refine z_isI (by (first | assumption | exact EZ.sx (by assumption))) (by rfl) (by decide +kernel) (by rfl) ?_ (by rfl) (by decide +kernel) (by (first | rfl | decide +kernel)) (by decide +kernel)
  | refine z_isI2 (by (first | assumption | exact EZ.sx (by assumption))) (by rfl) (by decide +kernel) (by rfl) ?_ (by rfl) (by decide +kernel) (by (first | rfl | decide +kernel)) (by decide +kernel) (by rfl) (by decide +kernel) (by (first | rfl | decide +kernel)) (by decide +kernel)
  | refine z_callv (by (first | assumption | exact EZ.blk (by assumption))) (by rfl) (by (first | exact Or.inl rfl | exact Or.inr (Or.inl rfl) | exact Or.inr (Or.inr rfl))) (by decide +kernel) ?_
  | refine z_clm (by (first | assumption | exact EZ.blk (by assumption))) (by decide +kernel) (by decide +kernel) (by rfl) (by rfl) ?_ (by rfl)
  | refine se_join (by rfl) (ES'.toEX (by (first | assumption | exact EZ.sx (by assumption)))) ?_ ?_ (by rfl) (by rfl) (by rfl)
  | refine se_count (by rfl) (ES'.toEX (by (first | assumption | exact EZ.sx (by assumption)))) ?_ ?_ (by rfl) (by rfl) (by rfl)
  | refine se_append (by rfl) (ES'.toEX (by (first | assumption | exact EZ.sx (by assumption)))) ?_ ?_ (by rfl) (by rfl) (by rfl)
  | refine se_index (by rfl) (ES'.toEX (by (first | assumption | exact EZ.sx (by assumption)))) ?_ ?_ (by rfl) (by rfl) (by rfl)
  | refine se_att (EZ.toEY (by (first | assumption | exact EZ.blk (by assumption)))) (by rfl) ?_ (by rfl)
  | exact se_dct0 (ES'.toEX (by (first | assumption | exact EZ.sx (by assumption))))
  | exact se_dct (ES'.toEX (by (first | assumption | exact EZ.sx (by assumption)))) (.cons pe_int pe_int (by intro a z; cases z) .nil) (by rfl) (by rfl) (by intro z; cases z) (by decide) (by decide)
  | refine z_lc (by (first | assumption | exact EZ.blk (by assumption))) ?_ (by rfl) (fun s H C cl fp q => ?_) (fun s H C cl fp q => ?_) (fun s H C cl fp q => ?_) (by intro _; rfl) (by (intro j hj; simpa [slT, slTs] using hj))
  | exact sc_none | refine sc_one ?_
  | exact z_sgn (EZ.nd (by (first | assumption | exact EZ.blk (by assumption)))) (by rfl) (by (first | exact Or.inl rfl | exact Or.inr rfl)) (by (first | exact Or.inl rfl | exact Or.inr rfl))
  | refine z_sgt (EX.K (EY.toEX (EZ.toEY (by (first | assumption | exact EZ.blk (by assumption)))))) (EY.cm (EZ.toEY (by (first | assumption | exact EZ.blk (by assumption))))) ?_ (by rfl) (by rfl)
  | exact z_sgs0 | refine z_sgs ?_ ?_ (by rfl)
  | refine z_rng1 (by (first | assumption | exact EZ.sx (by assumption))) (by rfl) (by decide +kernel) (by rfl) ?_
  | refine z_enum (by (first | assumption | exact EZ.sx (by assumption))) (by rfl) (by decide +kernel) (by rfl) ?_
  | refine si_ev (EX.K (ES'.toEX (by (first | assumption | exact EZ.sx (by assumption))))) ?_
  | refine ss_ret ?_ | exact ss_retN
  | refine ss_if ?_ ?_ ?_
  | refine z_asg (by (first | assumption | exact EZ.sx (by assumption))) (by rfl) (by (first | exact Or.inl rfl | exact Or.inr rfl)) (by (first | exact Or.inl rfl | exact Or.inr rfl)) ?_ (by rfl) (by (first | (intro _ _ _ _ z; cases z; done) | (intro _ _ _ _ z; cases z; simp [slT, slTs])))
  | refine z_par (by (first | assumption | exact EZ.blk (by assumption))) (by rfl) (by rfl) (by decide) (by rfl) (by rfl) ?_ (by rfl) (by rfl) (by (first | (intro _ _ _ _ z; cases z; done) | (intro _ _ _ _ z; cases z; simp [slT, slTs])))
  | refine z_fld (by (first | assumption | exact EZ.blk (by assumption))) (by rfl) ?_ ?_ (by rfl)
  | refine ss_expr ?_ (by rfl)
  | refine z_for (by (first | assumption | exact EZ.blk (by assumption))) (by first | assumption | exact passes_of rfl) ?_ ?_ ?_ (by intro _; rfl) (by (first | (intro _ _ _ _ z; cases z; done) | (intro _ _ _ _ z; cases z; simp [slT, slTs])))
  | refine z_raise (by (first | assumption | exact EZ.blk (by assumption))) (by decide +kernel) (by rfl) (by decide +kernel) (by rfl) ?_
  | refine z_try (by (first | assumption | exact EZ.blk (by assumption))) (by rfl) (by rfl) (by rfl) (by rfl) (by decide +kernel) (by rfl) (by decide +kernel) (by rfl) (fun W' pn xe q hp => ?_) (fun a oe cls d pn hz hf q => ?_)
  | exact ss_pass | exact ss_brk | exact ss_cnt)
end K02
end
section
set_option Elab.async false
set_option linter.all false
set_option maxRecDepth 100000
set_option maxHeartbeats 4000000
namespace K02
open PySem L2 MP PySem.MPX
def okf (f : Nat) : Bool := [3, 4, 5, 6, 7, 8, 9, 10, 16, 19, 20, 21, 22, 23, 24, 25, 26].contains f
theorem isF_inv {C x : Nat} (e : Γ0.isF C x = true) : C = 3 ∧ x = 1 := by
  simp only [Γ0] at e
  split at e
  · exact ⟨rfl, rfl⟩
  · cases e
theorem cm_inv {C x f : Nat} (e : Γ0.cmeth C x = some (f, true)) : C = 3 ∧ x = 3 ∧ f = 8 := by
  simp only [Γ0] at e
  split at e <;> first | (cases e; done) | (cases e; exact ⟨rfl, rfl, rfl⟩)
theorem sm_inv {C x f : Nat} (e : Γ0.cmeth C x = some (f, false)) : C = 3 ∧ x = 4 ∧ f = 9 := by
  simp only [Γ0] at e
  split at e <;> first | (cases e; done) | (cases e; exact ⟨rfl, rfl, rfl⟩)
theorem all_mk {l : PySem.W.OpenLaw} {w : World} {K : PySem.W.Frag} {h : Heap} {mg : Str → Option Value} {fa : Addr} (X : K.In h) (Gn : h.Ns mainGlobals mg) (hfa : mg "law" = some (.ref fa)) {C0 C1 C2 C3 aL aP b1 b2 a3 a4 a5 a6 a7 a8 a9 a10 a16 a19 a20 a21 a22 a23 a24 a25 a26 r8 r9 r10 : Addr} {mc : Value} {rest8 rest9 rest10 : List Value} {od3 an3 od4 an4 od5 an5 od6 an6 od7 an7 od8 an8 od9 an9 od10 an10 od16 an16 od19 an19 od20 an20 od21 an21 od22 an22 od23 an23 od24 an24 od25 an25 od26 an26 xod1 xod2 xan1 xan2 dd1 dd2 : Option Addr} {oc3 kV3 dc3 pm3 cd3 ct3 oc4 kV4 dc4 pm4 cd4 ct4 oc5 kV5 dc5 pm5 cd5 ct5 oc6 kV6 dc6 pm6 cd6 ct6 oc7 kV7 dc7 pm7 cd7 ct7 oc8 kV8 dc8 pm8 cd8 ct8 oc9 kV9 dc9 pm9 cd9 ct9 oc10 kV10 dc10 pm10 cd10 ct10 oc16 kV16 dc16 pm16 cd16 ct16 oc19 kV19 dc19 pm19 cd19 ct19 oc20 kV20 dc20 pm20 cd20 ct20 oc21 kV21 dc21 pm21 cd21 ct21 oc22 kV22 dc22 pm22 cd22 ct22 oc23 kV23 dc23 pm23 cd23 ct23 oc24 kV24 dc24 pm24 cd24 ct24 oc25 kV25 dc25 pm25 cd25 ct25 oc26 kV26 dc26 pm26 cd26 ct26 xoc1 xdc1 xpm1 xcd1 xct1 xoc2 xdc2 xpm2 xcd2 xct2 : Value} {sl3 sl4 sl5 sl6 sl7 sl8 sl9 sl10 sl16 sl19 sl20 sl21 sl22 sl23 sl24 sl25 sl26 xsl1 xsl2 slL slP : Array (Option Value)} {nm1 nm2 q1 q2 : Str} {N1 N2 : Addr} {bs1 bs2 sub1 sub2 : List Value} {sn1 sn2 : List Str} {ab1 ab2 : Bool} {col1 col2 : Option Bool} {ka1 kb1 kc1 kd1 ke1 ka2 kb2 kc2 kd2 ke2 : Option Value} {pa1 pb1 qa1 qb1 qc1 qd1 pa2 pb2 qa2 qb2 qc2 qd2 : Pos} {tk0 ta tb tc td te tf : Tok} {nL nP : Nat}
    (h_gC0 : PySem.W.nsIn K mainGlobals "RingError" = some (some (.ref C0)))
    (h_gC1 : PySem.W.nsIn K mainGlobals "InvalidStatement" = some (some (.ref C1)))
    (h_gC2 : PySem.W.nsIn K mainGlobals "InvalidNumber" = some (some (.ref C2)))
    (h_gC3 : PySem.W.nsIn K mainGlobals "Statement" = some (some (.ref C3)))
    (h_S0 : PySem.W.typeIn K (.ref C3) = some mc)
    (h_g3 : PySem.W.nsIn K mainGlobals "is_integer" = some (some (.ref a3)))
    (h_l3 : K.lookup a3 = some ⟨oc3, od3, .func (PySem.W.fnOf "is_integer" "is_integer" (defArgs s3) (defBody s3) (defScope s3) .none kV3 dc3 pm3 an3 cd3 ct3), sl3⟩)
    (h_c3 : PySem.W.codeIn K cd3 "is_integer" = true)
    (h_k3 : PySem.W.keepIn K (.ref a3) = true)
    (h_g4 : PySem.W.nsIn K mainGlobals "is_between" = some (some (.ref a4)))
    (h_l4 : K.lookup a4 = some ⟨oc4, od4, .func (PySem.W.fnOf "is_between" "is_between" (defArgs s4) (defBody s4) (defScope s4) .none kV4 dc4 pm4 an4 cd4 ct4), sl4⟩)
    (h_c4 : PySem.W.codeIn K cd4 "is_between" = true)
    (h_k4 : PySem.W.keepIn K (.ref a4) = true)
    (h_g5 : PySem.W.nsIn K mainGlobals "text_of" = some (some (.ref a5)))
    (h_l5 : K.lookup a5 = some ⟨oc5, od5, .func (PySem.W.fnOf "text_of" "text_of" (defArgs s5) (defBody s5) (defScope s5) .none kV5 dc5 pm5 an5 cd5 ct5), sl5⟩)
    (h_c5 : PySem.W.codeIn K cd5 "text_of" = true)
    (h_k5 : PySem.W.keepIn K (.ref a5) = true)
    (h_g6 : PySem.W.nsIn K mainGlobals "is_statement_text" = some (some (.ref a6)))
    (h_l6 : K.lookup a6 = some ⟨oc6, od6, .func (PySem.W.fnOf "is_statement_text" "is_statement_text" (defArgs s6) (defBody s6) (defScope s6) .none kV6 dc6 pm6 an6 cd6 ct6), sl6⟩)
    (h_c6 : PySem.W.codeIn K cd6 "is_statement_text" = true)
    (h_k6 : PySem.W.keepIn K (.ref a6) = true)
    (h_m7 : PySem.W.findIn K (.ref C3) "__init__" = some (some (.ref a7)))
    (h_i7 : PySem.W.isFn K (.ref a7) = true)
    (h_j7 : PySem.W.fnIn K a7 = true)
    (h_l7 : K.lookup a7 = some ⟨oc7, od7, .func (PySem.W.fnOf "__init__" "Statement.__init__" (defArgs s7) (defBody s7) (defScope s7) .none kV7 dc7 pm7 an7 cd7 ct7), sl7⟩)
    (h_c7 : PySem.W.codeIn K cd7 "Statement.__init__" = true)
    (h_k7 : PySem.W.keepIn K (.ref a7) = true)
    (h_m8 : PySem.W.findCls K (.ref C3) mc "of_numbers" = some (.get (.builtin "classmethod.__get__") (.ref r8) .none (.ref C3)))
    (h_pr8 : PySem.W.recIn K r8 "classmethod" = some (.ref a8 :: rest8))
    (h_j8 : PySem.W.fnIn K a8 = true)
    (h_l8 : K.lookup a8 = some ⟨oc8, od8, .func (PySem.W.fnOf "of_numbers" "Statement.of_numbers" (defArgs s8) (defBody s8) (defScope s8) .none kV8 dc8 pm8 an8 cd8 ct8), sl8⟩)
    (h_c8 : PySem.W.codeIn K cd8 "Statement.of_numbers" = true)
    (h_k8 : PySem.W.keepIn K (.ref a8) = true)
    (h_m9 : PySem.W.findCls K (.ref C3) mc "is_text" = some (.get (.builtin "staticmethod.__get__") (.ref r9) .none (.ref C3)))
    (h_pr9 : PySem.W.recIn K r9 "staticmethod" = some (.ref a9 :: rest9))
    (h_l9 : K.lookup a9 = some ⟨oc9, od9, .func (PySem.W.fnOf "is_text" "Statement.is_text" (defArgs s9) (defBody s9) (defScope s9) .none kV9 dc9 pm9 an9 cd9 ct9), sl9⟩)
    (h_c9 : PySem.W.codeIn K cd9 "Statement.is_text" = true)
    (h_k9 : PySem.W.keepIn K (.ref a9) = true)
    (h_m10 : PySem.W.findIn K (.ref C3) "text" = some (some (.ref r10)))
    (h_pg10 : PySem.W.specialIn K (.ref r10) "__get__" = some (some (.builtin "property.__get__")))
    (h_pt10 : PySem.W.takesIn K (.ref r10) = some true)
    (h_pr10 : PySem.W.recIn K r10 "property" = some (.ref a10 :: rest10))
    (h_l10 : K.lookup a10 = some ⟨oc10, od10, .func (PySem.W.fnOf "text" "Statement.text" (defArgs s10) (defBody s10) (defScope s10) .none kV10 dc10 pm10 an10 cd10 ct10), sl10⟩)
    (h_c10 : PySem.W.codeIn K cd10 "Statement.text" = true)
    (h_k10 : PySem.W.keepIn K (.ref a10) = true)
    (h_m16 : PySem.W.findIn K (.ref C3) "__call__" = some (some (.ref a16)))
    (h_i16 : PySem.W.isFn K (.ref a16) = true)
    (h_j16 : PySem.W.fnIn K a16 = true)
    (h_l16 : K.lookup a16 = some ⟨oc16, od16, .func (PySem.W.fnOf "__call__" "Statement.__call__" (defArgs s16) (defBody s16) (defScope s16) .none kV16 dc16 pm16 an16 cd16 ct16), sl16⟩)
    (h_c16 : PySem.W.codeIn K cd16 "Statement.__call__" = true)
    (h_k16 : PySem.W.keepIn K (.ref a16) = true)
    (h_g19 : PySem.W.nsIn K mainGlobals "_law_numbers" = some (some (.ref a19)))
    (h_l19 : K.lookup a19 = some ⟨oc19, od19, .func (PySem.W.fnOf "_law_numbers" "_law_numbers" (defArgs s19) (defBody s19) (defScope s19) .none kV19 dc19 pm19 an19 cd19 ct19), sl19⟩)
    (h_c19 : PySem.W.codeIn K cd19 "_law_numbers" = true)
    (h_k19 : PySem.W.keepIn K (.ref a19) = true)
    (h_g20 : PySem.W.nsIn K mainGlobals "_law_odd" = some (some (.ref a20)))
    (h_l20 : K.lookup a20 = some ⟨oc20, od20, .func (PySem.W.fnOf "_law_odd" "_law_odd" (defArgs s20) (defBody s20) (defScope s20) .none kV20 dc20 pm20 an20 cd20 ct20), sl20⟩)
    (h_c20 : PySem.W.codeIn K cd20 "_law_odd" = true)
    (h_k20 : PySem.W.keepIn K (.ref a20) = true)
    (h_g21 : PySem.W.nsIn K mainGlobals "_law_changed" = some (some (.ref a21)))
    (h_l21 : K.lookup a21 = some ⟨oc21, od21, .func (PySem.W.fnOf "_law_changed" "_law_changed" (defArgs s21) (defBody s21) (defScope s21) .none kV21 dc21 pm21 an21 cd21 ct21), sl21⟩)
    (h_c21 : PySem.W.codeIn K cd21 "_law_changed" = true)
    (h_k21 : PySem.W.keepIn K (.ref a21) = true)
    (h_g22 : PySem.W.nsIn K mainGlobals "_law_is_text" = some (some (.ref a22)))
    (h_l22 : K.lookup a22 = some ⟨oc22, od22, .func (PySem.W.fnOf "_law_is_text" "_law_is_text" (defArgs s22) (defBody s22) (defScope s22) .none kV22 dc22 pm22 an22 cd22 ct22), sl22⟩)
    (h_c22 : PySem.W.codeIn K cd22 "_law_is_text" = true)
    (h_k22 : PySem.W.keepIn K (.ref a22) = true)
    (h_g23 : PySem.W.nsIn K mainGlobals "_law_made" = some (some (.ref a23)))
    (h_l23 : K.lookup a23 = some ⟨oc23, od23, .func (PySem.W.fnOf "_law_made" "_law_made" (defArgs s23) (defBody s23) (defScope s23) .none kV23 dc23 pm23 an23 cd23 ct23), sl23⟩)
    (h_c23 : PySem.W.codeIn K cd23 "_law_made" = true)
    (h_k23 : PySem.W.keepIn K (.ref a23) = true)
    (h_g24 : PySem.W.nsIn K mainGlobals "_law_called" = some (some (.ref a24)))
    (h_l24 : K.lookup a24 = some ⟨oc24, od24, .func (PySem.W.fnOf "_law_called" "_law_called" (defArgs s24) (defBody s24) (defScope s24) .none kV24 dc24 pm24 an24 cd24 ct24), sl24⟩)
    (h_c24 : PySem.W.codeIn K cd24 "_law_called" = true)
    (h_k24 : PySem.W.keepIn K (.ref a24) = true)
    (h_g25 : PySem.W.nsIn K mainGlobals "_law_counted" = some (some (.ref a25)))
    (h_l25 : K.lookup a25 = some ⟨oc25, od25, .func (PySem.W.fnOf "_law_counted" "_law_counted" (defArgs s25) (defBody s25) (defScope s25) .none kV25 dc25 pm25 an25 cd25 ct25), sl25⟩)
    (h_c25 : PySem.W.codeIn K cd25 "_law_counted" = true)
    (h_k25 : PySem.W.keepIn K (.ref a25) = true)
    (h_g26 : PySem.W.nsIn K mainGlobals "law" = some (some (.ref a26)))
    (h_l26 : K.lookup a26 = some ⟨oc26, od26, .func (PySem.W.fnOf "law" "law" (defArgs s26) (defBody s26) (defScope s26) .none kV26 dc26 pm26 an26 cd26 ct26), sl26⟩)
    (h_c26 : PySem.W.codeIn K cd26 "law" = true)
    (h_k26 : PySem.W.keepIn K (.ref a26) = true)
    (h_S1 : PySem.W.plainGet K C3 Str.empty = true)
    (h_S2 : PySem.W.hasDictIn K C3 = true)
    (h_S3 : PySem.W.plainOver K C3 = true)
    (h_S4 : PySem.W.findIn K (.ref C3) "__setattr__" = some (some (.builtin "object.__setattr__")))
    (h_S5 : PySem.W.findIn K (.ref C3) "own_text" = some none)
    (h_S6 : PySem.W.readsIn K C3 mc = true)
    (h_S7 : PySem.W.specialIn K (.ref C3) "__getattribute__" = some (some (.builtin "type.__getattribute__")))
    (h_S8 : PySem.W.makesIn K C3 = true)
    (h_S9 : PySem.W.keepIn K (.ref C3) = true)
    (h_R1 : PySem.W.keepIn K (.ref C0) = true)
    (h_x1 : K.lookup C1 = some (PySem.excClassObj nm1 q1 C1 N1 bs1 (.ref C0 :: [.type "Exception", .type "BaseException", .type "object"]) true sn1 sub1 ab1 col1 dd1 ka1 kb1 kc1 kd1 ke1 "Exception.__new__"))
    (h_x1sa : PySem.W.findIn K (.ref C1) "__setattr__" = some (some (.builtin "object.__setattr__")))
    (h_x1no : PySem.W.findIn K (.ref C1) "value" = some none)
    (h_x1in : PySem.W.findIn K (.ref C1) "__init__" = some (some (.ref b1)))
    (h_x1ty : PySem.W.typeIn K (.ref b1) = some (.type "function"))
    (h_x1kp : PySem.W.keepIn K (.ref C1) = true)
    (h_x1fn : K.lookup b1 = some ⟨xoc1, xod1, .func (PySem.W.fnOf "__init__" "InvalidStatement.__init__" (PySem.MPX.vA pa1 pb1) (PySem.MPX.vB qa1 qb1 qc1 qd1) PySem.MPX.vS .none .none xdc1 xpm1 xan1 xcd1 xct1), xsl1⟩)
    (h_x1cd : PySem.W.codeIn K xcd1 "InvalidStatement.__init__" = true)
    (h_x1ga : PySem.W.findIn K (.ref C1) "__getattribute__" = some (some (.builtin "BaseException.__getattribute__")))
    (h_x1gg : PySem.W.findIn K (.ref C1) "__getattr__" = some none)
    (h_x1cl : PySem.W.findIn K (.ref C1) "__class__" = some (some (.builtin "object.__class__")))
    (h_x1mr : PySem.W.mroIn K C1 (.type "object") = some true)
    (h_x2 : K.lookup C2 = some (PySem.excClassObj nm2 q2 C2 N2 bs2 [.type "ValueError", .type "Exception", .type "BaseException", .type "object"] true sn2 sub2 ab2 col2 dd2 ka2 kb2 kc2 kd2 ke2 "ValueError.__new__"))
    (h_x2sa : PySem.W.findIn K (.ref C2) "__setattr__" = some (some (.builtin "object.__setattr__")))
    (h_x2no : PySem.W.findIn K (.ref C2) "value" = some none)
    (h_x2in : PySem.W.findIn K (.ref C2) "__init__" = some (some (.ref b2)))
    (h_x2ty : PySem.W.typeIn K (.ref b2) = some (.type "function"))
    (h_x2kp : PySem.W.keepIn K (.ref C2) = true)
    (h_x2fn : K.lookup b2 = some ⟨xoc2, xod2, .func (PySem.W.fnOf "__init__" "InvalidNumber.__init__" (PySem.MPX.vA pa2 pb2) (PySem.MPX.vB qa2 qb2 qc2 qd2) PySem.MPX.vS .none .none xdc2 xpm2 xan2 xcd2 xct2), xsl2⟩)
    (h_x2cd : PySem.W.codeIn K xcd2 "InvalidNumber.__init__" = true)
    (h_x2ga : PySem.W.findIn K (.ref C2) "__getattribute__" = some (some (.builtin "BaseException.__getattribute__")))
    (h_x2gg : PySem.W.findIn K (.ref C2) "__getattr__" = some none)
    (h_x2cl : PySem.W.findIn K (.ref C2) "__class__" = some (some (.builtin "object.__class__")))
    (h_x2mr : PySem.W.mroIn K C2 (.type "object") = some true)
    (h_y0b : PySem.W.subIn K (.ref C0) (.type "BaseException") = some true)
    (h_y0t : PySem.W.typeIn K (.ref C0) = some (.type "type"))
    (h_y0d : PySem.W.hasDictIn K C0 = true)
    (h_y1b : PySem.W.subIn K (.ref C1) (.type "BaseException") = some true)
    (h_y1t : PySem.W.typeIn K (.ref C1) = some (.type "type"))
    (h_y1d : PySem.W.hasDictIn K C1 = true)
    (h_y2b : PySem.W.subIn K (.ref C2) (.type "BaseException") = some true)
    (h_y2t : PySem.W.typeIn K (.ref C2) = some (.type "type"))
    (h_y2d : PySem.W.hasDictIn K C2 = true)
    (h_z10 : PySem.W.subIn K (.ref C1) (.ref C0) = some true)
    (h_z11 : PySem.W.subIn K (.ref C1) (.ref C1) = some true)
    (h_z12 : PySem.W.subIn K (.ref C1) (.ref C2) = some false)
    (h_z20 : PySem.W.subIn K (.ref C2) (.ref C0) = some false)
    (h_z21 : PySem.W.subIn K (.ref C2) (.ref C1) = some false)
    (h_z22 : PySem.W.subIn K (.ref C2) (.ref C2) = some true)
    (h_ne20 : (Value.ref C2 == Value.ref C0) = false)
    (h_ne21 : (Value.ref C2 == Value.ref C1) = false)
    (h_ne12 : (Value.ref C1 == Value.ref C2) = false)
    (h_zb1 : PySem.W.kitOne K (.ref C1) (.type "ValueError") = some false)
    (h_zb2 : PySem.W.kitOne K (.ref C2) (.type "ValueError") = some true)
    (h_oc1 : PySem.W.specialIn K (.builtin "object.__class__") "__get__" = some (some (.builtin "getset_descriptor.__get__")))
    (h_oc2 : PySem.W.takesIn K (.builtin "object.__class__") = some true)
    (h_gL : PySem.W.nsIn K mainGlobals "LETTERS" = some (some (.ref aL)))
    (h_gP : PySem.W.nsIn K mainGlobals "PAIRS" = some (some (.ref aP)))
    (h_gN : PySem.W.nsIn K mainGlobals "LENGTH" = some (some (.int 4 tk0)))
    (h_lL : K.lookup aL = some ⟨.type "tuple", none, .seq [Value.str "T" ta, Value.str "L" tb].toArray nL, slL⟩)
    (h_lP : K.lookup aP = some ⟨.type "tuple", none, .seq [Value.str "TT" tc, Value.str "TL" td, Value.str "LT" te, Value.str "LL" tf].toArray nP, slP⟩)
    (h_n0 : PySem.W.nsIn K mainGlobals "len" = some none)
    (h_n1 : PySem.W.nsIn K mainGlobals "all" = some none)
    (h_n2 : PySem.W.nsIn K mainGlobals "max" = some none)
    (h_n3 : PySem.W.nsIn K mainGlobals "int" = some none)
    (h_n4 : PySem.W.nsIn K mainGlobals "repr" = some none)
    (h_n5 : PySem.W.nsIn K mainGlobals "set" = some none)
    (h_n6 : PySem.W.nsIn K mainGlobals "isinstance" = some none)
    (h_n7 : PySem.W.nsIn K mainGlobals "range" = some none)
    (h_n8 : PySem.W.nsIn K mainGlobals "enumerate" = some none)
    (h_n9 : PySem.W.nsIn K mainGlobals "str" = some none)
    (h_n10 : PySem.W.nsIn K mainGlobals "bool" = some none)
    (h_n11 : PySem.W.nsIn K mainGlobals "list" = some none)
    (h_n12 : PySem.W.nsIn K mainGlobals "tuple" = some none)
    (h_n13 : PySem.W.nsIn K mainGlobals "ValueError" = some none) :
    ∃ (fd : FuncData) (G : Stat), G.K = K ∧ PreOk G h0 ∧ (∀ (s : Shared) (u : Value), BindsTo s fd ⟨[u], []⟩ [("_law_script", u)]) ∧ ∀ base : Heap, K.In base → base.Ns mainGlobals mg → FnG l.prog w K mg base (2 * 8) fa fd ["_law_script"] (spI (dk G Γ0 nm0 T 0 8) 26) := by
  have e := hfa.symm.trans (PySem.W.mg_of X Gn h_g26)
  have ea : a26 = fa := (Value.ref.inj (Option.some.inj e)).symm
  subst ea
  let cls : Nat → Addr := fun C => match C with | 0 => C0 | 1 => C1 | 2 => C2 | 3 => C3 | _ => 0
  let adr : Nat → Addr := fun f => match f with | 3 => a3 | 4 => a4 | 5 => a5 | 6 => a6 | 7 => a7 | 8 => a8 | 9 => a9 | 10 => a10 | 16 => a16 | 19 => a19 | 20 => a20 | 21 => a21 | 22 => a22 | 23 => a23 | 24 => a24 | 25 => a25 | 26 => a26 | _ => 0
  have cl3 : Cls K C3 := ⟨h_S1, h_S2, h_S3, h_S4⟩
  have cr3 : ClX.CRead K C3 mc := ⟨h_S6, h_S7⟩
  have F3 := fun_mk (st := s3) h_l3 h_c3 h_k3
  have F4 := fun_mk (st := s4) h_l4 h_c4 h_k4
  have F5 := fun_mk (st := s5) h_l5 h_c5 h_k5
  have F6 := fun_mk (st := s6) h_l6 h_c6 h_k6
  have F7 := fun_mk (st := s7) h_l7 h_c7 h_k7
  have F8 := fun_mk (st := s8) h_l8 h_c8 h_k8
  have F9 := fun_mk (st := s9) h_l9 h_c9 h_k9
  have F10 := fun_mk (st := s10) h_l10 h_c10 h_k10
  have F16 := fun_mk (st := s16) h_l16 h_c16 h_k16
  have F19 := fun_mk (st := s19) h_l19 h_c19 h_k19
  have F20 := fun_mk (st := s20) h_l20 h_c20 h_k20
  have F21 := fun_mk (st := s21) h_l21 h_c21 h_k21
  have F22 := fun_mk (st := s22) h_l22 h_c22 h_k22
  have F23 := fun_mk (st := s23) h_l23 h_c23 h_k23
  have F24 := fun_mk (st := s24) h_l24 h_c24 h_k24
  have F25 := fun_mk (st := s25) h_l25 h_c25 h_k25
  have F26 := fun_mk (st := s26) h_l26 h_c26 h_k26
  have B3 := F3.binds (ps := p3) fun _ _ _ _ _ _ us hl => match us, hl with | [_], _ => rfl
  have B4 := F4.binds (ps := p4) fun _ _ _ _ _ _ us hl => match us, hl with | [_, _, _], _ => rfl
  have B5 := F5.binds (ps := p5) fun _ _ _ _ _ _ us hl => match us, hl with | [_], _ => rfl
  have B6 := F6.binds (ps := p6) fun _ _ _ _ _ _ us hl => match us, hl with | [_], _ => rfl
  have B7 := F7.binds (ps := p7) fun _ _ _ _ _ _ us hl => match us, hl with | [_, _], _ => rfl
  have B8 := F8.binds (ps := p8) fun _ _ _ _ _ _ us hl => match us, hl with | [_, _], _ => rfl
  have B9 := F9.binds (ps := p9) fun _ _ _ _ _ _ us hl => match us, hl with | [_], _ => rfl
  have B10 := F10.binds (ps := p10) fun _ _ _ _ _ _ us hl => match us, hl with | [_], _ => rfl
  have B16 := F16.binds (ps := p16) fun _ _ _ _ _ _ us hl => match us, hl with | [_, _, _], _ => rfl
  have B19 := F19.binds (ps := p19) fun _ _ _ _ _ _ us hl => match us, hl with | [_, _, _], _ => rfl
  have B20 := F20.binds (ps := p20) fun _ _ _ _ _ _ us hl => match us, hl with | [_], _ => rfl
  have B21 := F21.binds (ps := p21) fun _ _ _ _ _ _ us hl => match us, hl with | [_], _ => rfl
  have B22 := F22.binds (ps := p22) fun _ _ _ _ _ _ us hl => match us, hl with | [_], _ => rfl
  have B23 := F23.binds (ps := p23) fun _ _ _ _ _ _ us hl => match us, hl with | [_], _ => rfl
  have B24 := F24.binds (ps := p24) fun _ _ _ _ _ _ us hl => match us, hl with | [_, _, _], _ => rfl
  have B25 := F25.binds (ps := p25) fun _ _ _ _ _ _ us hl => match us, hl with | [_], _ => rfl
  have B26 := F26.binds (ps := p26) fun _ _ _ _ _ _ us hl => match us, hl with | [_], _ => rfl
  have X1 : XT K "InvalidStatement.__init__" C1 b1 := ⟨⟨_, _, _, _, _, _, _, _, _, _, _, _, _, _, _, _, _, _, _, F.excBase_Exception, h_x1, fun T => by first | rfl | exact refsT_has T _ rfl, by first | rfl | decide +kernel, fun self => by first | exact F.store_Exception.passes self | (rw [refuseLoop_ref]; exact F.store_Exception.passes self)⟩, h_x1sa, h_x1no, h_x1in, h_x1ty, h_x1kp, h_y1b, h_y1t, ⟨_, _, _, _, _, _, _, _, _, _, _, _, _, _, h_x1fn, h_x1cd⟩⟩
  have Z1 : ExcC K C1 := ⟨h_x1ga, h_x1gg, h_y1b, h_y1d, h_x1cl, h_oc1, h_oc2, h_x1mr⟩
  have X2 : XT K "InvalidNumber.__init__" C2 b2 := ⟨⟨_, _, _, _, _, _, _, _, _, _, _, _, _, _, _, _, _, _, _, F.excBase_ValueError, h_x2, fun T => by first | rfl | exact refsT_has T _ rfl, by first | rfl | decide +kernel, fun self => by first | exact F.store_ValueError.passes self | (rw [refuseLoop_ref]; exact F.store_ValueError.passes self)⟩, h_x2sa, h_x2no, h_x2in, h_x2ty, h_x2kp, h_y2b, h_y2t, ⟨_, _, _, _, _, _, _, _, _, _, _, _, _, _, h_x2fn, h_x2cd⟩⟩
  have Z2 : ExcC K C2 := ⟨h_x2ga, h_x2gg, h_y2b, h_y2d, h_x2cl, h_oc1, h_oc2, h_x2mr⟩
  have dyn : DynS K (GG K cls [aL, aP, C3]) Γ0 okf adr := {
    init := fun C f e => match C, e with | 3, e => by cases e; exact ⟨rfl, h_S8, h_m7, h_i7, h_S9⟩
    callm := fun C f e => match C, e with | 3, e => by cases e; exact ⟨rfl, cl3, h_m16, h_i16, h_j16⟩
    prop := fun C x f e => match C, x, e with | 3, 2, e => by cases e; exact ⟨rfl, r10, cl3, h_m10, h_pg10, h_pt10, _, h_pr10⟩
    meth := fun C x f e => by cases e
    isF := fun C x e => by
      obtain ⟨rfl, rfl⟩ := isF_inv e
      exact ⟨show (1 : Nat) < 5 by decide, cl3, h_S5⟩
    con := fun C x v e => by cases e
    cmeth := fun C x f c e e2 => by
      obtain ⟨rfl, rfl, rfl⟩ := cm_inv e
      cases e2
      exact ⟨rfl, rfl, mc, r8, cr3, h_m8, ⟨_, h_pr8⟩, h_j8⟩
    smeth := fun C x f e => by
      obtain ⟨rfl, rfl, rfl⟩ := sm_inv e
      exact ⟨rfl, mc, r9, rest9, cr3, h_m9, h_pr9, h_k9⟩ }
  have M : ∀ {x : Str} {u : Value}, PySem.W.nsIn K mainGlobals x = some (some u) → mg x = some u := fun h => PySem.W.mg_of X Gn h
  have M0 : ∀ {x : Str}, PySem.W.nsIn K mainGlobals x = some none → mg x = none := fun h => PySem.W.mg_none_of X Gn h
  have sf : SF K mg (GG K cls [aL, aP, C3]) Γ0 LL adr okf := {
    eK := rfl
    cf := by
      simp only [LL, List.forall_mem_cons]
      exact ⟨⟨M h_g3, h_k3, rfl⟩, ⟨M h_g4, h_k4, rfl⟩, ⟨M h_g5, h_k5, rfl⟩, ⟨M h_g6, h_k6, rfl⟩, ⟨M h_g19, h_k19, rfl⟩, ⟨M h_g20, h_k20, rfl⟩, ⟨M h_g21, h_k21, rfl⟩, ⟨M h_g22, h_k22, rfl⟩, ⟨M h_g23, h_k23, rfl⟩, ⟨M h_g24, h_k24, rfl⟩, ⟨M h_g25, h_k25, rfl⟩, ⟨M h_g26, h_k26, rfl⟩, fun _ h => absurd h (by simp)⟩
    kf := by
      simp only [LL, List.forall_mem_cons]
      exact ⟨⟨M h_gC0, h_R1⟩, ⟨M h_gC1, h_x1kp⟩, ⟨M h_gC2, h_x2kp⟩, ⟨M h_gC3, h_S9⟩, fun _ h => absurd h (by simp)⟩
    kI := fun C f e => match C, e with | 3, _ => h_S9
    gf := by
      simp only [LL, List.forall_mem_cons]
      exact ⟨⟨.ref 0, .ref aL, _, rfl, M h_gL, rfl, ⟨aL, rfl, rfl⟩⟩, ⟨.ref 1, .ref aP, _, rfl, M h_gP, rfl, ⟨aP, rfl, rfl⟩⟩, ⟨.int 4, .int 4, _, rfl, M h_gN, ⟨_, rfl⟩, rfl⟩, fun _ h => absurd h (by simp)⟩
    bf := by
      simp only [LL, List.forall_mem_cons]
      exact ⟨M0 h_n0, M0 h_n1, M0 h_n2, M0 h_n3, M0 h_n4, M0 h_n5, M0 h_n6, M0 h_n7, M0 h_n8, M0 h_n9, M0 h_n10, M0 h_n11, M0 h_n12, M0 h_n13, fun _ h => absurd h (by simp)⟩
    xt := fun C f e => match C, e with
      | 1, e => by cases e; exact ⟨show (0 : Nat) < 5 by decide, rfl, Z1, _, _, X1⟩
      | 2, e => by cases e; exact ⟨show (0 : Nat) < 5 by decide, rfl, Z2, _, _, X2⟩
    xm := by
      simp only [LL, List.forall_mem_cons]
      refine ⟨fun C f e => ?_, fun C f e => ?_, fun C f e => ?_, fun C f e => .inr (by simp [Γ0]), fun _ h => absurd h (by simp)⟩
      · exact match C, e with
        | 1, _ => .inl (exm_of' h_y0b h_y0d h_y0t h_z10)
        | 2, _ => .inl (exm_of' h_y0b h_y0d h_y0t h_z20)
      · exact match C, e with
        | 1, _ => .inl (exm_of' h_y1b h_y1d h_y1t h_z11)
        | 2, _ => .inl (exm_of' h_y1b h_y1d h_y1t h_z21)
      · exact match C, e with
        | 1, _ => .inl (exm_of' h_y2b h_y2d h_y2t h_z12)
        | 2, _ => .inl (exm_of' h_y2b h_y2d h_y2t h_z22)
    xk := by
      have nq : ∀ {a b : Addr}, (Value.ref a == Value.ref b) = false → (Value.ref a == Value.ref b) = true → false = true := fun {a b} h z => h.symm.trans z
      simp only [LL, List.forall_mem_cons]
      refine ⟨fun C f e => ?_, fun C f e => ?_, fun C f e => ?_, fun C f e => .inr (by simp [Γ0]), fun _ h => absurd h (by simp)⟩
      · exact match C, e with
        | 1, _ => .inl (kit_ref h_y0d h_y0t h_z10 fun _ => rfl)
        | 2, _ => .inl (kit_ref h_y0d h_y0t h_z20 (nq h_ne20))
      · exact match C, e with
        | 1, _ => .inl (kit_ref h_y1d h_y1t h_z11 fun _ => rfl)
        | 2, _ => .inl (kit_ref h_y1d h_y1t h_z21 (nq h_ne21))
      · exact match C, e with
        | 1, _ => .inl (kit_ref h_y2d h_y2t h_z12 (nq h_ne12))
        | 2, _ => .inl (kit_ref h_y2d h_y2t h_z22 fun _ => rfl)
    xb := by
      simp only [LL, List.forall_mem_cons]
      refine ⟨fun C f e => ?_, fun _ h => absurd h (by simp)⟩
      exact match C, e with
        | 1, _ => h_zb1
        | 2, _ => h_zb2 }
  have pre : PreOk (GG K cls [aL, aP, C3]) h0 := by
    refine ⟨rfl, rfl, fun a o b e1 e2 => ?_⟩
    match a, e1, e2 with
    | 0, e1, e2 =>
      cases e1
      cases e2
      refine ⟨rfl, fun μ H _ => ?_⟩
      exact tup_pre (xs := [.str "T", .str "L"]) (its := [Value.str "T" ta, Value.str "L" tb]) h_lL (by rw [sizeLine_eq]; show (2 : Nat) ≤ 16777216; decide) (.cons ⟨_, rfl⟩ (.cons ⟨_, rfl⟩ .nil)) (fun μ => .cons rfl (.cons rfl .nil)) μ H
    | 1, e1, e2 =>
      cases e1
      cases e2
      refine ⟨rfl, fun μ H _ => ?_⟩
      exact tup_pre (xs := [.str "TT", .str "TL", .str "LT", .str "LL"]) (its := [Value.str "TT" tc, Value.str "TL" td, Value.str "LT" te, Value.str "LL" tf]) h_lP (by rw [sizeLine_eq]; show (4 : Nat) ≤ 16777216; decide) (.cons ⟨_, rfl⟩ (.cons ⟨_, rfl⟩ (.cons ⟨_, rfl⟩ (.cons ⟨_, rfl⟩ .nil)))) (fun μ => .cons rfl (.cons rfl (.cons rfl (.cons rfl .nil)))) μ H
    | 2, e1, e2 =>
      cases e1
      cases e2
      exact ⟨rfl, fun μ H _ => rfl⟩
    | (n + 3), e1, _ => cases e1
  refine ⟨PySem.W.fnOf "law" "law" (defArgs s26) (defBody s26) (defScope s26) .none kV26 dc26 pm26 an26 cd26 ct26, GG K cls [aL, aP, C3], rfl, pre, fun s v => .of_eq rfl, fun base _ _ => ?_⟩
  have tab : ∀ f, okf f = true → DefT l.prog w K mg base (GG K cls [aL, aP, C3]) Γ0 nm0 T okf adr 0 f := by
    intro f hf
    have hf' : f ∈ [3, 4, 5, 6, 7, 8, 9, 10, 16, 19, 20, 21, 22, 23, 24, 25, 26] := by simpa [okf] using hf
    simp only [List.mem_cons, List.not_mem_nil, or_false] at hf'
    rcases hf' with rfl | rfl | rfl | rfl | rfl | rfl | rfl | rfl | rfl | rfl | rfl | rfl | rfl | rfl | rfl | rfl | rfl
    · exact ⟨f3, n3, p3, _, _, s3, _, rfl, F3, sc3, B3, rfl, rfl, fun k cdv A outer s H E tb dy hg hr => b3 (sf.ez sc3 tb dy hg hr)⟩
    · exact ⟨f4, n4, p4, _, _, s4, _, rfl, F4, sc4, B4, rfl, rfl, fun k cdv A outer s H E tb dy hg hr => b4 (sf.ez sc4 tb dy hg hr)⟩
    · exact ⟨f5, n5, p5, _, _, s5, _, rfl, F5, sc5, B5, rfl, rfl, fun k cdv A outer s H E tb dy hg hr => b5 (sf.ez sc5 tb dy hg hr)⟩
    · exact ⟨f6, n6, p6, _, _, s6, _, rfl, F6, sc6, B6, rfl, rfl, fun k cdv A outer s H E tb dy hg hr => b6 (sf.ez sc6 tb dy hg hr)⟩
    · exact ⟨f7, n7, p7, _, _, s7, _, rfl, F7, sc7, B7, rfl, rfl, fun k cdv A outer s H E tb dy hg hr => b7 (sf.ez sc7 tb dy hg hr)⟩
    · exact ⟨f8, n8, p8, _, _, s8, _, rfl, F8, sc8, B8, rfl, rfl, fun k cdv A outer s H E tb dy hg hr => b8 (sf.ez sc8 tb dy hg hr)⟩
    · exact ⟨f9, n9, p9, _, _, s9, _, rfl, F9, sc9, B9, rfl, rfl, fun k cdv A outer s H E tb dy hg hr => b9 (sf.ez sc9 tb dy hg hr)⟩
    · exact ⟨f10, n10, p10, _, _, s10, _, rfl, F10, sc10, B10, rfl, rfl, fun k cdv A outer s H E tb dy hg hr => b10 (sf.ez sc10 tb dy hg hr)⟩
    · exact ⟨f16, n16, p16, _, _, s16, _, rfl, F16, sc16, B16, rfl, rfl, fun k cdv A outer s H E tb dy hg hr => b16 (sf.ez sc16 tb dy hg hr)⟩
    · exact ⟨f19, n19, p19, _, _, s19, _, rfl, F19, sc19, B19, rfl, rfl, fun k cdv A outer s H E tb dy hg hr => b19 (sf.ez sc19 tb dy hg hr)⟩
    · exact ⟨f20, n20, p20, _, _, s20, _, rfl, F20, sc20, B20, rfl, rfl, fun k cdv A outer s H E tb dy hg hr => b20 (sf.ez sc20 tb dy hg hr)⟩
    · exact ⟨f21, n21, p21, _, _, s21, _, rfl, F21, sc21, B21, rfl, rfl, fun k cdv A outer s H E tb dy hg hr => b21 (sf.ez sc21 tb dy hg hr)⟩
    · exact ⟨f22, n22, p22, _, _, s22, _, rfl, F22, sc22, B22, rfl, rfl, fun k cdv A outer s H E tb dy hg hr => b22 (sf.ez sc22 tb dy hg hr)⟩
    · exact ⟨f23, n23, p23, _, _, s23, _, rfl, F23, sc23, B23, rfl, rfl, fun k cdv A outer s H E tb dy hg hr => b23 (sf.ez sc23 tb dy hg hr)⟩
    · exact ⟨f24, n24, p24, _, _, s24, _, rfl, F24, sc24, B24, rfl, rfl, fun k cdv A outer s H E tb dy hg hr => b24 (sf.ez sc24 tb dy hg hr)⟩
    · exact ⟨f25, n25, p25, _, _, s25, _, rfl, F25, sc25, B25, rfl, rfl, fun k cdv A outer s H E tb dy hg hr => b25 (sf.ez sc25 tb dy hg hr)⟩
    · exact ⟨f26, n26, p26, _, _, s26, _, rfl, F26, sc26, B26, rfl, rfl, fun k cdv A outer s H E tb dy hg hr => b26 (sf.ez sc26 tb dy hg hr)⟩
  exact step_FK (k := 7) (f := 26) (d := f26) dyn (all_FK dyn tab 7) rfl F26 sc26 rfl rfl (fun k cdv A outer s H E tb dy hg hr => b26 (sf.ez sc26 tb dy hg hr))
end K02
end
section
set_option Elab.async false
set_option linter.all false
set_option maxRecDepth 20000
set_option maxHeartbeats 1000000
namespace K02
open PySem MP
open L2 (V St Hp)
abbrev Cn (k f : Nat) (vs : List V) (h : IH) : EV V := callN (gof Γ0) T 0 k f vs h
theorem cn_eq {k f : Nat} {vs : List V} {h : IH} {d : FD} (e : T f = some d) (hl : vs.length = d.np) : Cn (k + 1) f vs h = retOf (evB (gof Γ0 (Cn k)) 0 none d.body (vs.map some ++ List.replicate (d.ns - d.np) none) h) := by
  show callN (gof Γ0) T 0 (k + 1) f vs h = _
  unfold callN
  rw [e]
  simp only
  rw [if_pos hl]
theorem gl0 : Γ0.glob 0 = some (.ref 0) := rfl
theorem gl1 : Γ0.glob 1 = some (.ref 1) := rfl
theorem gl2 : Γ0.glob 2 = some (.int 4) := rfl
def in01 (c : Nat) : Bool := !(Builtin.Str.occurrences "01" ⟨#[c]⟩ 0 (PySem.Str.ofString "01").length 1).isEmpty
def okS (s : Str) : Bool := decide (s.length = 4) && s.cps.toList.all in01
theorem is_text_non {k : Nat} {v : V} {h : IH} {B : BT} (e : tyOf h v = some (.b B)) (hB : B ≠ .str) : Cn (k + 1) 6 [v] h = some (.val (.bl false) h) := by
  rw [cn_eq (d := f6) rfl rfl]
  have hb : (B == BT.str) = false := by cases B <;> first | rfl | exact absurd rfl hB
  simp [f6, evB, evS, e_var, e_glb, e_cst, e_lst, e_tup, e_bin, e_neg, e_cmp, e_cmp2, e_andE, e_orE, e_notE, e_ife, e_ix, e_sl, e_att, e_call, e_make, e_met, e_clm, e_callv, e_bi, e_bm, e_isI, e_isIs, e_curF, e_curI, e_curB, e_dct, e_lc, slotV, v1, v4, v7, v9, v16, MP.tyV, e, isTy, hb, hB, show (BT.str == BT.int) = false from rfl]
theorem boolsOf_map {α : Type} {f : α → Bool} : ∀ {l : List α}, boolsOf (l.map fun c => V.bl (f c)) = some (l.map f)
  | [] => rfl
  | c :: r => by simp [boolsOf, boolsOf_map (l := r)]
theorem is_text_str {k : Nat} {s : Str} {h : IH} (hs : s.length ≤ sizeLine) : ∃ g, Cn (k + 1) 6 [.str s] h = some (.val (.bl (okS s)) (h ++ g)) := by
  rw [cn_eq (d := f6) rfl rfl]
  have hs' : s.cps.size ≤ sizeLine := hs
  by_cases h4 : s.length = 4
  · refine ⟨[.lst (s.cps.toList.map fun c => V.bl (in01 c))], ?_⟩
    have hl : (s.cps.toList.map fun c => V.bl (in01 c)).length ≤ sizeLine := by simpa using hs'
    have lp : lcRun (gof Γ0 (Cn k)) [1] (.cmp .In (.var 1) (.cst (.str "01"))) (.nm 1) .none [some (.str s), none] ⟨s.cps.toList.map fun c => (V.str ⟨#[c]⟩, none), []⟩ h = some (.val (.ref h.length) (h ++ [.lst (s.cps.toList.map fun c => V.bl (in01 c))])) := by
      unfold lcRun
      rw [loopC_map (g := fun c => V.bl (in01 c)) rfl fun c hc => by simp [turnC, asgX, asgT, L2.wipe, evC, evE, slotV, v1, v3, v16, cmpop, in01]]
      simp only [v3, listV, hl, if_true, v17]
    simp [f6, evB, evS, e_var, e_glb, e_cst, e_lst, e_tup, e_bin, e_neg, e_cmp, e_cmp2, e_andE, e_orE, e_notE, e_ife, e_ix, e_sl, e_att, e_call, e_make, e_met, e_clm, e_callv, e_bi, e_bm, e_isI, e_isIs, e_curF, e_curI, e_curB, e_dct, e_lc, evA, evI, slotV, v1, v3, v4, v7, v9, v16, v17, MP.tyV, tyOf, isTy, bifn, lenOf, hs', hs, optV, gl2, z4, cmpop, eq_int, evV, itsOf, lp, listV, hl, lstOf, boolsOf_map, okS, h4]
  · refine ⟨[], ?_⟩
    simp [f6, evB, evS, e_var, e_glb, e_cst, e_lst, e_tup, e_bin, e_neg, e_cmp, e_cmp2, e_andE, e_orE, e_notE, e_ife, e_ix, e_sl, e_att, e_call, e_make, e_met, e_clm, e_callv, e_bi, e_bm, e_isI, e_isIs, e_curF, e_curI, e_curB, e_dct, e_lc, evA, slotV, v1, v4, v7, v9, v16, MP.tyV, tyOf, isTy, bifn, lenOf, hs, hs', optV, gl2, cmpop, eq_int, okS, h4, show ¬ ((s.length : Int) = 4) from by omega]
end K02
end
section
set_option Elab.async false
set_option linter.all false
set_option maxRecDepth 20000
set_option maxHeartbeats 1000000
namespace K02
open PySem MP
open L2 (V St Hp)
theorem prop10 {k p : Nat} {h : IH} {v : V} (e : h[p]? = some (.ins 3 [(1, v)])) : Cn (k + 1) 10 [.ref p] h = some (.val v h) := by
  rw [cn_eq (d := f10) rfl rfl]
  simp [f10, evB, evS, e_att, e_var, slotV, v1, v4, v7, v9, v16, v18, attV, e, lookF, show Γ0.isF 3 1 = true from rfl]
theorem app_get {h g : IH} {a : Nat} {o : MP.IO} (e : h[a]? = some o) : (h ++ g)[a]? = some o := by
  obtain ⟨h1, h2⟩ := List.getElem?_eq_some_iff.mp e
  rw [List.getElem?_append_left h1]
  exact e
theorem ty_app {h g : IH} {v : V} {T : Ty} (e : tyOf h v = some T) : tyOf (h ++ g) v = some T := by
  unfold tyOf at e ⊢
  split at e <;> try (first | exact e | (cases e; done))
  rename_i a
  cases ho : h[a]? with
  | none => rw [ho] at e; cases e
  | some o => rw [app_get ho]; rw [ho] at e; exact e
theorem z2 : (2 : Nat) ≤ sizeLine := by rw [sizeLine_eq]; decide
/-- what Statement(v) does: a text -/
theorem init_ok {k p : Nat} {h : IH} {s : Str} (hs : s.length ≤ sizeLine) (ok : okS s = true) (e : h[p]? = some (.ins 3 [])) : ∃ g, Cn (k + 2) 7 [.ref p, .str s] h = some (.val .non ((h ++ g).set p (.ins 3 [(1, .str s)]))) := by
  obtain ⟨g, e6⟩ := is_text_str (k := k) (s := s) (h := h) hs
  refine ⟨g, ?_⟩
  rw [cn_eq (d := f7) rfl rfl]
  have e2 : (h ++ g)[p]? = some (.ins 3 []) := app_get e
  simp [f7, evB, evS, e_notE, e_call, e_var, evA, slotV, v1, v4, v6, v7, v9, v10, v16, v18, e6, ok, notV, setA, e2, putI, show Γ0.isF 3 1 = true from rfl]
theorem init_no {k p : Nat} {h : IH} {v : V} (hv : (∃ s, v = .str s ∧ s.length ≤ sizeLine ∧ okS s = false) ∨ ∃ B, tyOf h v = some (.b B) ∧ B ≠ .str) : ∃ g, Cn (k + 2) 7 [.ref p, v] h = some (.exn 1 (h ++ g).length (h ++ g ++ [.xd 0 v])) := by
  have e6 : ∃ g, Cn (k + 1) 6 [v] h = some (.val (.bl false) (h ++ g)) := by
    rcases hv with ⟨s, rfl, hs, ok⟩ | ⟨B, e, hB⟩
    · obtain ⟨g, e6⟩ := is_text_str (k := k) (s := s) (h := h) hs
      rw [ok] at e6
      exact ⟨g, e6⟩
    · exact ⟨[], by rw [is_text_non e hB]; simp⟩
  obtain ⟨g, e6⟩ := e6
  refine ⟨g, ?_⟩
  rw [cn_eq (d := f7) rfl rfl]
  simp [f7, evB, evS, e_notE, e_call, e_var, evA, slotV, v1, v4, v6, v8, v11, v16, v18, e6, notV, raisV, show Γ0.exf 1 = some 0 from rfl]
/-- the result of a refused call, told as ['no', repr] -/
theorem made_ok {k : Nat} {h : IH} {s : Str} (hs : s.length ≤ sizeLine) (ok : okS s = true) : ∃ g, Cn (k + 3) 23 [.str s] h = some (.val (.str s) (h ++ g)) := by
  obtain ⟨g, e7⟩ := init_ok (k := k) (p := h.length) (h := h ++ [.ins 3 []]) hs ok (by simp)
  refine ⟨(.ins 3 [(1, .str s)]) :: g, ?_⟩
  rw [cn_eq (d := f23) rfl rfl]
  have e3 : (h ++ [MP.IO.ins 3 []] ++ g).set h.length (.ins 3 [(1, .str s)]) = h ++ .ins 3 [(1, .str s)] :: g := by
    simp [List.set_append]
  rw [e3] at e7
  have e4 : (h ++ MP.IO.ins 3 [(1, V.str s)] :: g)[h.length]? = some (.ins 3 [(1, .str s)]) := by simp
  have e10 := prop10 (k := k + 1) e4
  simp [f23, evB, evS, e_att, e_make, e_var, evA, slotV, v1, v3, v4, v7, v9, v13, v16, v18, makeV, show Γ0.init 3 = some 7 from rfl, e7, attV, e4, lookF, show Γ0.prop 3 2 = some 10 from rfl, e10]
theorem made_no {k : Nat} {h : IH} {v : V} {r : Str} (hr : ∀ g, bifn .repr [v] (h ++ g) = some (.val (.str r) (h ++ g))) (hv : (∃ s, v = .str s ∧ s.length ≤ sizeLine ∧ okS s = false) ∨ ∃ B, tyOf h v = some (.b B) ∧ B ≠ .str) :
    ∃ g p, Cn (k + 3) 23 [v] h = some (.val (.ref p) (h ++ g)) ∧ (h ++ g)[p]? = some (.lst [.str "no", .str r]) := by
  obtain ⟨g, e7⟩ := init_no (k := k) (p := h.length) (h := h ++ [.ins 3 []]) (v := v) (hv.imp id fun ⟨B, e, hB⟩ => ⟨B, ty_app e, hB⟩)
  refine ⟨.ins 3 [] :: (g ++ [.xd 0 v, .lst [.str "no", .str r]]), (h ++ MP.IO.ins 3 [] :: (g ++ [.xd 0 v])).length, ?_, ?_⟩
  · rw [cn_eq (d := f23) rfl rfl]
    have hr2 := hr (.ins 3 [] :: (g ++ [.xd 0 v]))
    have en : (h ++ [MP.IO.ins 3 []] ++ g).length = h.length + 1 + g.length := by simp; omega
    have e5 : (h ++ [MP.IO.ins 3 []] ++ g ++ [.xd 0 v])[h.length + 1 + g.length]? = some (.xd 0 v) := by
      rw [← en, List.getElem?_append_right (Nat.le_refl _)]
      simp
    have e6 : h ++ [MP.IO.ins 3 []] ++ g ++ [.xd 0 v] = h ++ MP.IO.ins 3 [] :: (g ++ [.xd 0 v]) := by simp
    rw [en, e6] at e7
    rw [e6] at e5
    simp [f23, evB, evS, e_att, e_make, e_var, evA, slotV, v1, v2, v4, v5, v7, v8, v9, v12, v14, v16, v18, v17, makeV, show Γ0.init 3 = some 7 from rfl, e7, evH, show Γ0.exf 1 = some 0 from rfl, show Γ0.sub 1 0 = true from rfl, show Γ0.sub 1 1 = true from rfl, show Γ0.subB 1 0 = false from rfl,
      e_andE, e_curI, e_notE, e_curB, curIV, e5, notV, e_lst, e_cst, e_bi, e_curF, curV, hr2, listV, z2]
  · simp
end K02
end
section
set_option Elab.async false
set_option linter.all false
set_option maxRecDepth 20000
set_option maxHeartbeats 1000000
namespace K02
open PySem MP
open L2 (V St Hp)
theorem istext9 {k : Nat} {v : V} {h : IH} {b : Bool} {g : IH} (e : Cn (k + 1) 6 [v] h = some (.val (.bl b) (h ++ g))) : Cn (k + 2) 9 [v] h = some (.val (.bl b) (h ++ g)) := by
  rw [cn_eq (d := f9) rfl rfl]
  simp [f9, evB, evS, e_call, e_var, evA, slotV, v1, v4, v7, v9, v16, e]
theorem law22_non {k : Nat} {v : V} {h : IH} {B : BT} (e : tyOf h v = some (.b B)) (hB : B ≠ .str) : Cn (k + 1) 22 [v] h = some (.val (.bl false) h) := by
  rw [cn_eq (d := f22) rfl rfl]
  have hb : (B == BT.str) = false := by cases B <;> first | rfl | exact absurd rfl hB
  simp [f22, evB, evS, e_orE, e_notE, e_isI, e_var, e_cst, slotV, v1, v4, v7, v9, v16, v18, notV, MP.tyV, e, isTy, hb, hB, show (BT.str == BT.int) = false from rfl]
theorem eq_nil0 {h : IH} {a b : Nat} (ea : h[a]? = some (.lst [])) (eb : h[b]? = some (.lst [])) : eqOp (.ref a) (.ref b) h = some true := by
  simp [eqOp, toD, ea, eb, dataL]
  decide +kernel
theorem ci_ne {a b : Int} {h : IH} : cmpop .NotEq (.int a) (.int b) h = some (.val (.bl (!decide (a = b))) h) := by simp only [cmpop, eq_int]
theorem eq_nil1 {h : IH} {a b : Nat} {cs : List Str} (ea : h[a]? = some (.lst (cs.map V.str))) (eb : h[b]? = some (.lst [])) (hc : ∀ c ∈ cs, PyData.canLay0 (.str c) = true) : eqOp (.ref a) (.ref b) h = some cs.isEmpty := by
  have t1 : toD h 40 (.ref a) = some (.list (cs.map PyData.str)) := toD_lstS (n := 38) ea fun n => dataL_strs cs
  have t2 : toD h 40 (.ref b) = some (.list []) := toD_lstS (n := 38) (cs := []) eb fun n => dataL_strs []
  unfold eqOp
  rw [t1, t2]
  simp only
  rw [if_pos (by rw [shaped_strs hc]; rfl)]
  cases cs with
  | nil => simp [PyData.eqv, PyData.eqvAll]
  | cons c r => simp [PyData.eqv, PyData.eqvAll]
/-- a short text of plain signs -/
def SOk (s : Str) : Prop := s.length ≤ 64 ∧ ∀ c ∈ s.cps.toList, c < 128
theorem SOk.sz {s : Str} (h : SOk s) : s.length ≤ sizeLine := Nat.le_trans h.1 (by rw [sizeLine_eq]; decide)
theorem lay1 {c : Nat} (h : c < 128) : PyData.canLay0 (.str ⟨#[c]⟩) = true := by
  simp [PyData.canLay0, PyData.strOk]
  omega
theorem law22_str {k : Nat} {s : Str} {h : IH} (so : SOk s) : ∃ g, Cn (k + 1) 22 [.str s] h = some (.val (.bl (okS s)) (h ++ g)) := by
  have hs := so.sz
  rw [cn_eq (d := f22) rfl rfl]
  have hs' : s.cps.size ≤ sizeLine := hs
  by_cases h4 : s.length = 4
  · have hl : ((s.cps.toList.filter fun c => !in01 c).map fun c => V.str ⟨#[c]⟩).length ≤ sizeLine := by
      rw [List.length_map]
      exact Nat.le_trans (List.length_filter_le _ _) (by simpa using hs')
    have lp : lcRun (gof Γ0 (Cn k)) [1] (.var 1) (.nm 1) (.some (.cmp .NotIn (.var 1) (.cst (.str "01")))) [some (.str s), none] ⟨s.cps.toList.map fun c => (V.str ⟨#[c]⟩, none), []⟩ h = some (.val (.ref h.length) (h ++ [.lst ((s.cps.toList.filter fun c => !in01 c).map fun c => V.str ⟨#[c]⟩)])) := by
      unfold lcRun
      rw [loopC_filter (p := fun c => !in01 c) (g := fun c => V.str ⟨#[c]⟩) rfl fun c hc => by
        have hI : (Builtin.Str.occurrences (PySem.Str.ofString "01") ⟨#[c]⟩ 0 (PySem.Str.ofString "01").length 1).isEmpty = !(in01 c) := by simp [in01]
        cases hi : in01 c <;> simp [turnC, asgX, asgT, L2.wipe, evC, e_cmp, e_var, e_cst, slotV, v1, v3, v16, v18, cmpop, hI, hi]]
      simp only [v3, listV, hl, if_true, v17]
    have ea : (h ++ [MP.IO.lst ((s.cps.toList.filter fun c => !in01 c).map fun c => V.str ⟨#[c]⟩), .lst []])[h.length]? = some (.lst (((s.cps.toList.filter fun c => !in01 c).map fun c => (⟨#[c]⟩ : Str)).map V.str)) := by simp
    have eb : (h ++ [MP.IO.lst ((s.cps.toList.filter fun c => !in01 c).map fun c => V.str ⟨#[c]⟩), .lst []])[h.length + 1]? = some (.lst []) := by
      rw [List.getElem?_append_right (Nat.le_succ _)]
      simp
    have eq := eq_nil1 ea eb fun c hc => by
      obtain ⟨d, hd, rfl⟩ := List.mem_map.mp hc
      exact lay1 (so.2 d (List.mem_filter.mp hd).1)
    have ek : ((s.cps.toList.filter fun c => !in01 c).map fun c => (⟨#[c]⟩ : Str)).isEmpty = okS s := by
      unfold okS
      rw [decide_eq_true h4, Bool.true_and, List.isEmpty_map]
      cases ha : s.cps.toList.all in01 with
      | true =>
        rw [List.all_eq_true] at ha
        rw [List.isEmpty_iff, List.filter_eq_nil_iff]
        intro c hc
        rw [ha c hc]
        simp
      | false =>
        rw [List.all_eq_false] at ha
        obtain ⟨c, hc, hi⟩ := ha
        rw [List.isEmpty_eq_false_iff]
        intro e
        have := List.filter_eq_nil_iff.mp e c hc
        simp at this
        exact hi this
    rw [ek] at eq
    refine ⟨[.lst ((s.cps.toList.filter fun c => !in01 c).map fun c => V.str ⟨#[c]⟩), .lst []], ?_⟩
    have eqq : cmpop .Eq (.ref h.length) (.ref (h.length + 1)) (h ++ [MP.IO.lst ((s.cps.toList.filter fun c => !in01 c).map fun c => V.str ⟨#[c]⟩), .lst []]) = some (.val (.bl (okS s)) (h ++ [MP.IO.lst ((s.cps.toList.filter fun c => !in01 c).map fun c => V.str ⟨#[c]⟩), .lst []])) := by
      simp only [cmpop, eq]
    simp [f22, evB, evS, e_orE, e_notE, e_isI, e_bi, e_var, e_cst, e_lst, e_lc, evA, evI, evV, itsOf, lp, slotV, v1, v4, v6, v7, v9, v16, v17, v18, notV, MP.tyV, tyOf, isTy, bifn, lenOf, hs, hs', z4, listV, h4, e_cmp, eqq, ci_ne]

  · refine ⟨[], ?_⟩
    simp [f22, evB, evS, e_orE, e_notE, e_isI, e_cmp, e_bi, e_var, e_cst, evA, slotV, v1, v4, v7, v9, v16, v18, notV, MP.tyV, tyOf, isTy, bifn, lenOf, hs, hs', cmpop, eq_int, okS, h4, show ¬ ((s.length : Int) = 4) from by omega]
/-- a value that is no letter -/
def NoLet (h : IH) (v : V) : Prop := (∃ s, v = .str s ∧ s ≠ "T" ∧ s ≠ "L") ∨ ∃ B, tyOf h v = some (.b B) ∧ B ≠ .str
end K02
end
section
set_option Elab.async false
set_option linter.all false
set_option maxRecDepth 20000
set_option maxHeartbeats 1000000
namespace K02
open PySem MP
open L2 (V St Hp)
theorem notin_ok {h : IH} {s : Str} (e0 : h[0]? = some (.tup [.str "T", .str "L"] true)) (h1 : s ≠ "T") (h2 : s ≠ "L") : cmpop .NotIn (.str s) (.ref 0) h = some (.val (.bl true) h) := by
  have e1 : seqOf h (.ref 0) = some [.str "T", .str "L"] := by simp [seqOf, e0]
  have e2 : L2.inV (.str s) [.str "T", .str "L"] = false := by simp [L2.inV, L2.eqV, h1, h2, Ne.symm h1, Ne.symm h2]
  simp [cmpop, e1, e2, L2.flatV]
theorem in_L {h : IH} (e0 : h[0]? = some (.tup [.str "T", .str "L"] true)) : cmpop .NotIn (.str "L") (.ref 0) h = some (.val (.bl false) h) := by
  have e1 : seqOf h (.ref 0) = some [.str "T", .str "L"] := by simp [seqOf, e0]
  have e2 : L2.inV (.str "L") [.str "T", .str "L"] = true := by decide +kernel
  simp [cmpop, e1, e2, L2.flatV]
theorem call16_l {k p : Nat} {h : IH} {l r : V} (e0 : h[0]? = some (.tup [.str "T", .str "L"] true)) (hl : NoLet h l) : Cn (k + 1) 16 [.ref p, l, r] h = some (.exn 1 (h.length + 1) (h ++ [.tup [l, r], .xd 0 l])) := by
  rw [cn_eq (d := f16) rfl rfl]
  have e0' : ∀ g : IH, (h ++ g)[0]? = some (.tup [.str "T", .str "L"] true) := fun g => app_get e0
  rcases hl with ⟨s, rfl, h1, h2⟩ | ⟨B, e, hB⟩
  · have n1 := notin_ok (s := s) (e0' [.tup [.str s, r]]) h1 h2
    simp [f16, evB, evS, evI, evV, itsOf, e_tup, evA, e_var, slotV, v1, v4, v5, v6, v8, v11, v16, v17, v18, tupV, z2, loopF, okG, asgX, asgT, e_orE, e_notE, e_isI, e_cmp, e_glb, optV, gl0, MP.tyV, tyOf, isTy, notV, n1, raisV, show Γ0.exf 1 = some 0 from rfl]
  · have hb : (B == BT.str) = false := by cases B <;> first | rfl | exact absurd rfl hB
    have e' := ty_app (g := [.tup [l, r]]) e
    simp [f16, evB, evS, evI, evV, itsOf, e_tup, evA, e_var, slotV, v1, v4, v5, v6, v8, v11, v16, v17, v18, tupV, z2, loopF, okG, asgX, asgT, e_orE, e_notE, e_isI, e_cmp, e_glb, optV, gl0, MP.tyV, e', isTy, hb, hB, show (BT.str == BT.int) = false from rfl, notV, raisV, show Γ0.exf 1 = some 0 from rfl]
theorem call16_r {k p : Nat} {h : IH} {r : V} (e0 : h[0]? = some (.tup [.str "T", .str "L"] true)) (hl : NoLet h r) : Cn (k + 1) 16 [.ref p, .str "L", r] h = some (.exn 1 (h.length + 1) (h ++ [.tup [.str "L", r], .xd 0 r])) := by
  rw [cn_eq (d := f16) rfl rfl]
  have e0' : ∀ g : IH, (h ++ g)[0]? = some (.tup [.str "T", .str "L"] true) := fun g => app_get e0
  have nL := in_L (e0' [.tup [.str "L", r]])
  rcases hl with ⟨s, rfl, h1, h2⟩ | ⟨B, e, hB⟩
  · have n1 := notin_ok (s := s) (e0' [.tup [.str "L", .str s]]) h1 h2
    simp [f16, evB, evS, evI, evV, itsOf, e_tup, evA, e_var, slotV, v1, v4, v5, v6, v8, v11, v16, v17, v18, tupV, z2, loopF, okG, asgX, asgT, e_orE, e_notE, e_isI, e_cmp, e_glb, optV, gl0, MP.tyV, tyOf, isTy, notV, n1, nL, raisV, show Γ0.exf 1 = some 0 from rfl]
  · have hb : (B == BT.str) = false := by cases B <;> first | rfl | exact absurd rfl hB
    have e' := ty_app (g := [.tup [.str "L", r]]) e
    simp [f16, evB, evS, evI, evV, itsOf, e_tup, evA, e_var, slotV, v1, v4, v5, v6, v8, v11, v16, v17, v18, tupV, z2, loopF, okG, asgX, asgT, e_orE, e_notE, e_isI, e_cmp, e_glb, optV, gl0, MP.tyV, e', isTy, hb, hB, show (BT.str == BT.int) = false from rfl, notV, nL, raisV, show tyOf (h ++ [MP.IO.tup [V.str (PySem.Str.ofString "L"), r]]) (.str (PySem.Str.ofString "L")) = some (.b .str) from rfl, show Γ0.exf 1 = some 0 from rfl]
theorem called_ok {k p n : Nat} {h g : IH} {l r v : V} {rp : Str} {fs : List (Nat × V)} (ep : h[p]? = some (.ins 3 fs)) (e16 : Cn (k + 1) 16 [.ref p, l, r] h = some (.exn 1 n (h ++ g))) (ex : (h ++ g)[n]? = some (.xd 0 v)) (hr : bifn .repr [v] (h ++ g) = some (.val (.str rp) (h ++ g))) :
    Cn (k + 2) 24 [.ref p, l, r] h = some (.val (.ref (h ++ g).length) (h ++ g ++ [.lst [.str "no", .str rp]])) := by
  rw [cn_eq (d := f24) rfl rfl]
  simp [f24, evB, evS, e_callv, evA, e_var, slotV, v1, v2, v4, v5, v7, v8, v9, v12, v14, v16, v17, calV, runCal, ep, show Γ0.callm 3 = some 16 from rfl, e16, evH, show Γ0.exf 1 = some 0 from rfl, show Γ0.sub 1 1 = true from rfl, e_lst, e_cst, e_bi, e_curF, curV, ex, hr, listV, z2]
end K02
end
section
set_option Elab.async false
set_option linter.all false
set_option maxRecDepth 20000
set_option maxHeartbeats 1000000
namespace K02
open PySem MP
open L2 (V St Hp)
/-- what the law's odd values are, in a heap -/
structure OV (h : IH) (v : V) : Prop where
  kind : (∃ s, v = .str s ∧ SOk s ∧ s ≠ "T" ∧ s ≠ "L") ∨ ∃ B, tyOf h v = some (.b B) ∧ B ≠ .str
  rp : ∃ r : Str, PyData.canLay0 (.str r) = true ∧ ∀ g, bifn .repr [v] (h ++ g) = some (.val (.str r) (h ++ g))
theorem OV.app {h g : IH} {v : V} (o : OV h v) : OV (h ++ g) v :=
  ⟨o.kind.imp id fun ⟨B, e, hB⟩ => ⟨B, ty_app e, hB⟩, let ⟨r, h1, h2⟩ := o.rp; ⟨r, h1, fun g' => by rw [List.append_assoc]; exact h2 _⟩⟩
theorem repr_of {h : IH} {v : V} {d : PyData} (e : toD h 40 v = some d) (c : (PyData.showable d && !PyData.hasDict d && decide (d.shown.length + 64 ≤ sizeLine) && decide (d.depth ≤ 60)) = true) : bifn .repr [v] h = some (.val (.str d.shown) h) := by
  unfold bifn
  simp only [e]
  rw [if_pos c]
theorem sz_le {n : Nat} (h : n ≤ 16777216) : n ≤ sizeLine := by rw [sizeLine_eq]; exact h
theorem ov_str {h : IH} {s : Str} (h1 : SOk s) (h2 : s ≠ "T") (h3 : s ≠ "L") (h4 : PyData.canLay0 (.str (PyData.str s).shown) = true) (h5 : (PyData.str s).shown.length + 64 ≤ 16777216) : OV h (.str s) :=
  ⟨.inl ⟨s, rfl, h1, h2, h3⟩, _, h4, fun g => repr_of (by simp [toD]) (by
    simp only [Bool.and_eq_true, decide_eq_true_eq, Bool.not_eq_true']
    exact ⟨⟨⟨by simp [PyData.showable], by simp [PyData.hasDict]⟩, sz_le h5⟩, by simp [PyData.depth]⟩)⟩
theorem sok_of {s : Str} (h : (decide (s.length ≤ 64) && s.cps.toList.all fun c => decide (c < 128)) = true) : SOk s := by
  rw [Bool.and_eq_true, List.all_eq_true] at h
  exact ⟨of_decide_eq_true h.1, fun c hc => of_decide_eq_true (h.2 c hc)⟩
theorem ov_flat {h : IH} {v : V} {d : PyData} {B : BT} (ht : ∀ h : IH, tyOf h v = some (.b B)) (hB : B ≠ .str) (hd : ∀ h : IH, toD h 40 v = some d) (h4 : PyData.canLay0 (.str d.shown) = true) (c : (PyData.showable d && !PyData.hasDict d && decide (d.shown.length + 64 ≤ 16777216) && decide (d.depth ≤ 60)) = true) : OV h v :=
  ⟨.inr ⟨B, ht h, hB⟩, _, h4, fun g => repr_of (hd _) (by rw [← sizeLine_eq] at c; exact c)⟩
theorem ov_lst {h : IH} {a : Nat} {cs : List Str} (e : h[a]? = some (.lst (cs.map V.str))) (h4 : PyData.canLay0 (.str (PyData.list (cs.map .str)).shown) = true) (c : (PyData.showable (.list (cs.map .str)) && !PyData.hasDict (.list (cs.map .str)) && decide ((PyData.list (cs.map .str)).shown.length + 64 ≤ 16777216) && decide ((PyData.list (cs.map .str)).depth ≤ 60)) = true) : OV h (.ref a) :=
  ⟨.inr ⟨.list, by simp [tyOf, e], by decide⟩, _, h4, fun g => repr_of (toD_lstS (n := 38) (app_get e) fun n => dataL_strs cs) (by rw [← sizeLine_eq] at c; exact c)⟩
theorem toD_tup {h : IH} {n a : Nat} {xs : List V} {k : Bool} (e : h[a]? = some (.tup xs k)) : toD h (n + 1) (.ref a) = (dataL (toD h n) xs).map .tuple := by
  unfold toD
  simp only [e]
theorem ov_tup {h : IH} {a : Nat} {cs : List Str} {k : Bool} (e : h[a]? = some (.tup (cs.map V.str) k)) (h4 : PyData.canLay0 (.str (PyData.tuple (cs.map .str)).shown) = true) (c : (PyData.showable (.tuple (cs.map .str)) && !PyData.hasDict (.tuple (cs.map .str)) && decide ((PyData.tuple (cs.map .str)).shown.length + 64 ≤ 16777216) && decide ((PyData.tuple (cs.map .str)).depth ≤ 60)) = true) : OV h (.ref a) :=
  ⟨.inr ⟨.tup, by simp [tyOf, e], by decide⟩, _, h4, fun g => repr_of (by rw [toD_tup (n := 39) (app_get e), dataL_strs (n := 38)]; rfl) (by rw [← sizeLine_eq] at c; exact c)⟩
theorem ov_dic {h : IH} {a : Nat} (e : h[a]? = some (.dic [])) : OV h (.ref a) := by
  refine ⟨.inr ⟨.dict, by simp [tyOf, e], by decide⟩, (PyData.dict []).shown, by decide +kernel, fun g => ?_⟩
  have e2 : (h ++ g)[a]? = some (.dic []) := app_get e
  have t1 : toD (h ++ g) 40 (.ref a) = none := by unfold toD; simp only [e2]
  have t2 : dicD (.ref a) (h ++ g) = some (.dict []) := by simp [dicD, e2, pairsD]
  unfold bifn
  simp only [t1, t2]
  rw [if_pos (by rw [sizeLine_eq]; decide +kernel)]
def odds (n : Nat) : List V := [.non, .bl true, .bl false, .int 5, .int (10 ^ 30), .int (-1), .ref n, .ref (n + 1), .ref (n + 2), .ref (n + 3), .ref (n + 4), .str "", .str "0", .str "01100", .str "011", .str "?", .str "TT",
  .str "011O", .str "01 0", .str "0110\n", .str " 0110", .str "2110", .str "01101", .str "????", .str "TRUE", .int 110, .int 1, .int 0, .str "T\t"]
def oddH (n : Nat) : IH := [.tup [], .lst [], .dic [], .lst [.str "0110"], .tup [.str "0110"], .lst ((odds n).take 17), .lst ((odds n).drop 17), .lst (odds n)]
theorem odds_ok {h : IH} : ∀ v ∈ odds h.length, OV (h ++ oddH h.length) v := by
  have g0 : (h ++ oddH h.length)[h.length]? = some (.tup []) := by simp [oddH]
  have g1 : (h ++ oddH h.length)[h.length + 1]? = some (.lst []) := by simp [oddH, List.getElem?_append_right]
  have g2 : (h ++ oddH h.length)[h.length + 2]? = some (.dic []) := by simp [oddH, List.getElem?_append_right]
  have g3 : (h ++ oddH h.length)[h.length + 3]? = some (.lst [.str "0110"]) := by simp [oddH, List.getElem?_append_right]
  have g4 : (h ++ oddH h.length)[h.length + 4]? = some (.tup [.str "0110"]) := by simp [oddH, List.getElem?_append_right]
  simp only [odds, List.forall_mem_cons]
  refine ⟨ov_flat (fun _ => rfl) (by decide) (fun _ => by simp [toD]; rfl) (by decide +kernel) (by decide +kernel), ov_flat (fun _ => rfl) (by decide) (fun _ => by simp [toD]; rfl) (by decide +kernel) (by decide +kernel), ov_flat (fun _ => rfl) (by decide) (fun _ => by simp [toD]; rfl) (by decide +kernel) (by decide +kernel),
    ov_flat (fun _ => rfl) (by decide) (fun _ => by simp [toD]; rfl) (by decide +kernel) (by decide +kernel), ov_flat (fun _ => rfl) (by decide) (fun _ => by simp [toD]; rfl) (by decide +kernel) (by decide +kernel), ov_flat (fun _ => rfl) (by decide) (fun _ => by simp [toD]; rfl) (by decide +kernel) (by decide +kernel),
    ov_tup (cs := []) g0 (by decide +kernel) (by decide +kernel), ov_lst (cs := []) g1 (by decide +kernel) (by decide +kernel), ov_dic g2, ov_lst (cs := ["0110"]) g3 (by decide +kernel) (by decide +kernel), ov_tup (cs := ["0110"]) g4 (by decide +kernel) (by decide +kernel), ?_⟩
  refine ⟨?_, ?_, ?_, ?_, ?_, ?_, ?_, ?_, ?_, ?_, ?_, ?_, ?_, ?_, ?_, ?_, ?_, ?_, fun _ hv => absurd hv (by simp)⟩
  all_goals first
    | exact ov_str (sok_of (by decide +kernel)) (by decide +kernel) (by decide +kernel) (by decide +kernel) (by decide +kernel)
    | exact ov_flat (fun _ => rfl) (by decide) (fun _ => by simp [toD]; rfl) (by decide +kernel) (by decide +kernel)
end K02
end
section
set_option Elab.async false
set_option linter.all false
set_option maxRecDepth 20000
set_option maxHeartbeats 1000000
namespace K02
open PySem MP
open L2 (V St Hp)
theorem atI_mem {xs : List V} {i : Int} (h0 : 0 ≤ i) (h1 : i < xs.length) : ∃ v ∈ xs, L2.atI xs i = some v := by
  have hn : i.toNat < xs.length := by omega
  refine ⟨xs[i.toNat], List.getElem_mem hn, ?_⟩
  unfold L2.atI
  first
    | (simp [h0, hn]; done)
    | (unfold L2.ixN; simp [h0, h1, hn]; done)

theorem binop_add {h : IH} {a b : Nat} {xs ys : List V} (ea : h[a]? = some (.lst xs)) (eb : h[b]? = some (.lst ys)) (hl : xs.length + ys.length ≤ 16777216) : binop .Add (.ref a) (.ref b) h = some (.val (.ref h.length) (h ++ [.lst (xs ++ ys)])) := by
  unfold binop
  simp only [ea, eb]
  rw [if_pos (sz_le hl)]
  rfl
theorem pow30 {h : IH} : binop .Pow (.int 10) (.int 30) h = some (.val (.int (10 ^ 30)) h) := by
  unfold binop
  simp only
  rw [if_pos (by decide)]
  rfl
theorem mod_ok {h : IH} {i j : Int} (hj : 0 < j) : binop .Mod (.int i) (.int j) h = some (.val (.int (i % j)) h) := by
  unfold binop
  simp only
  rw [if_pos hj]
theorem odd_run {k : Nat} {d : Int} {h : IH} : ∃ v, OV (h ++ oddH h.length) v ∧ Cn (k + 1) 20 [.int d] h = some (.val v (h ++ oddH h.length)) := by
  obtain ⟨v, hv, ea⟩ := atI_mem (xs := odds h.length) (i := d % 29) (Int.emod_nonneg _ (by decide)) (by have := Int.emod_lt_of_pos d (show (0 : Int) < 29 by decide); simpa [odds] using this)
  refine ⟨v, odds_ok v hv, ?_⟩
  rw [cn_eq (d := f20) rfl rfl]
  have hA : evE (gof Γ0 (Cn k)) none false (.lst (.cons (.cst .non) (.cons (.cst (.bl true)) (.cons (.cst (.bl false)) (.cons (.cst (.int 5)) (.cons (.bin .Pow (.cst (.int 10)) (.cst (.int 30))) (.cons (.neg (.cst (.int 1))) (.cons (.tup .nil) (.cons (.lst .nil) (.cons (.dct []) (.cons (.lst (.cons (.cst (.str "0110")) .nil)) (.cons (.tup (.cons (.cst (.str "0110")) .nil)) (.cons (.cst (.str "")) (.cons (.cst (.str "0")) (.cons (.cst (.str "01100")) (.cons (.cst (.str "011")) (.cons (.cst (.str "?")) (.cons (.cst (.str "TT")) .nil)))))))))))))))))) [some (.int d), none] h
      = some (.val (.ref (h.length + 5)) (h ++ [.tup [], .lst [], .dic [], .lst [.str "0110"], .tup [.str "0110"], .lst ((odds h.length).take 17)])) := by
    simp [e_lst, evA, e_cst, e_bin, e_neg, e_tup, e_dct, v1, v16, v17, pow30, negV, tupV, listV, L2.mergeK, sz_le, odds]
  have g5 : (h ++ [MP.IO.tup [], .lst [], .dic [], .lst [.str "0110"], .tup [.str "0110"], .lst ((odds h.length).take 17), .lst ((odds h.length).drop 17)])[h.length + 5]? = some (.lst ((odds h.length).take 17)) := by simp [List.getElem?_append_right]
  have g6 : (h ++ [MP.IO.tup [], .lst [], .dic [], .lst [.str "0110"], .tup [.str "0110"], .lst ((odds h.length).take 17), .lst ((odds h.length).drop 17)])[h.length + 6]? = some (.lst ((odds h.length).drop 17)) := by simp [List.getElem?_append_right]
  have add := binop_add g5 g6 (by simp [odds])
  rw [List.take_append_drop] at add
  have g7 : (h ++ oddH h.length)[h.length + 7]? = some (.lst (odds h.length)) := by simp [oddH, List.getElem?_append_right]
  have hB : evE (gof Γ0 (Cn k)) none false (.lst (.cons (.cst (.str "011O")) (.cons (.cst (.str "01 0")) (.cons (.cst (.str "0110\n")) (.cons (.cst (.str " 0110")) (.cons (.cst (.str "2110")) (.cons (.cst (.str "01101")) (.cons (.cst (.str "????")) (.cons (.cst (.str "TRUE")) (.cons (.cst (.int 110)) (.cons (.cst (.int 1)) (.cons (.cst (.int 0)) (.cons (.cst (.str "T\t")) .nil))))))))))))) [some (.int d), some (.ref (h.length + 5))] (h ++ [.tup [], .lst [], .dic [], .lst [.str "0110"], .tup [.str "0110"], .lst ((odds h.length).take 17)])
      = some (.val (.ref (h.length + 6)) (h ++ [.tup [], .lst [], .dic [], .lst [.str "0110"], .tup [.str "0110"], .lst ((odds h.length).take 17), .lst ((odds h.length).drop 17)])) := by
    simp [e_lst, evA, e_cst, v1, v16, v17, listV, sz_le, odds]
  have hl7 : (h ++ [MP.IO.tup [], .lst [], .dic [], .lst [.str "0110"], .tup [.str "0110"], .lst ((odds h.length).take 17), .lst ((odds h.length).drop 17)]).length = h.length + 7 := by simp
  have happ : h ++ [MP.IO.tup [], .lst [], .dic [], .lst [.str "0110"], .tup [.str "0110"], .lst ((odds h.length).take 17), .lst ((odds h.length).drop 17)] ++ [.lst (odds h.length)] = h ++ oddH h.length := by simp [oddH]
  rw [hl7, happ] at add
  have gx : getix (.ref (h.length + 7)) (.int (d % 29)) (h ++ oddH h.length) = some (.val v (h ++ oddH h.length)) := by
    unfold getix
    simp only [seqOf, g7, ea]
  have body : f20.body = .cons (.asg (.nm 1) _) (.cons (.ret (.ix (.bin .Add (.var 1) _) (.bin .Mod (.var 0) (.cst (.int 29))))) .nil) := rfl
  rw [body]
  simp only [evB, evS, List.map_cons, List.map_nil, List.cons_append, List.nil_append, show List.replicate (f20.ns - f20.np) (none : Option V) = [none] from rfl]
  rw [hA]
  simp only [v4, asgT, List.set, v15, v6, e_ix, e_bin, e_var, slotV, List.getElem?_cons_succ, List.getElem?_cons_zero, v1, v16]
  rw [hB]
  simp only [v1, v16, add, e_cst, mod_ok (show (0 : Int) < 29 by decide), gx, v4, v7, v9]
end K02
end
section
set_option Elab.async false
set_option linter.all false
set_option maxRecDepth 100000
set_option maxHeartbeats 4000000
namespace K02
open PySem MP
open L2 (V St Hp)
def bitC (t i : Nat) : Nat := if t / 2 ^ i % 2 = 0 then 48 else 49
def txt (t : Nat) : Str := ⟨#[bitC t 0, bitC t 1, bitC t 2, bitC t 3]⟩
def sgn (g : Nat) : Str := ⟨#[("01?TL 2\n" : Str).cps.getD g 0]⟩
def five (t a g : Nat) : List Str := [L2.cutS (txt t) none (some (a : Int)) ++ sgn g ++ L2.cutS (txt t) (some (a : Int)) none, L2.cutS (txt t) none (some (a : Int)) ++ L2.cutS (txt t) (some ((a : Int) + 1)) none,
  L2.cutS (txt t) none (some (a : Int)) ++ sgn g ++ L2.cutS (txt t) (some ((a : Int) + 1)) none, txt t ++ txt t, txt t]
def goodS (s : Str) : Bool := decide (s.length ≤ 64) && (s.cps.toList.all fun c => decide (c < 128)) && PyData.canLay0 (.str s) && PyData.canLay0 (.str (PyData.str s).shown) && decide ((PyData.str s).shown.length + 64 ≤ 16777216)
def chk (t a g : Nat) : Bool := (five t a g).all goodS && decide ((L2.cutS (txt t) none (some (a : Int))).length ≤ 64) && decide ((L2.cutS (txt t) (some (a : Int)) none).length ≤ 64) && decide ((L2.cutS (txt t) (some ((a : Int) + 1)) none).length ≤ 64) && decide ((L2.cutS (txt t) none (some (a : Int)) ++ sgn g).length ≤ 64)
theorem chk_all : ((List.range 16).all fun t => (List.range 5).all fun a => (List.range 8).all fun g => chk t a g) = true := by decide +kernel
end K02
end
section
set_option Elab.async false
set_option linter.all false
set_option maxRecDepth 100000
set_option maxHeartbeats 1000000
namespace K02
open PySem MP
open L2 (V St Hp)
def ch (x : Int) : Str := ⟨#[if x = 0 then 48 else 49]⟩
theorem bit_char {h : IH} {x : Int} (h0 : x = 0 ∨ x = 1) : getix (.str "01") (.int x) h = some (.val (.str (ch x)) h) := by
  rcases h0 with rfl | rfl
  · unfold getix
    simp only
    rw [if_pos (sz_le (by decide +kernel))]
    rfl
  · unfold getix
    simp only
    rw [if_pos (sz_le (by decide +kernel))]
    rfl
theorem div_ok {h : IH} {i j : Int} (hj : divOk j = true) : binop .FloorDiv (.int i) (.int j) h = some (.val (.int (i / j)) h) := by
  unfold binop
  simp only
  rw [if_pos hj]
theorem get_int {h : IH} {p : Nat} {xs : List V} {i : Int} {v : V} (e : h[p]? = some (.lst xs)) (hv : L2.atI xs i = some v) : getix (.ref p) (.int i) h = some (.val v h) := by
  unfold getix
  simp only [seqOf, e, hv]
/-- the text of four bits -/
theorem bits_lc {k p : Nat} {h : IH} {d : Int} {xs : List V} {σ : St} {i w : Nat} {ix : Int} (e : h[p]? = some (.lst xs)) (hx : L2.atI xs ix = some (.int d)) (hσ : σ[i]? = some (some (.ref p))) (hw : w < σ.length) (hne : w ≠ i) :
    bnd (evI (gof Γ0 (Cn k)) none (.ev (.lst (.cons (.cst (.int 1)) (.cons (.cst (.int 2)) (.cons (.cst (.int 4)) (.cons (.cst (.int 8)) .nil)))))) σ h) (lcRun (gof Γ0 (Cn k)) [w] (.ix (.cst (.str "01")) (.bin .Mod (.bin .FloorDiv (.ix (.var i) (.cst (.int ix))) (.var w)) (.cst (.int 2)))) (.nm w) .none σ)
      = some (.val (.ref (h.length + 1)) (h ++ [.lst [.int 1, .int 2, .int 4, .int 8], .lst [.str (ch (d / 1 % 2)), .str (ch (d / 2 % 2)), .str (ch (d / 4 % 2)), .str (ch (d / 8 % 2))]])) := by
  have e' : ∀ g : IH, (h ++ g)[p]? = some (.lst xs) := fun g => app_get e
  have b2 : ∀ x : Int, x % 2 = 0 ∨ x % 2 = 1 := fun x => by omega
  have gi := get_int (e' [.lst [.int 1, .int 2, .int 4, .int 8]]) hx
  have hok : okG (h ++ [MP.IO.lst [.int 1, .int 2, .int 4, .int 8]]) [(h.length, .lst [.int 1, .int 2, .int 4, .int 8])] = true := by simp [okG]
  have turn : ∀ j ∈ ([1, 2, 4, 8] : List Int), turnC (.nm w) [w] σ (evC (gof Γ0 (Cn k)) .none) (evE (gof Γ0 (Cn k)) none false (.ix (.cst (.str "01")) (.bin .Mod (.bin .FloorDiv (.ix (.var i) (.cst (.int ix))) (.var w)) (.cst (.int 2))))) (.int j, none) (h ++ [.lst [.int 1, .int 2, .int 4, .int 8]])
      = some (.val (some (.str (ch (d / j % 2)))) (h ++ [.lst [.int 1, .int 2, .int 4, .int 8]])) := by
    intro j hj
    have hdj : divOk j = true := by
      simp at hj
      rcases hj with rfl | rfl | rfl | rfl <;> decide +kernel
    have s1 : (List.set (List.set σ w none) w (some (V.int j)))[i]? = some (some (.ref p)) := by
      rw [List.getElem?_set_ne hne, List.getElem?_set_ne hne]
      exact hσ
    have s2 : (List.set (List.set σ w none) w (some (V.int j)))[w]? = some (some (.int j)) := by
      rw [List.getElem?_set_self (by simpa using hw)]
    simp only [turnC, asgX, asgT, L2.wipe, evC, v3, e_ix, e_cst, e_bin, e_var, slotV, s1, s2, v1, v16, gi, div_ok hdj, mod_ok (show (0 : Int) < 2 by decide), bit_char (b2 (d / j))]
  have lp := loopC_map (l := ([1, 2, 4, 8] : List Int)) (F := fun j => (V.int j, (none : Option V))) (g := fun j => V.str (ch (d / j % 2))) (gd := [(h.length, .lst [.int 1, .int 2, .int 4, .int 8])]) hok turn
  have lp' : lcRun (gof Γ0 (Cn k)) [w] (.ix (.cst (.str "01")) (.bin .Mod (.bin .FloorDiv (.ix (.var i) (.cst (.int ix))) (.var w)) (.cst (.int 2)))) (.nm w) .none σ ⟨[(V.int 1, none), (V.int 2, none), (V.int 4, none), (V.int 8, none)], [(h.length, .lst [.int 1, .int 2, .int 4, .int 8])]⟩ (h ++ [.lst [.int 1, .int 2, .int 4, .int 8]]) = some (.val (.ref (h.length + 1)) (h ++ [.lst [.int 1, .int 2, .int 4, .int 8], .lst [.str (ch (d / 1 % 2)), .str (ch (d / 2 % 2)), .str (ch (d / 4 % 2)), .str (ch (d / 8 % 2))]])) := by
    unfold lcRun
    simp only [List.map_cons, List.map_nil] at lp
    simp only [lp, v3, listV]
    rw [if_pos (sz_le (by show (4 : Nat) ≤ 16777216; decide))]
    simp [MP.new]
  have ei : evI (gof Γ0 (Cn k)) none (.ev (.lst (.cons (.cst (.int 1)) (.cons (.cst (.int 2)) (.cons (.cst (.int 4)) (.cons (.cst (.int 8)) .nil)))))) σ h = some (.val ⟨[(V.int 1, none), (V.int 2, none), (V.int 4, none), (V.int 8, none)], [(h.length, .lst [.int 1, .int 2, .int 4, .int 8])]⟩ (h ++ [.lst [.int 1, .int 2, .int 4, .int 8]])) := by
    simp [evI, e_lst, evA, e_cst, v1, v16, v17, listV, sz_le, evV, itsOf]
  rw [ei]
  exact lp'
theorem join_bits (d : Int) : ∃ t, t < 16 ∧ Txt.join "" [ch (d / 1 % 2), ch (d / 2 % 2), ch (d / 4 % 2), ch (d / 8 % 2)] = txt t := by
  have b2 : ∀ x : Int, x % 2 = 0 ∨ x % 2 = 1 := fun x => by omega
  rcases b2 (d / 1) with h1 | h1 <;> rcases b2 (d / 2) with h2 | h2 <;> rcases b2 (d / 4) with h3 | h3 <;> rcases b2 (d / 8) with h4 | h4 <;> rw [h1, h2, h3, h4]
  · exact ⟨0, by decide, by decide +kernel⟩
  · exact ⟨8, by decide, by decide +kernel⟩
  · exact ⟨4, by decide, by decide +kernel⟩
  · exact ⟨12, by decide, by decide +kernel⟩
  · exact ⟨2, by decide, by decide +kernel⟩
  · exact ⟨10, by decide, by decide +kernel⟩
  · exact ⟨6, by decide, by decide +kernel⟩
  · exact ⟨14, by decide, by decide +kernel⟩
  · exact ⟨1, by decide, by decide +kernel⟩
  · exact ⟨9, by decide, by decide +kernel⟩
  · exact ⟨5, by decide, by decide +kernel⟩
  · exact ⟨13, by decide, by decide +kernel⟩
  · exact ⟨3, by decide, by decide +kernel⟩
  · exact ⟨11, by decide, by decide +kernel⟩
  · exact ⟨7, by decide, by decide +kernel⟩
  · exact ⟨15, by decide, by decide +kernel⟩
theorem join_lst {h : IH} {a : Nat} {s1 s2 s3 s4 : Str} (e : h[a]? = some (.lst [.str s1, .str s2, .str s3, .str s4])) (h1 : s1.length + (s2.length + (s3.length + s4.length)) ≤ 16777216) : bmeth .join (.str "") [.ref a] h = some (.val (.str (Txt.join "" [s1, s2, s3, s4])) h) := by
  show mJoin (.str "") [.ref a] h = _
  unfold mJoin
  simp only [seqOf, e, strsOf, Option.map]
  rw [if_pos (by simpa [show (PySem.Str.ofString "").length = 0 from rfl] using h1)]
theorem ch_len (x : Int) : (ch x).length = 1 := rfl
/-- ''.join of four bits -/
theorem bits_join {k p : Nat} {h : IH} {d : Int} {xs : List V} {σ : St} {i w : Nat} {ix : Int} (e : h[p]? = some (.lst xs)) (hx : L2.atI xs ix = some (.int d)) (hσ : σ[i]? = some (some (.ref p))) (hw : w < σ.length) (hne : w ≠ i) :
    ∃ t g, t < 16 ∧ evE (gof Γ0 (Cn k)) none false (.bm .join (.cst (.str "")) (.cons (.lc [w] (.ix (.cst (.str "01")) (.bin .Mod (.bin .FloorDiv (.ix (.var i) (.cst (.int ix))) (.var w)) (.cst (.int 2)))) (.nm w) (.ev (.lst (.cons (.cst (.int 1)) (.cons (.cst (.int 2)) (.cons (.cst (.int 4)) (.cons (.cst (.int 8)) .nil)))))) .none) .nil)) σ h = some (.val (.str (txt t)) (h ++ g)) := by
  obtain ⟨t, ht, et⟩ := join_bits d
  refine ⟨t, [.lst [.int 1, .int 2, .int 4, .int 8], .lst [.str (ch (d / 1 % 2)), .str (ch (d / 2 % 2)), .str (ch (d / 4 % 2)), .str (ch (d / 8 % 2))]], ht, ?_⟩
  have b := bits_lc (k := k) e hx hσ hw hne
  simp only [e_bm, e_cst, v1, v16, show bmTy .join (.str "") h = true from rfl, if_true, evA, e_lc]
  rw [b]
  simp only [v1, v16]
  have g1 : (h ++ [MP.IO.lst [.int 1, .int 2, .int 4, .int 8], .lst [.str (ch (d / 1 % 2)), .str (ch (d / 2 % 2)), .str (ch (d / 4 % 2)), .str (ch (d / 8 % 2))]])[h.length + 1]? = some (.lst [.str (ch (d / 1 % 2)), .str (ch (d / 2 % 2)), .str (ch (d / 4 % 2)), .str (ch (d / 8 % 2))]) := by
    rw [List.getElem?_append_right (Nat.le_succ _)]
    simp
  have jl := join_lst g1 (by show (1 : Nat) + (1 + (1 + 1)) ≤ 16777216; decide)
  rw [jl, et]
  rfl
end K02
end
section
set_option Elab.async false
set_option linter.all false
set_option maxRecDepth 100000
set_option maxHeartbeats 1000000
namespace K02
open PySem MP
open L2 (V St Hp)
theorem sl_str {s : Str} {lo hi : Option Int} {h : IH} (hs : s.length ≤ 64) : getsl (.str s) lo hi h = some (.val (.str (L2.cutS s lo hi)) h) := by
  unfold getsl
  simp only
  rw [if_pos (sz_le (by omega))]
theorem add_str {s u : Str} {h : IH} (hl : s.length + u.length ≤ 16777216) : binop .Add (.str s) (.str u) h = some (.val (.str (s ++ u)) h) := by
  unfold binop
  simp only
  rw [if_pos (sz_le hl)]
theorem add_int {i j : Int} {h : IH} : binop .Add (.int i) (.int j) h = some (.val (.int (i + j)) h) := rfl
theorem sgn_get {h : IH} {x : Int} : ∃ g, g < 8 ∧ getix (.str "01?TL 2\n") (.int (x % 8)) h = some (.val (.str (sgn g)) h) := by
  have h8 : x % 8 = 0 ∨ x % 8 = 1 ∨ x % 8 = 2 ∨ x % 8 = 3 ∨ x % 8 = 4 ∨ x % 8 = 5 ∨ x % 8 = 6 ∨ x % 8 = 7 := by omega
  have go : ∀ (g : Nat), g < 8 → getix (.str "01?TL 2\n") (.int (g : Int)) h = some (.val (.str (sgn g)) h) := by
    intro g hg
    unfold getix
    simp only
    rw [if_pos (sz_le (by decide +kernel))]
    match g, hg with
    | 0, _ => rfl
    | 1, _ => rfl
    | 2, _ => rfl
    | 3, _ => rfl
    | 4, _ => rfl
    | 5, _ => rfl
    | 6, _ => rfl
    | 7, _ => rfl
  rcases h8 with e | e | e | e | e | e | e | e <;> rw [e]
  · exact ⟨0, by decide, go 0 (by decide)⟩
  · exact ⟨1, by decide, go 1 (by decide)⟩
  · exact ⟨2, by decide, go 2 (by decide)⟩
  · exact ⟨3, by decide, go 3 (by decide)⟩
  · exact ⟨4, by decide, go 4 (by decide)⟩
  · exact ⟨5, by decide, go 5 (by decide)⟩
  · exact ⟨6, by decide, go 6 (by decide)⟩
  · exact ⟨7, by decide, go 7 (by decide)⟩
theorem changed_run {k p : Nat} {h : IH} {d0 d1 d2 d3 : Int} {r : List V} (e : h[p]? = some (.lst (.int d0 :: .int d1 :: .int d2 :: .int d3 :: r))) : ∃ s g, goodS s = true ∧ Cn (k + 1) 21 [.ref p] h = some (.val (.str s) (h ++ g)) := by
  have at0 : ∀ n : Nat, n < 4 → L2.atI (.int d0 :: .int d1 :: .int d2 :: .int d3 :: r) (n : Int) = (V.int d0 :: V.int d1 :: V.int d2 :: V.int d3 :: r)[n]? := by
    intro n hn
    unfold L2.atI L2.ixN
    rw [if_pos (by omega), if_pos (by simp; omega)]
    simp
  obtain ⟨t, g0, ht, eb⟩ := bits_join (k := k) (σ := [some (.ref p), none, none, none, none, none]) (i := 0) (w := 5) (ix := 0) e (at0 0 (by decide)) rfl (show (5 : Nat) < 6 by decide) (by decide)
  obtain ⟨g, hg, es⟩ := sgn_get (x := d2) (h := h ++ g0)
  have ea : ∃ a : Nat, a < 5 ∧ d1 % 5 = (a : Int) := ⟨(d1 % 5).toNat, by omega, by omega⟩
  obtain ⟨a, ha, ea⟩ := ea
  have ck : chk t a g = true := by
    have c := chk_all
    rw [List.all_eq_true] at c
    have c := c t (List.mem_range.mpr ht)
    rw [List.all_eq_true] at c
    have c := c a (List.mem_range.mpr ha)
    rw [List.all_eq_true] at c
    exact c g (List.mem_range.mpr hg)
  unfold chk at ck
  simp only [Bool.and_eq_true, decide_eq_true_eq] at ck
  obtain ⟨⟨⟨⟨c1, c2⟩, c3⟩, c4⟩, c5⟩ := ck
  have e1 : ∀ g', (h ++ g0 ++ g')[p]? = some (.lst (.int d0 :: .int d1 :: .int d2 :: .int d3 :: r)) := fun g' => by rw [List.append_assoc]; exact app_get e
  have e1' : (h ++ g0)[p]? = some (.lst (.int d0 :: .int d1 :: .int d2 :: .int d3 :: r)) := app_get e
  have t4 : (txt t).length ≤ 64 := by show 4 ≤ 64; decide
  have s1 : (sgn g).length = 1 := rfl
  have m1 : getix (.ref p) (.int 1) (h ++ g0) = some (.val (.int d1) (h ++ g0)) := get_int e1' (at0 1 (by decide))
  have m2 : getix (.ref p) (.int 2) (h ++ g0) = some (.val (.int d2) (h ++ g0)) := get_int e1' (at0 2 (by decide))
  obtain ⟨v, hv, ea5⟩ := atI_mem (xs := (five t a g).map V.str) (i := d3 % 5) (Int.emod_nonneg _ (by decide)) (by have := Int.emod_lt_of_pos d3 (show (0 : Int) < 5 by decide); simpa [five] using this)
  obtain ⟨s, hs, rfl⟩ := List.mem_map.mp hv
  rw [List.all_eq_true] at c1
  refine ⟨s, g0 ++ [.lst (((five t a g).take 3).map V.str), .lst (((five t a g).drop 3).map V.str), .lst ((five t a g).map V.str)], c1 s hs, ?_⟩
  have a1 : ∀ {h : IH}, binop .Add (.str (L2.cutS (txt t) none (some (a : Int)))) (.str (sgn g)) h = some (.val (.str (L2.cutS (txt t) none (some (a : Int)) ++ sgn g)) h) := add_str (by omega)
  have a2 : ∀ {h : IH}, binop .Add (.str (L2.cutS (txt t) none (some (a : Int)) ++ sgn g)) (.str (L2.cutS (txt t) (some (a : Int)) none)) h = some (.val (.str (L2.cutS (txt t) none (some (a : Int)) ++ sgn g ++ L2.cutS (txt t) (some (a : Int)) none)) h) := add_str (by omega)
  have a3 : ∀ {h : IH}, binop .Add (.str (L2.cutS (txt t) none (some (a : Int)))) (.str (L2.cutS (txt t) (some ((a : Int) + 1)) none)) h = some (.val (.str (L2.cutS (txt t) none (some (a : Int)) ++ L2.cutS (txt t) (some ((a : Int) + 1)) none)) h) := add_str (by omega)
  have a4 : ∀ {h : IH}, binop .Add (.str (L2.cutS (txt t) none (some (a : Int)) ++ sgn g)) (.str (L2.cutS (txt t) (some ((a : Int) + 1)) none)) h = some (.val (.str (L2.cutS (txt t) none (some (a : Int)) ++ sgn g ++ L2.cutS (txt t) (some ((a : Int) + 1)) none)) h) := add_str (by omega)
  have a5 : ∀ {h : IH}, binop .Add (.str (txt t)) (.str (txt t)) h = some (.val (.str (txt t ++ txt t)) h) := add_str (by omega)
  have k1 : ∀ {h : IH} {lo hi : Option Int}, getsl (.str (txt t)) lo hi h = some (.val (.str (L2.cutS (txt t) lo hi)) h) := fun {h lo hi} => sl_str t4
  have l5 : ∀ {h : IH}, listV [.str (L2.cutS (txt t) none (some (a : Int)) ++ sgn g ++ L2.cutS (txt t) (some (a : Int)) none), .str (L2.cutS (txt t) none (some (a : Int)) ++ L2.cutS (txt t) (some ((a : Int) + 1)) none), .str (L2.cutS (txt t) none (some (a : Int)) ++ sgn g ++ L2.cutS (txt t) (some ((a : Int) + 1)) none)] h = some (.val (.ref h.length) (h ++ [.lst (((five t a g).take 3).map V.str)])) := fun {h} => by
    unfold listV
    rw [if_pos (sz_le (by show (3 : Nat) ≤ 16777216; decide))]
    rfl
  have l6 : ∀ {h : IH}, listV [.str (txt t ++ txt t), .str (txt t)] h = some (.val (.ref h.length) (h ++ [.lst (((five t a g).drop 3).map V.str)])) := fun {h} => by
    unfold listV
    rw [if_pos (sz_le (by show (2 : Nat) ≤ 16777216; decide))]
    rfl
  have q0 : (h ++ g0 ++ [MP.IO.lst (((five t a g).take 3).map V.str)] ++ [MP.IO.lst (((five t a g).drop 3).map V.str)])[(h ++ g0).length]? = some (.lst (((five t a g).take 3).map V.str)) := by
    rw [List.append_assoc, List.getElem?_append_right (Nat.le_refl _)]
    simp
  have q1 : (h ++ g0 ++ [MP.IO.lst (((five t a g).take 3).map V.str)] ++ [MP.IO.lst (((five t a g).drop 3).map V.str)])[(h ++ g0 ++ [MP.IO.lst (((five t a g).take 3).map V.str)]).length]? = some (.lst (((five t a g).drop 3).map V.str)) := by
    rw [List.getElem?_append_right (Nat.le_refl _)]
    simp
  have add := binop_add q0 q1 (by simp [five])
  rw [← List.map_append, List.take_append_drop] at add
  have m3 : getix (.ref p) (.int 3) (h ++ g0 ++ [MP.IO.lst (((five t a g).take 3).map V.str)] ++ [MP.IO.lst (((five t a g).drop 3).map V.str)] ++ [MP.IO.lst ((five t a g).map V.str)]) = some (.val (.int d3) (h ++ g0 ++ [MP.IO.lst (((five t a g).take 3).map V.str)] ++ [MP.IO.lst (((five t a g).drop 3).map V.str)] ++ [MP.IO.lst ((five t a g).map V.str)])) := get_int (h := h ++ g0 ++ [MP.IO.lst (((five t a g).take 3).map V.str)] ++ [MP.IO.lst (((five t a g).drop 3).map V.str)] ++ [MP.IO.lst ((five t a g).map V.str)]) (p := p) (by rw [List.append_assoc, List.append_assoc]; exact e1 _) (at0 3 (by decide))
  have gx : getix (.ref (h ++ g0 ++ [MP.IO.lst (((five t a g).take 3).map V.str)] ++ [MP.IO.lst (((five t a g).drop 3).map V.str)]).length) (.int (d3 % 5)) (h ++ g0 ++ [MP.IO.lst (((five t a g).take 3).map V.str)] ++ [MP.IO.lst (((five t a g).drop 3).map V.str)] ++ [MP.IO.lst ((five t a g).map V.str)]) = some (.val (.str s) (h ++ g0 ++ [MP.IO.lst (((five t a g).take 3).map V.str)] ++ [MP.IO.lst (((five t a g).drop 3).map V.str)] ++ [MP.IO.lst ((five t a g).map V.str)])) :=
    get_int (by rw [List.getElem?_append_right (Nat.le_refl _)]; simp) ea5
  rw [cn_eq (d := f21) rfl rfl, show h ++ (g0 ++ [MP.IO.lst (((five t a g).take 3).map V.str), .lst (((five t a g).drop 3).map V.str), .lst ((five t a g).map V.str)]) = h ++ g0 ++ [MP.IO.lst (((five t a g).take 3).map V.str)] ++ [MP.IO.lst (((five t a g).drop 3).map V.str)] ++ [MP.IO.lst ((five t a g).map V.str)] from by simp]
  have body : f21.body = .cons (.asg (.nm 1) _) (.cons (.par (.tup (.cons (.nm 2) (.cons (.nm 3) .nil))) _) (.cons (.asg (.nm 4) _) (.cons (.ret _) .nil))) := rfl
  rw [body]
  simp only [evB, evS, List.map_cons, List.map_nil, List.cons_append, List.nil_append, show List.replicate (f21.ns - f21.np) (none : Option V) = [none, none, none, none, none] from rfl]
  rw [eb]
  simp only [v4, asgT, asgTs, List.set, v15, v6, evA, e_ix, e_bin, e_cst, e_var, slotV, List.getElem?_cons_succ, List.getElem?_cons_zero, v1, v16, show ((1 : Nat) : Int) = 1 from rfl, show ((2 : Nat) : Int) = 2 from rfl, m1, m2, mod_ok (show (0 : Int) < 5 by decide), mod_ok (show (0 : Int) < 8 by decide), es, ea]
  simp only [e_lst, evA, e_bin, e_sl, evO, e_var, slotV, List.getElem?_cons_succ, List.getElem?_cons_zero, v1, v16, oneInt, k1, a1, a2, a3, a4, a5, e_cst, add_int, l5, l6, v4, v15, v6, add, e_ix, m3, mod_ok (show (0 : Int) < 5 by decide), gx, v7, v9]
end K02
end
section
set_option Elab.async false
set_option linter.all false
set_option maxRecDepth 100000
set_option maxHeartbeats 1000000
namespace K02
open PySem MP
open L2 (V St Hp)
theorem log_lt {n : Nat} (h : n < 2 ^ 100) : n.log2 < 100 := by
  by_cases hn : n = 0
  · subst hn; decide
  · exact (Nat.log2_lt hn).mpr h
theorem mul_ok {i j : Int} {h : IH} (h1 : i.natAbs < 2 ^ 100) (h2 : j.natAbs < 2 ^ 100) : binop .Mult (.int i) (.int j) h = some (.val (.int (i * j)) h) := by
  unfold binop
  simp only
  rw [if_pos (by
    have a := log_lt h1
    have b := log_lt h2
    unfold mulOk
    exact decide_eq_true (by omega))]
theorem pow_ok {i : Int} {j : Int} {h : IH} (h1 : i.natAbs < 2 ^ 64) (h2 : 0 ≤ j ∧ j ≤ 1000000) : binop .Pow (.int i) (.int j) h = some (.val (.int (i ^ j.toNat)) h) := by
  unfold binop
  simp only
  rw [if_pos ⟨h2.1, h2.2, h1⟩]
theorem sub_int {i j : Int} {h : IH} : binop .Sub (.int i) (.int j) h = some (.val (.int (i - j)) h) := rfl
theorem ge_int {i j : Int} {h : IH} : cmpop .GtE (.int i) (.int j) h = some (.val (.bl (decide (j ≤ i))) h) := rfl
theorem gt_int {i j : Int} {h : IH} : cmpop .Gt (.int i) (.int j) h = some (.val (.bl (decide (j < i))) h) := rfl
theorem app_ok {h : IH} {n : Nat} {xs : List V} {v : V} (e : h[n]? = some (.lst xs)) (hl : xs.length < 16777216) : bmeth .append (.ref n) [v] h = some (.val .non (h.set n (.lst (xs ++ [v])))) := by
  show mAppend (.ref n) [v] h = _
  unfold mAppend
  simp only [e]
  rw [if_pos (by rw [sizeLine_eq]; exact hl)]
def numB : MB := (match f19.body with
  | .cons _ (.cons _ (.cons _ (.cons (.forS _ _ b) _))) => b
  | _ => .nil)
/-- the slots that the loop keeps -/
def NS (c s w : Int) (p n : Nat) (σ : St) : Prop := ∃ (l : Int) (a b : Option V), σ = [some (.int c), some (.int s), some (.ref p), some (.int w), some (.int l), some (.ref n), a, b]
theorem num_step {k p : Nat} {h : IH} {c s w : Int} {ds : List V} {σ : St} {i : Int} (hs : 0 ≤ s ∧ s ≤ 1000) (hi : 0 ≤ i ∧ i < 24) (e : h[p]? = some (.lst (List.replicate 24 (.int 420)))) (hσ : NS c s w p h.length σ) (hd : ds.length ≤ 64) :
    ∃ σ' d, NS c s w p h.length σ' ∧ evB (gof Γ0 (Cn k)) 0 none numB (σ.set 6 (some (.int i))) (h ++ [.lst ds]) = some (.ok (.nx σ') (h ++ [.lst (ds ++ [V.int d])])) := by
  obtain ⟨l, a, b, rfl⟩ := hσ
  have ep : ∀ g : IH, (h ++ g)[p]? = some (.lst (List.replicate 24 (.int 420))) := fun g => app_get e
  have at0 : L2.atI (List.replicate 24 (V.int 420)) i = some (.int 420) := by
    unfold L2.atI L2.ixN
    rw [if_pos hi.1, if_pos (by simpa using hi.2)]
    show (List.replicate 24 (V.int 420))[i.toNat]? = _
    rw [List.getElem?_replicate, if_pos (by omega)]
  have gi : ∀ g : IH, getix (.ref p) (.int i) (h ++ g) = some (.val (.int 420) (h ++ g)) := fun g => get_int (ep g) at0
  have gl : (h ++ [MP.IO.lst ds])[h.length]? = some (.lst ds) := by simp
  have st : ∀ v : V, (h ++ [MP.IO.lst ds]).set h.length (.lst (ds ++ [v])) = h ++ [.lst (ds ++ [v])] := fun v => by simp [List.set_append]
  have ap : ∀ v : V, bmeth .append (.ref h.length) [v] (h ++ [.lst ds]) = some (.val .non (h ++ [.lst (ds ++ [v])])) := fun v => by rw [app_ok gl (by omega), st]
  have bt : bmTy .append (.ref h.length) (h ++ [.lst ds]) = true := by show isLst (.ref h.length) (h ++ [.lst ds]) = true; unfold isLst; simp only [gl]
  have p18 : ∀ {h : IH}, binop .Pow (.int 10) (.int 18) h = some (.val (.int (10 ^ 18)) h) := fun {h} => pow_ok (by decide) (by decide)
  have d420 : ∀ {x : Int} {h : IH}, binop .FloorDiv (.int x) (.int 420) h = some (.val (.int (x / 420)) h) := div_ok (by decide +kernel)
  have d16 : ∀ {x : Int} {h : IH}, binop .FloorDiv (.int x) (.int 16) h = some (.val (.int (x / 16)) h) := div_ok (by decide +kernel)
  have hm1 := Int.emod_nonneg w (show (2147483629 : Int) ≠ 0 by decide)
  have hm2 := Int.emod_lt_of_pos w (show (0 : Int) < 2147483629 by decide)
  have c1 := fun (x : Int) => Int.emod_nonneg x (show (2147483647 : Int) ≠ 0 by decide)
  have c2 := fun (x : Int) => Int.emod_lt_of_pos x (show (0 : Int) < 2147483647 by decide)
  have c3 := fun (x : Int) => Int.emod_nonneg x (show (2147483629 : Int) ≠ 0 by decide)
  have c4 := fun (x : Int) => Int.emod_lt_of_pos x (show (0 : Int) < 2147483629 by decide)
  by_cases hc : (1000000000000000000 : Int) ≤ w ∧ 0 < l
  · refine ⟨_, l % 420, ⟨l / 420, some (.int i), b, rfl⟩, ?_⟩
    simp [numB, f19, evB, evS, e_andE, e_cmp, e_var, e_bin, e_cst, slotV, v1, v4, v6, v15, v16, v18, p18, ge_int, gt_int, hc.1, hc.2, e_bm, bt, evA, e_ix, gi, mod_ok (show (0 : Int) < 420 by decide), ap, d420, asgT]
  · have cond : evE (gof Γ0 (Cn k)) none true (.andE (.cmp .GtE (.var 3) (.bin .Pow (.cst (.int 10)) (.cst (.int 18)))) (.cmp .Gt (.var 4) (.cst (.int 0)))) [some (.int c), some (.int s), some (.ref p), some (.int w), some (.int l), some (.ref h.length), some (.int i), b] (h ++ [.lst ds]) = some (.val (.bl false) (h ++ [.lst ds])) := by
      by_cases h1 : (1000000000000000000 : Int) ≤ w
      · have h2 : ¬ 0 < l := fun z => hc ⟨h1, z⟩
        simp [e_andE, e_cmp, e_var, e_bin, e_cst, slotV, v1, v16, v18, p18, ge_int, gt_int, h1, h2]
      · simp [e_andE, e_cmp, e_var, e_bin, e_cst, slotV, v1, v16, v18, p18, ge_int, gt_int, h1]
    have q1 : ∀ {h : IH}, binop .Mult (.int 7919) (.int s) h = some (.val (.int (7919 * s)) h) := mul_ok (by decide) (by omega)
    have q2 : ∀ {h : IH}, binop .Pow (.int (w % 2147483629 + 7919 * s + 1)) (.int 3) h = some (.val (.int ((w % 2147483629 + 7919 * s + 1) ^ 3)) h) := fun {h} => pow_ok (j := 3) (by omega) (by decide)
    have q3 : ∀ {h : IH}, binop .Mult (.int 104729) (.int (i + 1)) h = some (.val (.int (104729 * (i + 1))) h) := mul_ok (by decide) (by omega)
    have q4 : ∀ (x : Int) {h : IH}, binop .Mult (.int (x % 2147483647 + 104729 * (i + 1))) (.int (i + 3)) h = some (.val (.int ((x % 2147483647 + 104729 * (i + 1)) * (i + 3))) h) := fun x {h} => mul_ok (by have := c1 x; have := c2 x; omega) (by omega)
    have q5 : ∀ (x : Int) {h : IH}, binop .Pow (.int (x % 2147483629)) (.int 5) h = some (.val (.int ((x % 2147483629) ^ 5)) h) := fun x {h} => pow_ok (j := 5) (by have := c3 x; have := c4 x; omega) (by decide)
    have q6 : ∀ (x : Int) {h : IH}, binop .Mult (.int (x % 2147483647)) (.int 48271) h = some (.val (.int (x % 2147483647 * 48271)) h) := fun x {h} => mul_ok (by have := c1 x; have := c2 x; omega) (by decide)
    refine ⟨[some (.int c), some (.int s), some (.ref p), some (.int w), some (.int l), some (.ref h.length), some (.int i), some (.int (((((((w % 2147483629 + 7919 * s + 1) ^ 3 % 2147483647 + 104729 * (i + 1)) * (i + 3)) % 2147483629) ^ 5) % 2147483647 * 48271) % 2147483629))], (((((((w % 2147483629 + 7919 * s + 1) ^ 3 % 2147483647 + 104729 * (i + 1)) * (i + 3)) % 2147483629) ^ 5) % 2147483647 * 48271) % 2147483629) / 16 % 420, ⟨l, _, _, rfl⟩, ?_⟩
    · have body : numB = .cons (.ifS (.andE (.cmp .GtE (.var 3) (.bin .Pow (.cst (.int 10)) (.cst (.int 18)))) (.cmp .Gt (.var 4) (.cst (.int 0)))) _ _) .nil := rfl
      rw [body]
      simp only [evB, evS, List.set, cond, v4, e_bin, e_var, e_cst, slotV, List.getElem?_cons_succ, List.getElem?_cons_zero, v1, v16, mod_ok (show (0 : Int) < 2147483629 by decide), mod_ok (show (0 : Int) < 2147483647 by decide), q1, add_int, q2, asgT, v15, v6, q3, q4, q5, q6, e_bm, bt, if_true, evA, d16, e_ix, gi, mod_ok (show (0 : Int) < 420 by decide), ap]
theorem num_loop {k p : Nat} {h : IH} {c s w : Int} (hs : 0 ≤ s ∧ s ≤ 1000) (e : h[p]? = some (.lst (List.replicate 24 (.int 420)))) : ∀ (l : List Int) (ds : List Int) (σ : St), (∀ i ∈ l, 0 ≤ i ∧ i < 24) → ds.length + l.length ≤ 24 → NS c s w p h.length σ →
    ∃ (σ' : St) (ds' : List Int), ds'.length = ds.length + l.length ∧ NS c s w p h.length σ' ∧ loopF (.nm 6) (evB (gof Γ0 (Cn k)) 0 none numB) [] (l.map fun i => (V.int i, none)) σ (h ++ [.lst (ds.map V.int)]) = some (.ok (.nx σ') (h ++ [.lst (ds'.map V.int)]))
  | [], ds, σ, _, _, hσ => ⟨σ, ds, rfl, hσ, by simp [loopF, okG]⟩
  | i :: l, ds, σ, hl, hn, hσ => by
    obtain ⟨σ1, d, h1, e1⟩ := num_step (k := k) hs (hl i List.mem_cons_self) e hσ (ds := ds.map V.int) (by rw [List.length_map]; simp at hn; omega)
    obtain ⟨σ2, ds2, h2, h3, e2⟩ := num_loop (k := k) hs e l (ds ++ [d]) σ1 (fun j hj => hl j (List.mem_cons_of_mem _ hj)) (by simp at hn ⊢; omega) h1
    refine ⟨σ2, ds2, by simp at h2 ⊢; omega, h3, ?_⟩
    simp only [List.map_cons]
    unfold loopF
    rw [if_pos (by simp [okG])]
    simp only [asgX, asgT]
    rw [e1]
    simp only [List.map_append, List.map_cons, List.map_nil] at e2
    exact e2
theorem numbers_run {k p : Nat} {h : IH} {c s : Int} (hs : 0 ≤ s ∧ s ≤ 1000) (e : h[p]? = some (.lst (List.replicate 24 (.int 420)))) : ∃ ds : List Int, ds.length = 24 ∧ Cn (k + 1) 19 [.int c, .int s, .ref p] h = some (.val (.ref h.length) (h ++ [.lst (ds.map V.int)])) := by
  let w : Int := if -1 - c > c then -1 - c else c
  obtain ⟨σ', ds, hl, hσ, el⟩ := num_loop (k := k) (c := c) (s := s) (w := w) hs e ((List.range 24).map fun (i : Nat) => (i : Int)) [] [some (.int c), some (.int s), some (.ref p), some (.int w), some (.int w), some (.ref h.length), none, none] (by decide) (by decide) ⟨w, none, none, rfl⟩
  refine ⟨ds, by simpa using hl, ?_⟩
  rw [cn_eq (d := f19) rfl rfl]
  have body : f19.body = .cons (.asg (.nm 3) _) (.cons (.asg (.nm 4) _) (.cons (.asg (.nm 5) _) (.cons (.forS (.nm 6) (.rng1 (.bi .len (.cons (.var 2) .nil))) numB) (.cons (.ret (.var 5)) .nil)))) := rfl
  rw [body]
  have mx : ∀ {h : IH}, bifn .max2 [.int c, .int (-1 - c)] h = some (.val (.int w) h) := fun {h} => rfl
  have ln : bifn .len [.ref p] (h ++ [.lst []]) = some (.val (.int 24) (h ++ [.lst []])) := by
    have z : (h ++ [MP.IO.lst []])[p]? = some (.lst (List.replicate 24 (.int 420))) := app_get e
    unfold bifn
    simp only [lenOf, z, List.length_replicate]
    rfl
  have rg : rng1V (.int 24) (h ++ [.lst []]) = some (.val ⟨((List.range 24).map fun (i : Nat) => (i : Int)).map fun i => (V.int i, none), []⟩ (h ++ [.lst []])) := by
    unfold rng1V
    simp only
    rw [if_pos (by decide)]
    simp only [rngOf]
    rfl
  simp only [List.map_nil] at el
  simp only [evB, evS, List.map_cons, List.map_nil, List.cons_append, List.nil_append, show List.replicate (f19.ns - f19.np) (none : Option V) = [none, none, none, none, none] from rfl, e_bi, evA, e_var, e_bin, e_neg, e_cst, slotV, List.getElem?_cons_succ, List.getElem?_cons_zero, v1, v16, negV, sub_int, mx, v4, asgT, List.set, v15, v6, e_lst, listV, List.length_nil, Nat.zero_le, if_true, v17, evI, ln, rg, show -(1 : Int) - c = -1 - c from rfl, el]
  obtain ⟨l, a, b, rfl⟩ := hσ
  rfl
end K02
end
section
set_option Elab.async false
set_option linter.all false
set_option maxRecDepth 100000
set_option maxHeartbeats 1000000
set_option pp.maxSteps 40
namespace K02
open PySem MP
open L2 (V St Hp)
def for1 : MS := (match f26.body with
  | .cons s _ => s
  | _ => .brk)
def see (r : Option OutS) : Option (List (Option V) × Nat × IH) := match r with
  | some (.ok (.nx σ) h) => some (σ.take 1, σ.length, h.take 4)
  | _ => none
theorem see1 (xs : List V) : see (evS (gof Γ0 (Cn 7)) 0 none for1 (some (.ref 3) :: List.replicate 10 none) (h0 ++ [.flst xs])) = some ([some (.ref 3)], 11, h0 ++ [.flst xs]) := by
  kernel_rfl
end K02
end
section
set_option Elab.async false
set_option linter.all false
set_option maxRecDepth 100000
set_option maxHeartbeats 1000000
set_option pp.maxSteps 60
namespace K02
open PySem MP
open L2 (V St Hp)
theorem lay_str {s : Str} (h : SOk s) : PyData.canLay0 (.str s) = true := by
  simp [PyData.canLay0, PyData.strOk]
  intro x hx
  have := h.2 s.cps[x] (by simp)
  omega
theorem eq_strs {h : IH} {a b : Nat} {cs : List Str} (ea : h[a]? = some (.lst (cs.map V.str))) (eb : h[b]? = some (.lst (cs.map V.str))) (hc : ∀ c ∈ cs, PyData.canLay0 (.str c) = true) : eqOp (.ref a) (.ref b) h = some true := by
  have t1 : toD h 40 (.ref a) = some (.list (cs.map PyData.str)) := toD_lstS (n := 38) ea fun n => dataL_strs cs
  have t2 : toD h 40 (.ref b) = some (.list (cs.map PyData.str)) := toD_lstS (n := 38) eb fun n => dataL_strs cs
  unfold eqOp
  rw [t1, t2]
  simp only
  rw [if_pos (by rw [shaped_strs hc]; rfl)]
  have z : ∀ cs : List Str, PyData.eqvAll (cs.map PyData.str) (cs.map PyData.str) = true := by
    intro cs
    induction cs with
    | nil => rfl
    | cons c r ih => simp [PyData.eqvAll, PyData.eqv, ih]
  simp [PyData.eqv, z]
theorem eq_str {h : IH} {s : Str} (hs : PyData.canLay0 (.str s) = true) : eqOp (.str s) (.str s) h = some true := by
  have t1 : toD h 40 (.str s) = some (.str s) := rfl
  have sh : SeqAt.shaped (.str s) = true := by first | exact hs | simpa [SeqAt.shaped] using hs | (unfold SeqAt.shaped; simp [hs, PyData.depth])
  unfold eqOp
  simp only [t1, sh]
  simp [PyData.eqv]
theorem repr_bl {h : IH} {b : Bool} : bifn .repr [.bl b] h = some (.val (.str (PyData.bool b).shown) h) :=
  repr_of rfl (by rw [sizeLine_eq]; cases b <;> decide +kernel)
theorem lay_bl {b : Bool} : PyData.canLay0 (.str (PyData.bool b).shown) = true := by cases b <;> decide +kernel
theorem lay_no : PyData.canLay0 (.str "no") = true := by decide +kernel
/-- what the law tries -/
structure TV (h : IH) (v : V) : Prop where
  kind : (∃ s, v = .str s ∧ SOk s) ∨ ∃ B, tyOf h v = some (.b B) ∧ B ≠ .str
  rp : ∃ r : Str, PyData.canLay0 (.str r) = true ∧ ∀ g, bifn .repr [v] (h ++ g) = some (.val (.str r) (h ++ g))
theorem OV.tv {h : IH} {v : V} (o : OV h v) : TV h v := ⟨o.kind.imp (fun ⟨s, a, b, _⟩ => ⟨s, a, b⟩) id, o.rp⟩
theorem TV.app {h g : IH} {v : V} (o : TV h v) : TV (h ++ g) v :=
  ⟨o.kind.imp id fun ⟨B, e, hB⟩ => ⟨B, ty_app e, hB⟩, let ⟨r, h1, h2⟩ := o.rp; ⟨r, h1, fun g' => by rw [List.append_assoc]; exact h2 _⟩⟩
/-- the answers on one value -/
theorem said {h : IH} {v : V} (o : TV h v) : ∃ b : Bool, (∃ g, Cn 7 22 [v] h = some (.val (.bl b) (h ++ g))) ∧ (∀ h0 : IH, ∃ g, Cn 7 9 [v] (h ++ h0) = some (.val (.bl b) (h ++ h0 ++ g))) ∧
    (b = true → (∃ s, v = .str s ∧ SOk s) ∧ ∀ h0 : IH, ∃ g, Cn 7 23 [v] (h ++ h0) = some (.val v (h ++ h0 ++ g))) ∧
    (b = false → ∃ r : Str, PyData.canLay0 (.str r) = true ∧ (∀ g, bifn .repr [v] (h ++ g) = some (.val (.str r) (h ++ g))) ∧ ∀ h0 : IH, ∃ g p, Cn 7 23 [v] (h ++ h0) = some (.val (.ref p) (h ++ h0 ++ g)) ∧ (h ++ h0 ++ g)[p]? = some (.lst [.str "no", .str r])) := by
  obtain ⟨r, hr, hrp⟩ := o.rp
  rcases o.kind with ⟨s, rfl, so⟩ | ⟨B, e, hB⟩
  · refine ⟨okS s, law22_str (k := 6) so, fun h0 => ?_, fun ok => ⟨⟨s, rfl, so⟩, fun h0 => made_ok (k := 4) so.sz ok⟩, fun ok => ⟨r, hr, hrp, fun h0 => made_no (k := 4) (fun g => by rw [List.append_assoc]; exact hrp _) (.inl ⟨s, rfl, so.sz, ok⟩)⟩⟩
    obtain ⟨g, eg⟩ := is_text_str (k := 5) (h := h ++ h0) so.sz
    exact ⟨g, istext9 (k := 5) eg⟩
  · refine ⟨false, ⟨[], by simpa using law22_non (k := 6) e hB⟩, fun h0 => ⟨[], ?_⟩, fun z => by simp at z, fun _ => ⟨r, hr, hrp, fun h0 => made_no (k := 4) (fun g => by rw [List.append_assoc]; exact hrp _) (.inr ⟨B, ty_app e, hB⟩)⟩⟩
    exact istext9 (k := 5) (by simpa using is_text_non (k := 5) (ty_app (g := h0) e) hB)
end K02
end
section
set_option Elab.async false
set_option linter.all false
set_option maxRecDepth 100000
set_option maxHeartbeats 1000000
set_option pp.maxSteps 60
namespace K02
open PySem MP
open L2 (V St Hp)
/-- the second loop's body, the turn's body, the turn's checks -/
def for2 : MS := (match f26.body with
  | .cons _ (.cons s _) => s
  | _ => .brk)
def cellB : MB := (match for2 with
  | .forS _ _ b => b
  | _ => .nil)
def turnB : MB := (match cellB with
  | .cons _ (.cons (.forS _ _ b) _) => b
  | _ => .nil)
def chkB : MB := (match turnB with
  | .cons _ b => b
  | _ => .nil)
theorem ne_of {h : IH} {x y : V} {b : Bool} (e : eqOp x y h = some b) : cmpop .NotEq x y h = some (.val (.bl (!b)) h) := by simp only [cmpop, e]
theorem chk_run {h : IH} {v : V} {a0 a2 a3 a4 a5 a6 a7 a8 a9 a10 : Option V} (o : TV h v) : ∃ b g, evB (gof Γ0 (Cn 7)) 0 none chkB [a0, some v, a2, a3, a4, a5, a6, a7, a8, a9, a10] h = some (.ok (.nx [a0, some v, a2, a3, a4, a5, some (.bl b), a7, a8, a9, a10]) (h ++ g)) := by
  obtain ⟨b, ⟨g1, e22⟩, e9, ht, hf⟩ := said o
  cases b with
  | true =>
    obtain ⟨⟨s, rfl, so⟩, h23⟩ := ht rfl
    obtain ⟨g2, e23⟩ := h23 g1
    obtain ⟨g3, e9⟩ := e9 (g1 ++ g2)
    simp only [List.append_assoc] at e23 e9
    refine ⟨true, g1 ++ (g2 ++ g3), ?_⟩
    have c1 := ne_of (eq_str (h := h ++ (g1 ++ g2)) (lay_str so))
    have c2 := ne_of (eq_str (h := h ++ (g1 ++ (g2 ++ g3))) (lay_bl (b := true)))
    simp [chkB, turnB, cellB, for2, f26, evB, evS, e_call, evA, e_var, slotV, v1, v4, v6, v15, v16, v18, asgT, e22, e_cmp, e_ife, e23, c1, e_bi, e_clm, show Γ0.cmeth 3 4 = some (9, false) from rfl, e9, repr_bl, c2]
  | false =>
    obtain ⟨r, hr, hrp, h23⟩ := hf rfl
    obtain ⟨g2, p, e23, ep⟩ := h23 g1
    simp only [List.append_assoc] at e23 ep
    obtain ⟨g3, e9⟩ := e9 (g1 ++ (g2 ++ [.lst [.str "no", .str r]]))
    simp only [List.append_assoc] at e9
    refine ⟨false, g1 ++ (g2 ++ ([.lst [.str "no", .str r]] ++ g3)), ?_⟩
    have ep2 : (h ++ (g1 ++ (g2 ++ [.lst [.str "no", .str r]])))[p]? = some (.lst ([("no" : Str), r].map V.str)) := by
      have := app_get (g := [.lst [.str "no", .str r]]) ep
      simpa using this
    have eq2 : (h ++ (g1 ++ (g2 ++ [.lst [.str "no", .str r]])))[(h ++ (g1 ++ g2)).length]? = some (.lst ([("no" : Str), r].map V.str)) := by
      have : h ++ (g1 ++ (g2 ++ [.lst [.str "no", .str r]])) = (h ++ (g1 ++ g2)) ++ [MP.IO.lst [.str "no", .str r]] := by simp
      rw [this]
      simp
    have c1 := ne_of (eq_strs ep2 eq2 (by simp [lay_no, hr]))
    have c2 := ne_of (eq_str (h := h ++ (g1 ++ (g2 ++ ([.lst [.str "no", .str r]] ++ g3)))) (lay_bl (b := false)))
    have r1 := hrp (g1 ++ g2)
    have nl : listV [.str "no", .str r] (h ++ (g1 ++ g2)) = some (.val (.ref (h ++ (g1 ++ g2)).length) (h ++ (g1 ++ (g2 ++ [.lst [.str "no", .str r]])))) := by
      simp [listV, z2, v17]
    clear ht hf hrp h23 ep2 eq2 ep
    generalize h ++ (g1 ++ (g2 ++ ([MP.IO.lst [.str "no", .str r]] ++ g3))) = H3 at *
    generalize h ++ (g1 ++ (g2 ++ [MP.IO.lst [.str "no", .str r]])) = H2 at *
    generalize h ++ (g1 ++ g2) = H1 at *
    simp [chkB, turnB, cellB, for2, f26, evB, evS, e_call, evA, e_var, slotV, v1, v4, v6, v15, v16, v18, asgT, e22, e_cmp, e_ife, e23, e_bi, e_lst, e_cst, r1, nl, c1, e_clm, show Γ0.cmeth 3 4 = some (9, false) from rfl, e9, repr_bl, c2]
end K02
end
section
set_option Elab.async false
set_option linter.all false
set_option maxRecDepth 100000
set_option maxHeartbeats 1000000
set_option pp.maxSteps 60
namespace K02
open PySem MP
open L2 (V St Hp)
theorem cut24 (l : List V) (n : Nat) (hn : l.length = 24) : ∀ t : Nat, t < 4 → L2.cutV l (some ((4 : Int) + 4 * (t : Int))) none = l.drop (4 + 4 * t) := by
  intro t ht
  match l, hn with
  | [a0, a1, a2, a3, a4, a5, a6, a7, a8, a9, a10, a11, a12, a13, a14, a15, a16, a17, a18, a19, a20, a21, a22, a23], _ =>
    rcases t with _ | _ | _ | _ | t
    · rfl
    · rfl
    · rfl
    · rfl
    · omega
theorem at24 {l : List Int} {n : Nat} (hn : l.length = 24) (h : n < 24) : ∃ d, L2.atI (l.map V.int) (n : Int) = some (.int d) := by
  refine ⟨l[n]'(by omega), ?_⟩
  unfold L2.atI L2.ixN
  rw [if_pos (by omega), if_pos (by simp; omega)]
  simp [List.getElem?_eq_getElem (show n < l.length by omega)]
theorem drop24 {l : List Int} {t : Nat} (hn : l.length = 24) (h : t < 4) : ∃ d0 d1 d2 d3 r, (l.map V.int).drop (4 + 4 * t) = .int d0 :: .int d1 :: .int d2 :: .int d3 :: r := by
  match l, hn with
  | [a0, a1, a2, a3, a4, a5, a6, a7, a8, a9, a10, a11, a12, a13, a14, a15, a16, a17, a18, a19, a20, a21, a22, a23], _ =>
    rcases t with _ | _ | _ | _ | t
    · exact ⟨_, _, _, _, _, rfl⟩
    · exact ⟨_, _, _, _, _, rfl⟩
    · exact ⟨_, _, _, _, _, rfl⟩
    · exact ⟨_, _, _, _, _, rfl⟩
    · omega
end K02
end
section
set_option Elab.async false
set_option linter.all false
set_option maxRecDepth 100000
set_option maxHeartbeats 1000000
set_option pp.maxSteps 60
namespace K02
open PySem MP
open L2 (V St Hp)
theorem tv_str {h : IH} {s : Str} (g : goodS s = true) : TV h (.str s) := by
  unfold goodS at g
  simp only [Bool.and_eq_true, decide_eq_true_eq] at g
  obtain ⟨⟨⟨⟨g1, g2⟩, g3⟩, g4⟩, g5⟩ := g
  have so : SOk s := sok_of (by simp only [Bool.and_eq_true, decide_eq_true_eq]; exact ⟨g1, g2⟩)
  exact ⟨.inl ⟨s, rfl, so⟩, _, g4, fun g => repr_of (by simp [toD]) (by
    simp only [Bool.and_eq_true, decide_eq_true_eq, Bool.not_eq_true']
    exact ⟨⟨⟨by simp [PyData.showable], by simp [PyData.hasDict]⟩, sz_le g5⟩, by simp [PyData.depth]⟩)⟩
theorem turn_run {h : IH} {p t : Nat} {ds : List Int} {a0 a1 a2 a3 a6 a7 a8 a9 a10 : Option V} (e : h[p]? = some (.lst (ds.map V.int))) (hn : ds.length = 24) (ht : t < 4) :
    ∃ v b g, evB (gof Γ0 (Cn 7)) 0 none turnB [a0, a1, a2, a3, some (.ref p), some (.int t), a6, a7, a8, a9, a10] h = some (.ok (.nx [a0, some v, a2, a3, some (.ref p), some (.int t), some (.bl b), a7, a8, a9, a10]) (h ++ g)) := by
  obtain ⟨d, hd⟩ := at24 hn (show t < 24 by omega)
  obtain ⟨d0, d1, d2, d3, r, hr⟩ := drop24 hn ht
  have ec := cut24 (ds.map V.int) 24 (by simpa using hn) t ht
  rw [hr] at ec
  have gi : getix (.ref p) (.int t) h = some (.val (.int d) h) := get_int e hd
  obtain ⟨v, ov, e20⟩ := odd_run (k := 6) (d := d) (h := h)
  have e1 : (h ++ oddH h.length)[p]? = some (.lst (ds.map V.int)) := app_get e
  generalize hA : h ++ oddH h.length = A at *
  have gs : getsl (.ref p) (some ((4 : Int) + 4 * (t : Int))) none A = some (.val (.ref A.length) (A ++ [.lst (.int d0 :: .int d1 :: .int d2 :: .int d3 :: r)])) := by
    unfold getsl
    simp only [e1, ec]
    rfl
  obtain ⟨s, g2, gs2, e21⟩ := changed_run (k := 6) (p := A.length) (d0 := d0) (d1 := d1) (d2 := d2) (d3 := d3) (r := r) (h := A ++ [.lst (.int d0 :: .int d1 :: .int d2 :: .int d3 :: r)]) (by simp)
  generalize hB : A ++ [.lst (.int d0 :: .int d1 :: .int d2 :: .int d3 :: r)] = B at *
  have nl : listV [v, .str s] (B ++ g2) = some (.val (.ref (B ++ g2).length) (B ++ g2 ++ [.lst [v, .str s]])) := by simp [listV, z2, v17]
  obtain ⟨w, tw, ew⟩ : ∃ w, TV (B ++ g2 ++ [.lst [v, .str s]]) w ∧ getix (.ref (B ++ g2).length) (.int ((t : Int) % 2)) (B ++ g2 ++ [.lst [v, .str s]]) = some (.val w (B ++ g2 ++ [.lst [v, .str s]])) := by
    have hx : (B ++ g2 ++ [MP.IO.lst [v, .str s]])[(B ++ g2).length]? = some (.lst [v, .str s]) := by simp
    have hm : (t : Int) % 2 = 0 ∨ (t : Int) % 2 = 1 := by omega
    rcases hm with hm | hm
    · refine ⟨v, ?_, by rw [hm]; exact get_int hx rfl⟩
      rw [← hB]
      simp only [List.append_assoc]
      exact ov.tv.app
    · exact ⟨.str s, tv_str gs2, by rw [hm]; exact get_int hx rfl⟩
  obtain ⟨b, g3, ek⟩ := chk_run (a0 := a0) (a2 := a2) (a3 := a3) (a4 := some (.ref p)) (a5 := some (.int t)) (a6 := a6) (a7 := a7) (a8 := a8) (a9 := a9) (a10 := a10) tw
  refine ⟨w, b, oddH h.length ++ ([.lst (.int d0 :: .int d1 :: .int d2 :: .int d3 :: r)] ++ (g2 ++ ([.lst [v, .str s]] ++ g3))), ?_⟩
  have hE : h ++ (oddH h.length ++ ([.lst (.int d0 :: .int d1 :: .int d2 :: .int d3 :: r)] ++ (g2 ++ ([.lst [v, .str s]] ++ g3)))) = B ++ g2 ++ [.lst [v, .str s]] ++ g3 := by
    rw [← hB, ← hA]; simp
  rw [hE]
  have body : turnB = .cons (.asg (.nm 1) (.ix (.lst (.cons (.call 20 (.cons (.ix (.var 4) (.var 5)) .nil)) (.cons (.call 21 (.cons (.sl (.var 4) (.some (.bin .Add (.cst (.int 4)) (.bin .Mult (.cst (.int 4)) (.var 5)))) .none) .nil)) .nil))) (.bin .Mod (.var 5) (.cst (.int 2))))) chkB := rfl
  rw [body]
  have m4 : ∀ {h : IH}, binop .Mult (.int 4) (.int t) h = some (.val (.int (4 * t)) h) := fun {h} => mul_ok (by decide) (by omega)
  have o1 : oneInt none (.int ((4 : Int) + 4 * (t : Int))) A = some (.val (some ((4 : Int) + 4 * (t : Int))) A) := by first | rfl | simp [oneInt]
  generalize B ++ g2 ++ [MP.IO.lst [v, .str s]] = D at *
  generalize B ++ g2 = C at *
  simp [evB, evS, e_ix, e_lst, evA, e_call, e_var, e_cst, slotV, v1, v4, v6, v15, v16, asgT, gi, e20, e_sl, evO, e_bin, m4, add_int, o1, gs, e21, nl, mod_ok (show (0 : Int) < 2 by decide), ew, ek]
end K02
end
section
set_option Elab.async false
set_option linter.all false
set_option maxRecDepth 100000
set_option maxHeartbeats 1000000
set_option pp.maxSteps 60
namespace K02
open PySem MP
open L2 (V St Hp)
theorem turns_run {p : Nat} {ds : List Int} {a0 a2 a3 a7 a8 a9 a10 : Option V} (hn : ds.length = 24) : ∀ (l : List Nat) (h : IH) (a1 a5 a6 : Option V), (∀ t ∈ l, t < 4) → h[p]? = some (.lst (ds.map V.int)) →
    ∃ b1 b5 b6 g, loopF (.nm 5) (evB (gof Γ0 (Cn 7)) 0 none turnB) [] (l.map fun t => (V.int ((t : Nat) : Int), none)) [a0, a1, a2, a3, some (.ref p), a5, a6, a7, a8, a9, a10] h = some (.ok (.nx [a0, b1, a2, a3, some (.ref p), b5, b6, a7, a8, a9, a10]) (h ++ g))
  | [], h, a1, a5, a6, _, _ => ⟨a1, a5, a6, [], by simp [loopF, okG]⟩
  | t :: l, h, a1, a5, a6, hl, e => by
    obtain ⟨v, b, g, et⟩ := turn_run (a0 := a0) (a1 := a1) (a2 := a2) (a3 := a3) (a6 := a6) (a7 := a7) (a8 := a8) (a9 := a9) (a10 := a10) e hn (hl t (by simp))
    obtain ⟨b1, b5, b6, g2, er⟩ := turns_run (a0 := a0) (a2 := a2) (a3 := a3) (a7 := a7) (a8 := a8) (a9 := a9) (a10 := a10) hn l (h ++ g) (some v) (some (.int t)) (some (.bl b)) (fun x hx => hl x (by simp [hx])) (app_get e)
    refine ⟨b1, b5, b6, g ++ g2, ?_⟩
    rw [List.append_assoc] at er
    rw [List.map_cons]
    unfold loopF
    rw [if_pos (by simp [okG])]
    simp only [asgX, asgT]
    have z : List.set [a0, a1, a2, a3, some (.ref p), a5, a6, a7, a8, a9, a10] 5 (some (V.int (t : Int))) = [a0, a1, a2, a3, some (.ref p), some (.int t), a6, a7, a8, a9, a10] := rfl
    first
      | rw [z, et]; exact er
      | simp only [z, et]; exact er
      | simp [et, er]
theorem turnS_run {p : Nat} {h : IH} {ds : List Int} {a0 a1 a2 a3 a5 a6 a7 a8 a9 a10 : Option V} (hn : ds.length = 24) (e : h[p]? = some (.lst (ds.map V.int))) :
    ∃ b1 b5 b6 g, evS (gof Γ0 (Cn 7)) 0 none (.forS (.nm 5) (.rng1 (.cst (.int 4))) turnB) [a0, a1, a2, a3, some (.ref p), a5, a6, a7, a8, a9, a10] h = some (.ok (.nx [a0, b1, a2, a3, some (.ref p), b5, b6, a7, a8, a9, a10]) (h ++ g)) := by
  obtain ⟨b1, b5, b6, g, el⟩ := turns_run (a0 := a0) (a2 := a2) (a3 := a3) (a7 := a7) (a8 := a8) (a9 := a9) (a10 := a10) hn [0, 1, 2, 3] h a1 a5 a6 (by decide) e
  refine ⟨b1, b5, b6, g, ?_⟩
  simp only [evS, evI, e_cst, v1, v16]
  exact el
/-- the body of the loop over the odd letters -/
def oddB : MB := (match cellB with
  | .cons _ (.cons _ (.cons _ (.cons (.forS _ _ b) _))) => b
  | _ => .nil)
theorem toD3 {h : IH} {a x y z : Nat} {s r : Str} (e : h[a]? = some (.lst [.ref x, .ref y, .ref z])) (ex : h[x]? = some (.lst [.str s, .str r])) (ey : h[y]? = some (.lst [.str s, .str r])) (ez : h[z]? = some (.lst [.str s, .str r])) : toD h 40 (.ref a) = some (.list [.list [.str s, .str r], .list [.str s, .str r], .list [.str s, .str r]]) := by
  have t : ∀ w : Nat, h[w]? = some (.lst [.str s, .str r]) → toD h 39 (.ref w) = some (.list [.str s, .str r]) := fun w ew => toD_lstS (n := 37) (cs := [s, r]) ew fun n => dataL_strs [s, r]
  rw [toD_lst (n := 39) e]
  simp only [dataL, t x ex, t y ey, t z ez]
  rfl
theorem eq_3 {h : IH} {a b : Nat} {s r : Str} (hs : PyData.canLay0 (.str s) = true) (hr : PyData.canLay0 (.str r) = true) (ea : toD h 40 (.ref a) = some (.list [.list [.str s, .str r], .list [.str s, .str r], .list [.str s, .str r]])) (eb : toD h 40 (.ref b) = some (.list [.list [.str s, .str r], .list [.str s, .str r], .list [.str s, .str r]])) : eqOp (.ref a) (.ref b) h = some true := by
  unfold eqOp
  rw [ea, eb]
  have sh : SeqAt.shaped (.list [.list [.str s, .str r], .list [.str s, .str r], .list [.str s, .str r]]) = true := by
    simp only [PyData.canLay0] at hs hr
    simp [SeqAt.shaped, PyData.canLay0, PyData.canLayAll0, PyData.depth, PyData.depthAll, hs, hr]
  simp only [sh]
  simp [PyData.eqv, PyData.eqvAll]
theorem no_lst {h : IH} {r : Str} : listV [.str "no", .str r] h = some (.val (.ref h.length) (h ++ [.lst [.str "no", .str r]])) := by simp [listV, z2, v17]
theorem g2nd {h : IH} {a b : MP.IO} : (h ++ [a, b])[h.length + 1]? = some b := by
  rw [List.getElem?_append_right (by omega)]
  simp [show h.length + 1 - h.length = 1 from by omega]
theorem odd_step {h : IH} {q : Nat} {fs : List (Nat × V)} {v : V} {a0 a1 a2 a3 a4 a5 a6 a9 a10 : Option V} (ho : h[0]? = some (.tup [.str "T", .str "L"] true)) (eq : h[q]? = some (.ins 3 fs)) (o : OV h v) :
    ∃ b g, evB (gof Γ0 (Cn 7)) 0 none oddB [a0, a1, a2, a3, a4, a5, a6, some (.ref q), some v, a9, a10] h = some (.ok (.nx [a0, a1, a2, a3, a4, a5, a6, some (.ref q), some v, some b, a10]) (h ++ g)) := by
  have nl : ∀ {h : IH}, OV h v → NoLet h v := fun o => o.kind.imp (fun ⟨s, a, _, b, c⟩ => ⟨s, a, b, c⟩) id
  obtain ⟨r, hr, hrp⟩ := o.rp
  have one : ∀ {A : IH} {l w : V}, (∃ g0, A = h ++ g0) → Cn 6 16 [.ref q, l, w] A = some (.exn 1 (A.length + 1) (A ++ [.tup [l, w], .xd 0 v])) → ∃ g x, Cn 7 24 [.ref q, l, w] A = some (.val (.ref x) (A ++ g)) ∧ (A ++ g)[x]? = some (.lst [.str "no", .str r]) := by
    intro A l w hA e16
    obtain ⟨g0, hA⟩ := hA
    have eqA : A[q]? = some (.ins 3 fs) := by rw [hA]; exact app_get eq
    have hrA : bifn .repr [v] (A ++ [.tup [l, w], .xd 0 v]) = some (.val (.str r) (A ++ [.tup [l, w], .xd 0 v])) := by
      rw [hA, List.append_assoc]; exact hrp _
    have c := called_ok (k := 5) eqA e16 (v := v) (rp := r) g2nd hrA
    refine ⟨[.tup [l, w], .xd 0 v] ++ [.lst [.str "no", .str r]], (A ++ [MP.IO.tup [l, w], MP.IO.xd 0 v]).length, ?_, ?_⟩
    · rw [← List.append_assoc]; exact c
    · rw [← List.append_assoc]
      simp
  obtain ⟨g1, x, c1, ex⟩ := one (A := h) (l := v) (w := .str "T") ⟨[], by simp⟩ (call16_l (k := 5) ho (nl o))
  obtain ⟨g2, y, c2, ey⟩ := one (A := h ++ g1) (l := .str "L") (w := v) ⟨g1, rfl⟩ (call16_r (k := 5) (app_get ho) (nl o.app))
  obtain ⟨g3, z, c3, ez⟩ := one (A := h ++ g1 ++ g2) (l := v) (w := .non) ⟨g1 ++ g2, by simp⟩ (call16_l (k := 5) (app_get (app_get ho)) (nl o.app.app))
  have ex := app_get (g := g3) (app_get (g := g2) ex)
  have ey := app_get (g := g3) ey
  have ro := hrp (g1 ++ g2 ++ g3 ++ [.lst [.ref x, .ref y, .ref z]])
  simp only [← List.append_assoc] at ro
  generalize hB : h ++ g1 = B at *
  generalize hC : B ++ g2 = C at *
  generalize hD : C ++ g3 = D at *
  have l3 : listV [.ref x, .ref y, .ref z] D = some (.val (.ref D.length) (D ++ [.lst [.ref x, .ref y, .ref z]])) := by simp [listV, v17, show (3 : Nat) ≤ sizeLine from sz_le (by decide)]
  have eD : (D ++ [MP.IO.lst [.ref x, .ref y, .ref z]])[D.length]? = some (.lst [.ref x, .ref y, .ref z]) := by simp
  have ex := app_get (g := [.lst [.ref x, .ref y, .ref z]]) ex
  have ey := app_get (g := [.lst [.ref x, .ref y, .ref z]]) ey
  have ez := app_get (g := [.lst [.ref x, .ref y, .ref z]]) ez
  generalize hE : D ++ [MP.IO.lst [.ref x, .ref y, .ref z]] = E at *
  have n1 := no_lst (h := E) (r := r)
  have eF : (E ++ [MP.IO.lst [.str "no", .str r]])[E.length]? = some (.lst [.str "no", .str r]) := by simp
  have ex := app_get (g := [.lst [.str "no", .str r]]) ex
  have ey := app_get (g := [.lst [.str "no", .str r]]) ey
  have ez := app_get (g := [.lst [.str "no", .str r]]) ez
  have eD := app_get (g := [.lst [.str "no", .str r]]) eD
  generalize hF : E ++ [MP.IO.lst [.str "no", .str r]] = F at *
  have l1 : listV [.ref E.length] F = some (.val (.ref F.length) (F ++ [.lst [.ref E.length]])) := by simp [listV, v17, show (1 : Nat) ≤ sizeLine from sz_le (by decide)]
  have ex := app_get (g := [.lst [.ref E.length]]) ex
  have ey := app_get (g := [.lst [.ref E.length]]) ey
  have ez := app_get (g := [.lst [.ref E.length]]) ez
  have eD := app_get (g := [.lst [.ref E.length]]) eD
  have eF := app_get (g := [.lst [.ref E.length]]) eF
  have eG : (F ++ [MP.IO.lst [.ref E.length]])[F.length]? = some (.lst [.ref E.length]) := by simp
  generalize hG : F ++ [MP.IO.lst [.ref E.length]] = G at *
  have ml : binop .Mult (.ref F.length) (.int 3) G = some (.val (.ref G.length) (G ++ [.lst [.ref E.length, .ref E.length, .ref E.length]])) := by
    unfold binop
    simp only [eG]
    rw [if_pos ⟨by decide, by decide, sz_le (show 1 * 3 ≤ 16777216 by decide)⟩]
    rfl
  have ex := app_get (g := [.lst [.ref E.length, .ref E.length, .ref E.length]]) ex
  have ey := app_get (g := [.lst [.ref E.length, .ref E.length, .ref E.length]]) ey
  have ez := app_get (g := [.lst [.ref E.length, .ref E.length, .ref E.length]]) ez
  have eD := app_get (g := [.lst [.ref E.length, .ref E.length, .ref E.length]]) eD
  have eF := app_get (g := [.lst [.ref E.length, .ref E.length, .ref E.length]]) eF
  have eH : (G ++ [MP.IO.lst [.ref E.length, .ref E.length, .ref E.length]])[G.length]? = some (.lst [.ref E.length, .ref E.length, .ref E.length]) := by simp
  have cq := ne_of (eq_3 lay_no hr (toD3 eD ex ey ez) (toD3 eH eF eF eF))
  refine ⟨.ref D.length, g1 ++ (g2 ++ (g3 ++ ([.lst [.ref x, .ref y, .ref z]] ++ ([.lst [.str "no", .str r]] ++ ([.lst [.ref E.length]] ++ [.lst [.ref E.length, .ref E.length, .ref E.length]]))))), ?_⟩
  have hE2 : h ++ (g1 ++ (g2 ++ (g3 ++ ([.lst [.ref x, .ref y, .ref z]] ++ ([.lst [.str "no", .str r]] ++ ([.lst [.ref E.length]] ++ [.lst [.ref E.length, .ref E.length, .ref E.length]])))))) = G ++ [MP.IO.lst [.ref E.length, .ref E.length, .ref E.length]] := by
    conv => rhs; rw [← hG, ← hF]
    conv => rhs; arg 1; arg 1; arg 1; rw [← hE, ← hD, ← hC, ← hB]
    simp
  rw [hE2]
  generalize G ++ [MP.IO.lst [.ref E.length, .ref E.length, .ref E.length]] = K at *
  clear hE2 hG hF hE hD hC hB one
  simp [oddB, cellB, for2, f26, evB, evS, e_lst, evA, e_call, e_var, e_cst, slotV, v1, v4, v6, v15, v16, v18, asgT, c1, c2, c3, l3, e_cmp, e_bi, ro, n1, l1, e_bin, ml, cq]
end K02
end
section
set_option Elab.async false
set_option linter.all false
set_option maxRecDepth 100000
set_option maxHeartbeats 1000000
set_option pp.maxSteps 60
namespace K02
open PySem MP
open L2 (V St Hp)
theorem okG_app {h g : IH} {gd : List (Nat × MP.IO)} (ok : okG h gd = true) : okG (h ++ g) gd = true := by
  unfold okG at ok ⊢
  rw [List.all_eq_true] at ok ⊢
  intro p hp
  have z := ok p hp
  have z : h[p.1]? = some p.2 := by simpa using z
  simp [app_get z]
theorem oddL_run {q : Nat} {fs : List (Nat × V)} {gd : List (Nat × MP.IO)} {a0 a1 a2 a3 a4 a5 a6 a10 : Option V} : ∀ (l : List V) (h : IH) (a8 a9 : Option V), okG h gd = true → h[0]? = some (.tup [.str "T", .str "L"] true) → h[q]? = some (.ins 3 fs) → (∀ v ∈ l, OV h v) →
    ∃ b8 b9 g, loopF (.nm 8) (evB (gof Γ0 (Cn 7)) 0 none oddB) gd (l.map fun v => (v, none)) [a0, a1, a2, a3, a4, a5, a6, some (.ref q), a8, a9, a10] h = some (.ok (.nx [a0, a1, a2, a3, a4, a5, a6, some (.ref q), b8, b9, a10]) (h ++ g))
  | [], h, a8, a9, ok, _, _, _ => ⟨a8, a9, [], by simp [loopF, ok]⟩
  | v :: l, h, a8, a9, ok, ho, eq, ov => by
    obtain ⟨b, g, et⟩ := odd_step (a0 := a0) (a1 := a1) (a2 := a2) (a3 := a3) (a4 := a4) (a5 := a5) (a6 := a6) (a9 := a9) (a10 := a10) ho eq (ov v (by simp))
    obtain ⟨b8, b9, g2, er⟩ := oddL_run (gd := gd) (a0 := a0) (a1 := a1) (a2 := a2) (a3 := a3) (a4 := a4) (a5 := a5) (a6 := a6) (a10 := a10) l (h ++ g) (some v) (some b) (okG_app ok) (app_get ho) (app_get eq) (fun x hx => (ov x (by simp [hx])).app)
    refine ⟨b8, b9, g ++ g2, ?_⟩
    rw [List.append_assoc] at er
    rw [List.map_cons]
    unfold loopF
    rw [if_pos ok]
    simp only [asgX, asgT]
    have z : List.set [a0, a1, a2, a3, a4, a5, a6, some (.ref q), a8, a9, a10] 8 (some v) = [a0, a1, a2, a3, a4, a5, a6, some (.ref q), some v, a9, a10] := rfl
    first
      | rw [z, et]; exact er
      | simp only [z, et]; exact er
      | simp [et, er]
/-- a new Statement of four bits -/
theorem okS_txt {t : Nat} (ht : t < 16) : okS (txt t) = true := by
  have : (List.range 16).all (fun t => okS (txt t)) = true := by decide +kernel
  rw [List.all_eq_true] at this
  exact this t (List.mem_range.mpr ht)
theorem make_txt {h : IH} {t : Nat} (ht : t < 16) : ∃ g fs, makeV (gof Γ0 (Cn 7)) 3 [.str (txt t)] h = some (.val (.ref h.length) (h ++ g)) ∧ (h ++ g)[h.length]? = some (.ins 3 fs) := by
  obtain ⟨g, e7⟩ := init_ok (k := 5) (p := h.length) (h := h ++ [.ins 3 []]) (s := txt t) (by show 4 ≤ _; exact z4) (okS_txt ht) (by simp)
  have e3 : (h ++ [MP.IO.ins 3 []] ++ g).set h.length (.ins 3 [(1, .str (txt t))]) = h ++ .ins 3 [(1, .str (txt t))] :: g := by
    simp [List.set_append]
  rw [e3] at e7
  refine ⟨MP.IO.ins 3 [(1, .str (txt t))] :: g, [(1, .str (txt t))], ?_, ?_⟩
  · simp [makeV, v3, v1, show Γ0.init 3 = some 7 from rfl, e7]
  · simp
end K02
end
section
set_option Elab.async false
set_option linter.all false
set_option maxRecDepth 100000
set_option maxHeartbeats 1000000
set_option pp.maxSteps 60
namespace K02
open PySem MP
open L2 (V St Hp)
def lets (v : V) (n : Nat) : List V := [v, .str "t", .str "l", .str "TL", .str "", .str " T", .non, .int 1, .ref n, .ref (n + 1)]
theorem lets_ok {A : IH} {v : V} {g : IH} (o : OV A v) : ∀ w ∈ lets v A.length, OV (A ++ ([.lst [.str "T"], .tup [.str "L"] false] ++ g)) w := by
  have e1 : (A ++ ([MP.IO.lst [.str "T"], .tup [.str "L"] false] ++ g))[A.length]? = some (.lst [.str "T"]) := by simp
  have e2 : (A ++ ([MP.IO.lst [.str "T"], .tup [.str "L"] false] ++ g))[A.length + 1]? = some (.tup [.str "L"] false) := by
    rw [List.getElem?_append_right (by omega)]; simp [show A.length + 1 - A.length = 1 from by omega]
  intro w hw
  simp only [lets, List.mem_cons, List.not_mem_nil, or_false] at hw
  rcases hw with rfl | rfl | rfl | rfl | rfl | rfl | rfl | rfl | rfl | rfl
  · exact o.app
  · exact ov_str (sok_of (by decide +kernel)) (by decide +kernel) (by decide +kernel) (by decide +kernel) (by decide +kernel)
  · exact ov_str (sok_of (by decide +kernel)) (by decide +kernel) (by decide +kernel) (by decide +kernel) (by decide +kernel)
  · exact ov_str (sok_of (by decide +kernel)) (by decide +kernel) (by decide +kernel) (by decide +kernel) (by decide +kernel)
  · exact ov_str (sok_of (by decide +kernel)) (by decide +kernel) (by decide +kernel) (by decide +kernel) (by decide +kernel)
  · exact ov_str (sok_of (by decide +kernel)) (by decide +kernel) (by decide +kernel) (by decide +kernel) (by decide +kernel)
  · exact ov_flat (d := .none) (B := .non) (fun _ => rfl) (by decide) (fun _ => rfl) (by decide +kernel) (by decide +kernel)
  · exact ov_flat (d := .int 1) (B := .int) (fun _ => rfl) (by decide) (fun _ => rfl) (by decide +kernel) (by decide +kernel)
  · exact ov_lst (cs := ["T"]) e1 (by decide +kernel) (by decide +kernel)
  · exact ov_tup (cs := ["L"]) e2 (by decide +kernel) (by decide +kernel)
theorem cell_run {h : IH} {k c : Int} {a0 a1 a4 a5 a6 a7 a8 a9 a10 : Option V} (ho : h[0]? = some (.tup [.str "T", .str "L"] true)) (hk : 0 ≤ k ∧ k ≤ 7) :
    ∃ b1 b4 b5 b6 b7 b8 b9 g, evB (gof Γ0 (Cn 7)) 0 none cellB [a0, a1, some (.int k), some (.int c), a4, a5, a6, a7, a8, a9, a10] h = some (.ok (.nx [a0, b1, some (.int k), some (.int c), b4, b5, b6, b7, b8, b9, a10]) (h ++ g)) := by
  let z : IH := [.lst [.int 420], .lst (List.replicate 24 (.int 420))]
  have n1 : ∀ {h : IH}, listV [.int 420] h = some (.val (.ref h.length) (h ++ [.lst [.int 420]])) := by intro h; simp [listV, v17, show (1 : Nat) ≤ sizeLine from sz_le (by decide)]
  have m1 : binop .Mult (.ref h.length) (.int 24) (h ++ [.lst [.int 420]]) = some (.val (.ref (h.length + 1)) (h ++ z)) := by
    unfold binop
    have e : (h ++ [MP.IO.lst [.int 420]])[h.length]? = some (.lst [.int 420]) := by simp
    simp only [e]
    rw [if_pos ⟨by decide, by decide, sz_le (show 1 * 24 ≤ 16777216 by decide)⟩]
    show some (Out.val (V.ref (h ++ [MP.IO.lst [.int 420]]).length) (h ++ [.lst [.int 420]] ++ [.lst (List.replicate 24 (.int 420))])) = _
    simp [z]
  obtain ⟨ds, hn, e19⟩ := numbers_run (k := 6) (p := h.length + 1) (h := h ++ z) (c := c) (s := 200 + k) (by omega) g2nd
  have ed : (h ++ z ++ [.lst (ds.map V.int)])[(h ++ z).length]? = some (.lst (ds.map V.int)) := by simp
  have hoA : (h ++ z ++ [.lst (ds.map V.int)])[0]? = some (.tup [.str "T", .str "L"] true) := app_get (app_get ho)
  generalize hp : (h ++ z).length = p at *
  generalize hA : h ++ z ++ [.lst (ds.map V.int)] = A at *
  obtain ⟨b1, b5, b6, g1, et⟩ := turnS_run (a0 := a0) (a1 := a1) (a2 := some (.int k)) (a3 := some (.int c)) (a5 := a5) (a6 := a6) (a7 := a7) (a8 := a8) (a9 := a9) (a10 := a10) hn ed
  have ed := app_get (g := g1) ed
  have hoB := app_get (g := g1) hoA
  generalize hB : A ++ g1 = B at *
  obtain ⟨d20, h20⟩ := at24 hn (show 20 < 24 by decide)
  obtain ⟨d21, h21⟩ := at24 hn (show 21 < 24 by decide)
  obtain ⟨t, g2, ht, eb⟩ := bits_join (k := 7) (σ := [a0, b1, some (.int k), some (.int c), some (.ref p), b5, b6, a7, a8, a9, a10]) (i := 4) (w := 10) (ix := 20) ed h20 rfl (show (10 : Nat) < 11 by decide) (by decide)
  have ed := app_get (g := g2) ed
  have hoC := app_get (g := g2) hoB
  generalize hC : B ++ g2 = C at *
  obtain ⟨g3, fs, em, eq⟩ := make_txt (h := C) ht
  have ed := app_get (g := g3) ed
  have hoD := app_get (g := g3) hoC
  generalize hq : C.length = q at *
  generalize hD : C ++ g3 = D at *
  have gi : getix (.ref p) (.int 21) D = some (.val (.int d21) D) := get_int ed h21
  obtain ⟨v, ov, e20⟩ := odd_run (k := 6) (d := d21) (h := D)
  have hoE := app_get (g := oddH D.length) hoD
  have eq := app_get (g := oddH D.length) eq
  generalize hE : D ++ oddH D.length = E at *
  have l1 : listV [.str "T"] E = some (.val (.ref E.length) (E ++ [.lst [.str "T"]])) := by simp [listV, v17, show (1 : Nat) ≤ sizeLine from sz_le (by decide)]
  have t1 : tupV [.str "L"] (E ++ [.lst [.str "T"]]) = some (.val (.ref (E.length + 1)) (E ++ [.lst [.str "T"], .tup [.str "L"] false])) := by simp [tupV, v17, show (1 : Nat) ≤ sizeLine from sz_le (by decide)]
  have l2 : listV (lets v E.length) (E ++ [.lst [.str "T"], .tup [.str "L"] false]) = some (.val (.ref (E.length + 2)) (E ++ ([.lst [.str "T"], .tup [.str "L"] false] ++ [.lst (lets v E.length)]))) := by simp [lets, listV, v17, show (10 : Nat) ≤ sizeLine from sz_le (by decide)]
  have ok := lets_ok (g := [.lst (lets v E.length)]) ov
  have eF : (E ++ ([.lst [.str "T"], .tup [.str "L"] false] ++ [.lst (lets v E.length)]))[E.length + 2]? = some (.lst (lets v E.length)) := by
    rw [List.getElem?_append_right (by omega)]; simp [show E.length + 2 - E.length = 2 from by omega]
  have hoF := app_get (g := [.lst [.str "T"], .tup [.str "L"] false] ++ [.lst (lets v E.length)]) hoE
  have eqF := app_get (g := [.lst [.str "T"], .tup [.str "L"] false] ++ [.lst (lets v E.length)]) eq
  generalize hF : E ++ ([.lst [.str "T"], .tup [.str "L"] false] ++ [.lst (lets v E.length)]) = F at *
  obtain ⟨b8, b9, g4, el⟩ := oddL_run (gd := [(E.length + 2, .lst (lets v E.length))]) (a0 := a0) (a1 := b1) (a2 := some (.int k)) (a3 := some (.int c)) (a4 := some (.ref p)) (a5 := b5) (a6 := b6) (a10 := a10) (lets v E.length) F a8 a9 (by simp [okG, eF]) hoF eqF ok
  refine ⟨b1, some (.ref p), b5, b6, some (.ref q), b8, b9, z ++ ([.lst (ds.map V.int)] ++ (g1 ++ (g2 ++ (g3 ++ (oddH D.length ++ (([.lst [.str "T"], .tup [.str "L"] false] ++ [.lst (lets v E.length)]) ++ g4)))))), ?_⟩
  have hZ : h ++ (z ++ ([.lst (ds.map V.int)] ++ (g1 ++ (g2 ++ (g3 ++ (oddH D.length ++ (([.lst [.str "T"], .tup [.str "L"] false] ++ [.lst (lets v E.length)]) ++ g4))))))) = F ++ g4 := by
    subst hF hE hq hD hC hB hA
    simp only [List.append_assoc]
  rw [hZ]
  have it : evV (.ref (E.length + 2)) F = some (.val ⟨(lets v E.length).map (·, none), [(E.length + 2, .lst (lets v E.length))]⟩ F) := by simp [evV, itsOf, eF]
  have body : cellB = .cons (.asg (.nm 4) (.call 19 (.cons (.var 3) (.cons (.bin .Add (.cst (.int 200)) (.var 2)) (.cons (.bin .Mult (.lst (.cons (.cst (.int 420)) .nil)) (.cst (.int 24))) .nil))))) (.cons (.forS (.nm 5) (.rng1 (.cst (.int 4))) turnB) (.cons (.asg (.nm 7) (.make 3 (.cons (.bm .join (.cst (.str "")) (.cons (.lc [10] (.ix (.cst (.str "01")) (.bin .Mod (.bin .FloorDiv (.ix (.var 4) (.cst (.int 20))) (.var 10)) (.cst (.int 2)))) (.nm 10) (.ev (.lst (.cons (.cst (.int 1)) (.cons (.cst (.int 2)) (.cons (.cst (.int 4)) (.cons (.cst (.int 8)) .nil)))))) .none) .nil)) .nil))) (.cons (.forS (.nm 8) (.ev (.lst (.cons (.call 20 (.cons (.ix (.var 4) (.cst (.int 21))) .nil)) (.cons (.cst (.str "t")) (.cons (.cst (.str "l")) (.cons (.cst (.str "TL")) (.cons (.cst (.str "")) (.cons (.cst (.str " T")) (.cons (.cst .non) (.cons (.cst (.int 1)) (.cons (.lst (.cons (.cst (.str "T")) .nil)) (.cons (.tup (.cons (.cst (.str "L")) .nil)) .nil)))))))))))) oddB) .nil))) := rfl
  rw [body]
  clear hZ hF hE hq hD hC hB hA ok
  simp only [lets] at l2
  rw [evB]
  generalize oddB = OB at *
  generalize turnB = TB at *
  simp [evS, evI, e_cst, v1, v16] at et
  simp [evS, evB, e_call, evA, e_var, slotV, e_bin, e_cst, e_lst, e_tup, v1, v4, v6, v15, v16, asgT, add_int, n1, m1, e19, et, e_make, eb, em, evI, e_ix, gi, e20, l1, t1, l2, it, el]
end K02
end
section
set_option Elab.async false
set_option linter.all false
set_option maxRecDepth 100000
set_option maxHeartbeats 1000000
set_option pp.maxSteps 60
namespace K02
open PySem MP
open L2 (V St Hp)
theorem cells_run {gd : List (Nat × MP.IO)} {a0 a10 : Option V} : ∀ (l : List Int) (n : Nat) (h : IH) (a1 a2 a3 a4 a5 a6 a7 a8 a9 : Option V), n + l.length ≤ 8 → okG h gd = true → h[0]? = some (.tup [.str "T", .str "L"] true) →
    ∃ σ g, loopF (.tup (.cons (.nm 2) (.cons (.nm 3) .nil))) (evB (gof Γ0 (Cn 7)) 0 none cellB) gd (enumOf n (l.map V.int)) [a0, a1, a2, a3, a4, a5, a6, a7, a8, a9, a10] h = some (.ok (.nx σ) (h ++ g))
  | [], n, h, a1, a2, a3, a4, a5, a6, a7, a8, a9, _, ok, _ => ⟨_, [], by simp [loopF, ok, enumOf]; rfl⟩
  | c :: l, n, h, a1, a2, a3, a4, a5, a6, a7, a8, a9, hn, ok, ho => by
    simp only [List.length_cons] at hn
    obtain ⟨b1, b4, b5, b6, b7, b8, b9, g, et⟩ := cell_run (k := n) (c := c) (a0 := a0) (a1 := a1) (a4 := a4) (a5 := a5) (a6 := a6) (a7 := a7) (a8 := a8) (a9 := a9) (a10 := a10) ho (by omega)
    obtain ⟨σ, g2, er⟩ := cells_run (gd := gd) (a0 := a0) (a10 := a10) l (n + 1) (h ++ g) b1 (some (.int n)) (some (.int c)) b4 b5 b6 b7 b8 b9 (by omega) (okG_app ok) (app_get ho)
    refine ⟨σ, g ++ g2, ?_⟩
    rw [List.append_assoc] at er
    rw [List.map_cons]
    unfold enumOf loopF
    rw [if_pos ok]
    have z : asgX (.tup (.cons (.nm 2) (.cons (.nm 3) .nil))) (V.int n, some (V.int c)) [a0, a1, a2, a3, a4, a5, a6, a7, a8, a9, a10] h = some [a0, a1, some (.int n), some (.int c), a4, a5, a6, a7, a8, a9, a10] := by
      first | rfl | simp [asgX, asgT]
    simp only [z, et]
    exact er
end K02
end
section
set_option Elab.async false
set_option linter.all false
set_option maxRecDepth 100000
set_option maxHeartbeats 1000000
set_option pp.maxSteps 60
namespace K02
open PySem MP
open L2 (V St Hp)
theorem dataL_ints {h : IH} {n : Nat} : ∀ cs : List Int, dataL (toD h (n + 1)) (cs.map V.int) = some (cs.map PyData.int)
  | [] => rfl
  | c :: r => by
    have e1 : toD h (n + 1) (.int c) = some (.int c) := by simp [toD]
    have e2 := dataL_ints (h := h) (n := n) r
    simp only [List.map_cons, dataL, e1, e2]
theorem toD_flst {h : IH} {n a : Nat} {xs : List V} (e : h[a]? = some (.flst xs)) : toD h (n + 1) (.ref a) = (dataL (toD h n) xs).map .list := by
  unfold toD
  simp only [e]
theorem shaped_ints {cs : List Int} : SeqAt.shaped (.list (cs.map PyData.int)) = true := by
  have h1 : ∀ cs : List Int, PyData.canLayAll0 (cs.map PyData.int) = true := by
    intro cs
    induction cs with
    | nil => rfl
    | cons c r ih => simp [PyData.canLayAll0, PyData.canLay0, ih]
  have h2 : ∀ cs : List Int, PyData.depthAll (cs.map PyData.int) = 0 := by
    intro cs
    induction cs with
    | nil => rfl
    | cons c r ih => simp [PyData.depthAll, PyData.depth, ih]
  simp [SeqAt.shaped, PyData.canLay0, PyData.depth, h1, h2]
theorem eq_script {h : IH} {a b : Nat} {ns : List Int} (ea : h[a]? = some (.flst (ns.map V.int))) (eb : h[b]? = some (.lst [])) : eqOp (.ref a) (.ref b) h = some ns.isEmpty := by
  have t1 : toD h 40 (.ref a) = some (.list (ns.map PyData.int)) := by rw [toD_flst (n := 39) ea, dataL_ints (n := 38)]; rfl
  have t2 : toD h 40 (.ref b) = some (.list (([] : List Int).map PyData.int)) := by rw [toD_lst (n := 39) eb]; rfl
  unfold eqOp
  rw [t1, t2]
  simp only [shaped_ints]
  cases ns with
  | nil => simp [PyData.eqv, PyData.eqvAll]
  | cons c r => simp [PyData.eqv, PyData.eqvAll]
end K02
end
section
set_option Elab.async false
set_option linter.all false
set_option maxRecDepth 100000
set_option maxHeartbeats 1000000
set_option pp.maxSteps 60
namespace K02
open PySem MP
open L2 (V St Hp)
theorem cut6 (ns : List Int) : L2.cutV (ns.map V.int) none (some 6) = (ns.take 6).map V.int := by
  rw [List.map_take]
  unfold L2.cutV
  simp [HT.sIx]
end K02
end
section
set_option Elab.async false
set_option linter.all false
set_option maxRecDepth 100000
set_option maxHeartbeats 1000000
set_option pp.maxSteps 60
namespace K02
open PySem MP
open L2 (V St Hp)
theorem cells_it {h : IH} {ns : List Int} {σ : St} (e : h[3]? = some (.flst (ns.map V.int))) (hσ : σ[0]? = some (some (.ref 3))) : ∃ (l : List Int) (m : Nat) (g : IH), l.length ≤ 7 ∧ (h ++ g)[m]? = some (.lst (l.map V.int)) ∧
    evE (gof Γ0 (Cn 7)) none false (.bin .Add (.sl (.var 0) .none (.some (.cst (.int 6)))) (.bin .Mult (.lst (.cons (.cst (.int 7)) .nil)) (.bi .int (.cons (.cmp .Eq (.var 0) (.lst .nil)) .nil)))) σ h = some (.val (.ref m) (h ++ g)) := by
  have s1 : getsl (.ref 3) none (some 6) h = some (.val (.ref h.length) (h ++ [.lst ((ns.take 6).map V.int)])) := by
    unfold getsl
    simp only [e, cut6]
    rfl
  have eA : (h ++ [MP.IO.lst ((ns.take 6).map V.int)])[h.length]? = some (.lst ((ns.take 6).map V.int)) := by simp
  have e := app_get (g := [.lst ((ns.take 6).map V.int)]) e
  generalize hA : h ++ [MP.IO.lst ((ns.take 6).map V.int)] = A at *
  have l1 : listV [.int 7] A = some (.val (.ref A.length) (A ++ [.lst [.int 7]])) := by simp [listV, v17, show (1 : Nat) ≤ sizeLine from sz_le (by decide)]
  have eB : (A ++ [MP.IO.lst [.int 7]])[A.length]? = some (.lst [.int 7]) := by simp
  have e := app_get (g := [.lst [.int 7]]) e
  have eA := app_get (g := [.lst [.int 7]]) eA
  generalize hB : A ++ [MP.IO.lst [.int 7]] = B at *
  have l0 : listV [] B = some (.val (.ref B.length) (B ++ [.lst []])) := by simp [listV, v17]
  have eC : (B ++ [MP.IO.lst []])[B.length]? = some (.lst []) := by simp
  have e := app_get (g := [.lst []]) e
  have eA := app_get (g := [.lst []]) eA
  have eB := app_get (g := [.lst []]) eB
  generalize hC : B ++ [MP.IO.lst []] = C at *
  have q := eq_script e eC
  have cq : cmpop .Eq (.ref 3) (.ref B.length) C = some (.val (.bl ns.isEmpty) C) := by simp only [cmpop, q]
  let j : Int := if ns.isEmpty then 1 else 0
  have ij : bifn .int [.bl ns.isEmpty] C = some (.val (.int j) C) := rfl
  have hj : j = 0 ∨ j = 1 := by
    have z : ∀ b : Bool, (if b then (1 : Int) else 0) = 0 ∨ (if b then (1 : Int) else 0) = 1 := by decide
    exact z _
  have r7 : (List.replicate j.toNat [V.int 7]).flatten = ((List.replicate j.toNat (7 : Int)).map V.int) := by rcases hj with hj | hj <;> rw [hj] <;> rfl
  have m1 : binop .Mult (.ref A.length) (.int j) C = some (.val (.ref C.length) (C ++ [.lst ((List.replicate j.toNat (7 : Int)).map V.int)])) := by
    unfold binop
    simp only [eB]
    rw [if_pos ⟨by omega, by omega, sz_le (by simp; omega)⟩, r7]
    rfl
  have eD : (C ++ [MP.IO.lst ((List.replicate j.toNat (7 : Int)).map V.int)])[C.length]? = some (.lst ((List.replicate j.toNat (7 : Int)).map V.int)) := by simp
  have eA := app_get (g := [.lst ((List.replicate j.toNat (7 : Int)).map V.int)]) eA
  have ad := binop_add eA eD (by simp; omega)
  refine ⟨ns.take 6 ++ List.replicate j.toNat 7, (C ++ [MP.IO.lst ((List.replicate j.toNat (7 : Int)).map V.int)]).length, [.lst ((ns.take 6).map V.int)] ++ ([.lst [.int 7]] ++ ([.lst []] ++ ([.lst ((List.replicate j.toNat (7 : Int)).map V.int)] ++ [.lst ((ns.take 6).map V.int ++ (List.replicate j.toNat (7 : Int)).map V.int)]))), by simp; omega, ?_, ?_⟩
  rotate_left
  · simp only [← List.append_assoc, hA, hB, hC]
    generalize (List.replicate j.toNat (7 : Int)).map V.int = X at *

    simp [e_bin, e_sl, e_var, slotV, hσ, evO, e_cst, v1, v16, oneInt, s1, e_lst, evA, l1, e_bi, e_cmp, l0, cq, ij, m1, ad]
  · simp only [← List.append_assoc, hA, hB, hC]
    simp
end K02
end
section
set_option Elab.async false
set_option linter.all false
set_option maxRecDepth 100000
set_option maxHeartbeats 1000000
set_option pp.maxSteps 60
namespace K02
open PySem MP
open L2 (V St Hp)
theorem see_in {r : Option OutS} {s : List (Option V)} {n : Nat} {t : IH} (e : see r = some (s, n, t)) : ∃ σ h, r = some (.ok (.nx σ) h) ∧ σ.take 1 = s ∧ σ.length = n ∧ h.take 4 = t := by
  match r, e with
  | some (.ok (.nx σ) h), e =>
    simp only [see, Option.some.injEq, Prod.mk.injEq] at e
    exact ⟨σ, h, rfl, e.1, e.2.1, e.2.2⟩
theorem for2_run {h : IH} {ns : List Int} {a1 a2 a3 a4 a5 a6 a7 a8 a9 a10 : Option V} (ho : h[0]? = some (.tup [.str "T", .str "L"] true)) (e : h[3]? = some (.flst (ns.map V.int))) :
    ∃ σ g, evS (gof Γ0 (Cn 7)) 0 none for2 [some (.ref 3), a1, a2, a3, a4, a5, a6, a7, a8, a9, a10] h = some (.ok (.nx σ) (h ++ g)) := by
  obtain ⟨l, m, g, hl, em, ei⟩ := cells_it (σ := [some (.ref 3), a1, a2, a3, a4, a5, a6, a7, a8, a9, a10]) e rfl
  obtain ⟨σ, g2, el⟩ := cells_run (gd := [(m, .lst (l.map V.int))]) (a0 := some (.ref 3)) (a10 := a10) l 0 (h ++ g) a1 a2 a3 a4 a5 a6 a7 a8 a9 (by omega) (by simp [okG, em]) (app_get ho)
  refine ⟨σ, g ++ g2, ?_⟩
  rw [List.append_assoc] at el
  have body : for2 = .forS (.tup (.cons (.nm 2) (.cons (.nm 3) .nil))) (.enum (.bin .Add (.sl (.var 0) .none (.some (.cst (.int 6)))) (.bin .Mult (.lst (.cons (.cst (.int 7)) .nil)) (.bi .int (.cons (.cmp .Eq (.var 0) (.lst .nil)) .nil))))) cellB := rfl
  rw [body]
  simp only [evS, evI, ei, v1, v4, enumV, em]
  exact el
end K02
end
section
set_option Elab.async false
set_option linter.all false
set_option maxRecDepth 100000
set_option maxHeartbeats 1000000
set_option pp.maxSteps 60
namespace K02
open PySem MP
open L2 (V St Hp)
theorem plain (ns : List Int) (h : ns.length ≤ 63) : ∃ hE, callN (gof Γ0) T 0 8 26 [.ref h0.length] (h0 ++ [.flst (ns.map V.int)]) = some (.val (.bl true) hE) := by
  obtain ⟨σ, h1, e1, s1, s2, s3⟩ := see_in (see1 (ns.map V.int))
  have g0 : h1[0]? = some (.tup [.str "T", .str "L"] true) := by
    have z : (h1.take 4)[0]? = some (.tup [.str "T", .str "L"] true) := by rw [s3]; rfl
    rw [List.getElem?_take] at z; simpa using z
  have g3 : h1[3]? = some (.flst (ns.map V.int)) := by
    have z : (h1.take 4)[3]? = some (.flst (ns.map V.int)) := by rw [s3]; rfl
    rw [List.getElem?_take] at z; simpa using z
  match σ, s1, s2 with
  | [a0, a1, a2, a3, a4, a5, a6, a7, a8, a9, a10], s1, _ =>
    obtain rfl : a0 = some (.ref 3) := by simpa using s1
    obtain ⟨σ2, g, e2⟩ := for2_run (a1 := a1) (a2 := a2) (a3 := a3) (a4 := a4) (a5 := a5) (a6 := a6) (a7 := a7) (a8 := a8) (a9 := a9) (a10 := a10) g0 g3
    refine ⟨h1 ++ g, ?_⟩
    have ez := cn_eq (k := 7) (f := 26) (vs := [.ref 3]) (h := h0 ++ [.flst (ns.map V.int)]) (d := f26) rfl rfl
    have body : f26.body = .cons for1 (.cons for2 (.cons (.ret (.cst (.bl true))) .nil)) := rfl
    have st : ([V.ref 3].map some ++ List.replicate (f26.ns - f26.np) none) = some (V.ref 3) :: List.replicate 10 none := rfl
    rw [body, st] at ez
    have l3 : h0.length = 3 := rfl
    rw [l3]
    refine ez.trans ?_
    simp only [evB, e1, v6, e2, evS, e_cst, v16, v4, v7, v9]
end K02
end
section
set_option Elab.async false
set_option linter.all false
set_option pp.maxSteps 40
namespace K02
open PySem L2 MP
end K02
open PySem PySem.W PyProof.Rows
set_option maxRecDepth 100000 in
set_option maxHeartbeats 0 in
theorem PySem.Challenge.cw_truthrings_k02_statements_refused_holds : PySem.Challenge.rw_truthrings_k02_statements_refused.Holds := by
  w_on; o_law; k_head; (case hw => w_witness2)
  k_fill
  refine MP.walkG (l := PySem.Challenge.rw_truthrings_k02_statements_refused) (k := 8) (fl := 26) (fu := 0) (x := "_law_script") (h0 := K02.h0) (Γ0 := K02.Γ0) (nm := K02.nm0) (T := K02.T) rfl rfl ⟨rfl, by decide, by decide⟩ (fun w h Y => PySem.W.kIn_of Y) ?F K02.plain
  case F =>
    intro w mg fa h KX G hmg
    refine' K02.all_mk KX G hmg ?gC0 ?gC1 ?gC2 ?gC3 ?S0 ?g3 ?l3 ?c3 ?k3 ?g4 ?l4 ?c4 ?k4 ?g5 ?l5 ?c5 ?k5 ?g6 ?l6 ?c6 ?k6 ?m7 ?i7 ?j7 ?l7 ?c7 ?k7 ?m8 ?pr8 ?j8 ?l8 ?c8 ?k8 ?m9 ?pr9 ?l9 ?c9 ?k9 ?m10 ?pg10 ?pt10 ?pr10 ?l10 ?c10 ?k10 ?m16 ?i16 ?j16 ?l16 ?c16 ?k16 ?g19 ?l19 ?c19 ?k19 ?g20 ?l20 ?c20 ?k20 ?g21 ?l21 ?c21 ?k21 ?g22 ?l22 ?c22 ?k22 ?g23 ?l23 ?c23 ?k23 ?g24 ?l24 ?c24 ?k24 ?g25 ?l25 ?c25 ?k25 ?g26 ?l26 ?c26 ?k26 ?S1 ?S2 ?S3 ?S4 ?S5 ?S6 ?S7 ?S8 ?S9 ?R1 ?x1 ?x1sa ?x1no ?x1in ?x1ty ?x1kp ?x1fn ?x1cd ?x1ga ?x1gg ?x1cl ?x1mr ?x2 ?x2sa ?x2no ?x2in ?x2ty ?x2kp ?x2fn ?x2cd ?x2ga ?x2gg ?x2cl ?x2mr ?y0b ?y0t ?y0d ?y1b ?y1t ?y1d ?y2b ?y2t ?y2d ?z10 ?z11 ?z12 ?z20 ?z21 ?z22 ?ne20 ?ne21 ?ne12 ?zb1 ?zb2 ?oc1 ?oc2 ?gL ?gP ?gN ?lL ?lP ?n0 ?n1 ?n2 ?n3 ?n4 ?n5 ?n6 ?n7 ?n8 ?n9 ?n10 ?n11 ?n12 ?n13
    (case gC0 => first | k_is | rfl)
    (case gC1 => first | k_is | rfl)
    (case gC2 => first | k_is | rfl)
    (case gC3 => first | k_is | rfl)
    (case S0 => first | k_is | rfl)
    (case g3 => first | k_is | rfl)
    (case l3 => first | k_is | rfl)
    (case c3 => first | k_is | rfl)
    (case k3 => first | k_is | rfl)
    (case g4 => first | k_is | rfl)
    (case l4 => first | k_is | rfl)
    (case c4 => first | k_is | rfl)
    (case k4 => first | k_is | rfl)
    (case g5 => first | k_is | rfl)
    (case l5 => first | k_is | rfl)
    (case c5 => first | k_is | rfl)
    (case k5 => first | k_is | rfl)
    (case g6 => first | k_is | rfl)
    (case l6 => first | k_is | rfl)
    (case c6 => first | k_is | rfl)
    (case k6 => first | k_is | rfl)
    (case m7 => first | k_is | rfl)
    (case i7 => first | k_is | rfl)
    (case j7 => first | k_is | rfl)
    (case l7 => first | k_is | rfl)
    (case c7 => first | k_is | rfl)
    (case k7 => first | k_is | rfl)
    (case m8 => first | k_is | rfl)
    (case pr8 => first | k_is | rfl)
    (case j8 => first | k_is | rfl)
    (case l8 => first | k_is | rfl)
    (case c8 => first | k_is | rfl)
    (case k8 => first | k_is | rfl)
    (case m9 => first | k_is | rfl)
    (case pr9 => first | k_is | rfl)
    (case l9 => first | k_is | rfl)
    (case c9 => first | k_is | rfl)
    (case k9 => first | k_is | rfl)
    (case m10 => first | k_is | rfl)
    (case pg10 => first | k_is | rfl)
    (case pt10 => first | k_is | rfl)
    (case pr10 => first | k_is | rfl)
    (case l10 => first | k_is | rfl)
    (case c10 => first | k_is | rfl)
    (case k10 => first | k_is | rfl)
    (case m16 => first | k_is | rfl)
    (case i16 => first | k_is | rfl)
    (case j16 => first | k_is | rfl)
    (case l16 => first | k_is | rfl)
    (case c16 => first | k_is | rfl)
    (case k16 => first | k_is | rfl)
    (case g19 => first | k_is | rfl)
    (case l19 => first | k_is | rfl)
    (case c19 => first | k_is | rfl)
    (case k19 => first | k_is | rfl)
    (case g20 => first | k_is | rfl)
    (case l20 => first | k_is | rfl)
    (case c20 => first | k_is | rfl)
    (case k20 => first | k_is | rfl)
    (case g21 => first | k_is | rfl)
    (case l21 => first | k_is | rfl)
    (case c21 => first | k_is | rfl)
    (case k21 => first | k_is | rfl)
    (case g22 => first | k_is | rfl)
    (case l22 => first | k_is | rfl)
    (case c22 => first | k_is | rfl)
    (case k22 => first | k_is | rfl)
    (case g23 => first | k_is | rfl)
    (case l23 => first | k_is | rfl)
    (case c23 => first | k_is | rfl)
    (case k23 => first | k_is | rfl)
    (case g24 => first | k_is | rfl)
    (case l24 => first | k_is | rfl)
    (case c24 => first | k_is | rfl)
    (case k24 => first | k_is | rfl)
    (case g25 => first | k_is | rfl)
    (case l25 => first | k_is | rfl)
    (case c25 => first | k_is | rfl)
    (case k25 => first | k_is | rfl)
    (case g26 => first | k_is | rfl)
    (case l26 => first | k_is | rfl)
    (case c26 => first | k_is | rfl)
    (case k26 => first | k_is | rfl)
    (case S1 => first | k_is | rfl)
    (case S2 => first | k_is | rfl)
    (case S3 => first | k_is | rfl)
    (case S4 => first | k_is | rfl)
    (case S5 => first | k_is | rfl)
    (case S6 => first | k_is | rfl)
    (case S7 => first | k_is | rfl)
    (case S8 => first | k_is | rfl)
    (case S9 => first | k_is | rfl)
    (case R1 => first | k_is | rfl)
    (case x1 => first | k_is | rfl)
    (case x1sa => first | k_is | rfl)
    (case x1no => first | k_is | rfl)
    (case x1in => first | k_is | rfl)
    (case x1ty => first | k_is | rfl)
    (case x1kp => first | k_is | rfl)
    (case x1fn => first | k_is | rfl)
    (case x1cd => first | k_is | rfl)
    (case x1ga => first | k_is | rfl)
    (case x1gg => first | k_is | rfl)
    (case x1cl => first | k_is | rfl)
    (case x1mr => first | k_is | rfl)
    (case x2 => first | k_is | rfl)
    (case x2sa => first | k_is | rfl)
    (case x2no => first | k_is | rfl)
    (case x2in => first | k_is | rfl)
    (case x2ty => first | k_is | rfl)
    (case x2kp => first | k_is | rfl)
    (case x2fn => first | k_is | rfl)
    (case x2cd => first | k_is | rfl)
    (case x2ga => first | k_is | rfl)
    (case x2gg => first | k_is | rfl)
    (case x2cl => first | k_is | rfl)
    (case x2mr => first | k_is | rfl)
    (case y0b => first | k_is | rfl)
    (case y0t => first | k_is | rfl)
    (case y0d => first | k_is | rfl)
    (case y1b => first | k_is | rfl)
    (case y1t => first | k_is | rfl)
    (case y1d => first | k_is | rfl)
    (case y2b => first | k_is | rfl)
    (case y2t => first | k_is | rfl)
    (case y2d => first | k_is | rfl)
    (case z10 => first | k_is | rfl)
    (case z11 => first | k_is | rfl)
    (case z12 => first | k_is | rfl)
    (case z20 => first | k_is | rfl)
    (case z21 => first | k_is | rfl)
    (case z22 => first | k_is | rfl)
    (case ne20 => first | rfl | decide +kernel | k_is)
    (case ne21 => first | rfl | decide +kernel | k_is)
    (case ne12 => first | rfl | decide +kernel | k_is)
    (case zb1 => first | k_is | rfl)
    (case zb2 => first | k_is | rfl)
    (case oc1 => first | k_is | rfl)
    (case oc2 => first | k_is | rfl)
    (case gL => first | k_is | rfl)
    (case gP => first | k_is | rfl)
    (case gN => first | k_is | rfl)
    (case lL => first | k_is | rfl)
    (case lP => first | k_is | rfl)
    (case n0 => first | k_is | rfl)
    (case n1 => first | k_is | rfl)
    (case n2 => first | k_is | rfl)
    (case n3 => first | k_is | rfl)
    (case n4 => first | k_is | rfl)
    (case n5 => first | k_is | rfl)
    (case n6 => first | k_is | rfl)
    (case n7 => first | k_is | rfl)
    (case n8 => first | k_is | rfl)
    (case n9 => first | k_is | rfl)
    (case n10 => first | k_is | rfl)
    (case n11 => first | k_is | rfl)
    (case n12 => first | k_is | rfl)
    (case n13 => first | k_is | rfl)
end
