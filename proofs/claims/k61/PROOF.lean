import PyProof.Rows.All
import Wide.All
import OpenK.AllK
import Wide.FinOn
import HandS.ForMost
import HandS.ForExc
import HandS.TupAny
import HandS.TupMul
import HandS.IsInst
import HandS.Deep
import HandS.Zip
import HandS.Conv
import HandS.Flow
import HandS.Star
import HandS.StrMore
import HandS.Style
import HandS.Replace
import KE.LtData
import HandS.Lambda
import HandS.NoneIn
import HandS.FStr
import KE.KIndexOf
import KE.KDflt
import KE.KStateDown
import HandS.More
import HandS.Words
import HandS.WordsExc
import HandS.Defaults
import HandS.Head0
import HandS.Head1
import HandS.Head2
import HandS.HeadEnd
import HandS.HeadHook1
import HandS.HeadHook2
import HandS.HeadHook3
import HandS.HeadHook4
import HandS.HeadWalk
import HandS.NestedK
import PyProof.ExcBaseAll.ValueError
import PySem.Challenge.RW_cutledger_k61_whole_codes
set_option Elab.async false
set_option linter.all false
set_option maxRecDepth 100000
set_option maxHeartbeats 4000000
/-! Ir: a small language with its own interpreter, in plain Lean: values D, cells O, results R, expressions E, statements S. -/
namespace Ir
open PySem

/-- a value: a number of a cell (ref), or data; lst: a list that nothing writes at; scr: the script -/
inductive D where
  | non | bl (b : Bool) | int (i : Int) | str (s : Str) | tup (xs : List D) | lst (xs : List D) | ref (n : Nat) | scr (xs : List Int)
  deriving Inhabited

abbrev Key := L2.Key
/-- a cell: a list, a dict, an instance of the class number c -/
inductive O where
  | lst (xs : List D) | dct (kvs : List (Key × D)) | ins (c : Nat) (fs : List (Str × D)) | opq
  deriving Inhabited
abbrev Hh := List O
/-- an exception: the number of its class, its fields -/
structure Exn where
  cls : Nat
  fs : List (Str × D)
  deriving Inhabited
inductive R (α : Type) where
  | ok (a : α) (h : Hh)
  | exc (x : Exn) (h : Hh)
  | stuck
def R.bind {α β : Type} (r : R α) (f : α → Hh → R β) : R β := match r with
  | .ok a h => f a h
  | .exc x h => .exc x h
  | .stuck => .stuck
@[simp] theorem R.bind_ok {α β : Type} (a : α) (h : Hh) (f : α → Hh → R β) : (R.ok a h).bind f = f a h := rfl
@[simp] theorem R.bind_exc {α β : Type} (x : Exn) (h : Hh) (f : α → Hh → R β) : (R.exc x h).bind f = .exc x h := rfl
@[simp] theorem R.bind_stuck {α β : Type} (f : α → Hh → R β) : (R.stuck : R α).bind f = .stuck := rfl

mutual
def toPy : D → Option PyData
  | .non => some .none
  | .bl b => some (.bool b)
  | .int i => some (.int i)
  | .str s => some (.str s)
  | .tup xs => (toPyL xs).map .tuple
  | .lst xs => (toPyL xs).map .list
  | .ref _ => none
  | .scr xs => some (.list (xs.map .int))
def toPyL : List D → Option (List PyData)
  | [] => some []
  | x :: r => match toPy x, toPyL r with
    | some p, some q => some (p :: q)
    | _, _ => none
end
mutual
def noRef : D → Bool
  | .tup xs => noRefL xs
  | .lst xs => noRefL xs
  | .ref _ => false
  | _ => true
def noRefL : List D → Bool
  | [] => true
  | x :: r => noRef x && noRefL r
end
/-- the data of a value; a cell's list is looked up -/
def toPyH (h : Hh) : D → Option PyData
  | .ref n => match h[n]? with
    | some (.lst xs) => (toPyL xs).map .list
    | _ => none
  | d => toPy d
def seqOf (h : Hh) : D → Option (List D)
  | .tup xs => some xs
  | .lst xs => some xs
  | .scr xs => some (xs.map .int)
  | .ref n => match h[n]? with
    | some (.lst xs) => some xs
    | _ => none
  | _ => none
/-- a list that is tracked -/
def trkOf (h : Hh) : D → Option (List D)
  | .lst xs => some xs
  | .ref n => match h[n]? with
    | some (.lst xs) => some xs
    | _ => none
  | _ => none
def lstOf (h : Hh) : D → Option (List D)
  | .lst xs => some xs
  | .scr xs => some (xs.map .int)
  | .ref n => match h[n]? with
    | some (.lst xs) => some xs
    | _ => none
  | _ => none
def dctOf (h : Hh) : D → Option (Nat × List (Key × D))
  | .ref n => match h[n]? with
    | some (.dct kvs) => some (n, kvs)
    | _ => none
  | _ => none
def keyOf : D → Option Key
  | .int i => some (.inl i)
  | .str s => some (.inr s)
  | _ => none
def truth (h : Hh) : D → Option Bool
  | .non => some false
  | .bl b => some b
  | .int i => some (i != 0)
  | .str s => if s.length ≤ sizeLine then some (s.length != 0) else none
  | .tup xs => some !xs.isEmpty
  | .lst xs => some !xs.isEmpty
  | .ref n => match h[n]? with
    | some (.lst xs) => some !xs.isEmpty
    | some (.dct kvs) => some !kvs.isEmpty
    | _ => none
  | .scr xs => some !xs.isEmpty
/-- a slice of a list of anything -/
def cut {α : Type} (xs : List α) (lo hi : Option Int) : List α := (xs.drop (HT.sIx xs.length 0 lo)).take (HT.sIx xs.length xs.length hi - HT.sIx xs.length 0 lo)
def flat : D → Bool
  | .non | .bl _ | .int _ | .str _ => true
  | _ => false
def flatEq : D → D → Bool
  | .non, .non => true
  | .bl a, .bl b => a == b
  | .bl a, .int j => (if a then 1 else 0) == j
  | .int i, .bl b => i == (if b then 1 else 0)
  | .int i, .int j => i == j
  | .str a, .str b => a == b
  | _, _ => false
def intsOf : List D → Option (List Int)
  | [] => some []
  | .int i :: r => (intsOf r).map (i :: ·)
  | _ :: _ => none
def blsOf : List D → Option (List Bool)
  | [] => some []
  | .bl i :: r => (blsOf r).map (i :: ·)
  | _ :: _ => none
def strsOf : List D → Option (List Str)
  | [] => some []
  | .str i :: r => (strsOf r).map (i :: ·)
  | _ :: _ => none
def dLook (k : Key) : List (Key × D) → Option D
  | [] => none
  | (j, d) :: r => if j = k then some d else dLook k r
def dPut (k : Key) (d : D) (kvs : List (Key × D)) : List (Key × D) := if (kvs.any fun kv => decide (kv.1 = k)) = true then kvs.map (fun kv => if kv.1 = k then (kv.1, d) else kv) else kvs ++ [(k, d)]
def fLook (x : Str) : List (Str × D) → Option D
  | [] => none
  | (y, d) :: r => if x = y then some d else fLook x r

/-- built-in classes as isinstance takes them -/
inductive Ty where
  | non | int | str | bool | tuple | list | dict
  deriving DecidableEq, Inhabited
def tyOf (h : Hh) : D → Option Ty
  | .non => some .non
  | .bl _ => some .bool
  | .int _ => some .int
  | .str _ => some .str
  | .tup _ => some .tuple
  | .lst _ => some .list
  | .scr _ => some .list
  | .ref n => match h[n]? with
    | some (.lst _) => some .list
    | some (.dct _) => some .dict
    | _ => none
/-- isinstance(x, T) -/
def isTy (h : Hh) (d : D) (t : Ty) : Option Bool := match tyOf h d with
  | some s => some (s == t || (s == .bool && t == .int))
  | none => none
def isTys (h : Hh) (d : D) : List Ty → Option Bool
  | [] => some false
  | t :: r => match isTy h d t, isTys h d r with
    | some a, some b => some (a || b)
    | _, _ => none

/-- operations on values -/
inductive P where
  | add | sub | mul | fdiv | mod | pow | xor | neg
  | eq | ne | lt | le | gt | ge | isN | notN | inn | nin
  | idx
  | len | all | any | sum | int | max2 | min2 | tuple | list | isa (t : Ty) | isas (ts : List Ty)
  | join | index
  | append | extend
  deriving DecidableEq, Inhabited

def okD (h : Hh) (o : Option D) : R D := match o with
  | some d => .ok d h
  | none => .stuck
def okB (h : Hh) (o : Option Bool) : R D := match o with
  | some d => .ok (.bl d) h
  | none => .stuck
def okIf (c : Prop) [Decidable c] (r : R D) : R D := if c then r else .stuck
def inOf (h : Hh) (x y : D) : Option Bool := match y with
  | .str j => match x with
    | .str i => some (!(Builtin.Str.occurrences j i 0 j.length 1).isEmpty)
    | _ => none
  | y => match seqOf h y with
    | some ys => if flat x && ys.all flat then some (ys.any fun z => flatEq z x) else none
    | none => none
def ltOf (h : Hh) (x y : D) : Option Bool := match x, y with
  | .int i, .int j => some (decide (i < j))
  | .str i, .str j => some (decide (i.cps.toList < j.cps.toList))
  | .tup xs, .tup ys => match toPyL xs, toPyL ys with
    | some p, some q => if PySem.W.alike (.tuple p) (.tuple q) && decide (PyData.depth (.tuple p) ≤ 64) then some (PySem.W.dataLt (.tuple p) (.tuple q)) else none
    | _, _ => none
  | _, _ => none
def eqOf (h : Hh) (x y : D) : Option Bool := match toPyH h x, toPyH h y with
  | some p, some q => if SeqAt.shaped p && SeqAt.shaped q then some (PyData.eqv p q) else none
  | _, _ => none
def firstAt (x : D) : List D → Nat → Option Nat
  | [], _ => none
  | y :: r, n => if flatEq y x then some n else firstAt x r (n + 1)

def cutR (x : D) (l u : Option Int) (h : Hh) : R D := match x with
  | .tup xs => .ok (.tup (cut xs l u)) h
  | x => match lstOf h x with
    | some xs => .ok (.lst (cut xs l u)) h
    | none => .stuck
/-- a bound of a slice -/
def bnd (r : R D) : R (Option Int) := r.bind fun x h => match x with
  | .int i => .ok (some i) h
  | _ => .stuck
def prim (p : P) (ds : List D) (h : Hh) : R D := match p, ds with
  | .add, [x, y] => match x, y with
    | .int i, .int j => .ok (.int (i + j)) h
    | .str i, .str j => okIf (i.length + j.length ≤ sizeLine) (.ok (.str (i ++ j)) h)
    | .tup xs, .tup ys => okIf (xs.length + ys.length ≤ sizeLine) (.ok (.tup (xs ++ ys)) h)
    | x, y => match trkOf h x, trkOf h y with
      | some xs, some ys => okIf (xs.length + ys.length ≤ sizeLine) (.ok (.lst (xs ++ ys)) h)
      | _, _ => .stuck
  | .sub, [.int i, .int j] => .ok (.int (i - j)) h
  | .mul, [x, y] => match x, y with
    | .int i, .int j => okIf (decide (-(2 ^ 64) < i ∧ i < 2 ^ 64) || decide (-(2 ^ 64) < j ∧ j < 2 ^ 64)) (.ok (.int (i * j)) h)
    | _, _ => .stuck
  | .fdiv, [.int i, .int j] => okIf (0 < j ∧ j < 1073741824) (.ok (.int (i / j)) h)
  | .mod, [.int i, .int j] => okIf (0 < j) (.ok (.int (i % j)) h)
  | .pow, [.int i, .int j] => okIf (0 ≤ j ∧ j ≤ 1000000 ∧ i.natAbs < 2 ^ 64) (.ok (.int (i ^ j.toNat)) h)
  | .xor, [.int i, .int j] => .ok (.int (Builtin.bitXor i j)) h
  | .neg, [.int i] => .ok (.int (-i)) h
  | .eq, [x, y] => okB h (eqOf h x y)
  | .ne, [x, y] => okB h ((eqOf h x y).map not)
  | .lt, [x, y] => okB h (ltOf h x y)
  | .le, [.int i, .int j] => .ok (.bl (decide (i ≤ j))) h
  | .gt, [.int i, .int j] => .ok (.bl (decide (j < i))) h
  | .ge, [.int i, .int j] => .ok (.bl (decide (j ≤ i))) h
  | .isN, [x] => match x with
    | .non => .ok (.bl true) h
    | _ => .ok (.bl false) h
  | .notN, [x] => match x with
    | .non => .ok (.bl false) h
    | _ => .ok (.bl true) h
  | .inn, [x, y] => okB h (inOf h x y)
  | .nin, [x, y] => okB h ((inOf h x y).map not)
  | .idx, [x, y] => match x, y with
    | .str z, .int i => okIf (z.length ≤ sizeLine) (okD h ((L2.atI z.cps.toList i).map fun c => .str ⟨#[c]⟩))
    | x, .int i => match seqOf h x with
      | some xs => okD h (L2.atI xs i)
      | none => .stuck
    | _, _ => .stuck
  | .len, [x] => match x with
    | .str z => okIf (z.length ≤ sizeLine) (.ok (.int z.length) h)
    | x => match seqOf h x with
      | some xs => .ok (.int xs.length) h
      | none => .stuck
  | .all, [x] => match lstOf h x with
    | some xs => okB h ((blsOf xs).map fun bs => bs.all id)
    | none => .stuck
  | .any, [x] => match lstOf h x with
    | some xs => okB h ((blsOf xs).map fun bs => bs.any id)
    | none => .stuck
  | .sum, [x] => match lstOf h x with
    | some xs => okD h ((intsOf xs).map fun ns => .int ns.sum)
    | none => .stuck
  | .int, [x] => match x with
    | .int i => .ok (.int i) h
    | .bl b => .ok (.int (if b then 1 else 0)) h
    | _ => .stuck
  | .max2, [.int i, .int j] => .ok (.int (if j > i then j else i)) h
  | .min2, [.int i, .int j] => .ok (.int (if j < i then j else i)) h
  | .tuple, [x] => match seqOf h x with
    | some xs => .ok (.tup xs) h
    | none => .stuck
  | .list, [x] => match seqOf h x with
    | some xs => .ok (.lst xs) h
    | none => .stuck
  | .isa t, [x] => okB h (isTy h x t)
  | .isas ts, [x] => okB h (isTys h x ts)
  | .join, [.str a, x] => match seqOf h x with
    | some xs => match strsOf xs with
      | some ys => okIf ((ys.map (·.length)).sum + a.length * ys.length ≤ 16777216) (.ok (.str (Txt.join a ys)) h)
      | none => .stuck
    | none => .stuck
  | .index, [x, y] => match x, y with
    | .str a, .str b => match Builtin.Str.occurrences a b 0 a.length 1 with
      | i :: _ => .ok (.int (i : Nat)) h
      | [] => .stuck
    | x, y => match seqOf h x with
      | some xs => if flat y && xs.all flat then (match firstAt y xs 0 with
        | some n => .ok (.int (n : Nat)) h
        | none => .stuck) else .stuck
      | none => .stuck
  | .append, [.ref n, y] => match h[n]? with
    | some (.lst xs) => okIf (xs.length < sizeLine) (.ok .non (h.set n (.lst (xs ++ [y]))))
    | _ => .stuck
  | .extend, [.ref n, y] => match h[n]? with
    | some (.lst xs) => match y with
      | .ref _ => .stuck
      | .scr _ => .stuck
      | y => match seqOf h y with
        | some ys => okIf (xs.length + ys.length ≤ sizeLine) (.ok .non (h.set n (.lst (xs ++ ys))))
        | none => .stuck
    | _ => .stuck
  | _, _ => .stuck

/-- the kinds of things whose methods are called -/
inductive MK where
  | str | lst | tup
  deriving DecidableEq
def kindOf (h : Hh) : D → Option MK
  | .str _ => some .str
  | .tup _ => some .tup
  | .lst _ => some .lst
  | .scr _ => some .lst
  | .ref n => match h[n]? with
    | some (.lst _) => some .lst
    | _ => none
  | _ => none
def methOk : P → MK → Bool
  | .join, .str => true
  | .index, _ => true
  | .append, .lst => true
  | .extend, .lst => true
  | _, _ => false
mutual
inductive E where
  | var (i : Nat)
  | cst (d : D)
  | con (k : Nat)
  | prim (p : P) (es : L)
  | meth (p : P) (o : E) (es : L)
  | cut (fl fh : Bool) (o lo hi : E)
  | and_ (a b : E) | or_ (a b : E) | not_ (a : E)
  | ite (c a b : E)
  | chain (p q : P) (a b c : E)
  | tup (es : L) | lst (es : L) | newl (es : L)
  | newd (ks : List Key) (es : L)
  | dget (o k : E) | dget2 (o k x : E) | din (neg : Bool) (k o : E)
  | call (f : Nat) (es : L)
  | lc (mt : Bool) (own : List (Str × Nat)) (tg : T) (src : G) (hasIf : Bool) (c : E) (elt : E)
  | told (t x : Nat) (body : E)
inductive L where
  | nil | cons (e : E) (r : L) | star (e : E) (r : L)
/-- targets of for and comprehensions -/
inductive T where
  | name (i : Nat) | pair (ts : Ts)
inductive Ts where
  | nil | cons (t : T) (r : Ts)
/-- what is walked -/
inductive G where
  | seq (e : E) | range1 (e : E) | range2 (a b : E) | zip (a b : E) | enum (a : E)
end

mutual
inductive S where
  | expr (e : E)
  | asg (t : T) (e : E)
  | par (i j : Nat) (a b : E)
  | aug (i : Nat) (p : P) (e : E)
  | setIx (o i e : E)
  | ret (e : E) | retN
  | if_ (c : E) (a b : SS)
  | for_ (tg : T) (src : G) (b : SS)
  | while_ (c : E) (b : SS)
  | raise_ (x : Nat) (es : L)
  | try_ (b : SS) (x : Nat) (i : Nat) (hd : SS)
  | pass_ | brk | cnt
inductive SS where
  | nil | cons (s : S) (r : SS)
end

/-! ### the interpreter -/
abbrev Rho := List (Option D)
/-- what a loop is given: a value, or a new tuple of these -/
inductive It where
  | one (d : D) | many (ds : List D)
abbrev Rd := Nat → Hh → Option (Option It)
/-- what an expression is run in: how deep calls may still go; constants of the module; calls (by depth, number of the def); the relation of classes -/
structure Cx where
  n : Nat
  con : Nat → Option D
  C : Nat → Nat → List D → Hh → R D
  sub : Nat → Nat → Bool

def getV (ρ : Rho) (i : Nat) : Option D := match ρ[i]? with
  | some (some d) => some d
  | _ => none
def wipe (ρ : Rho) : List Nat → Rho
  | [] => ρ
  | v :: vs => (wipe ρ vs).set v none
mutual
def bindT : T → D → Rho → Option Rho
  | .name i, d, ρ => some (ρ.set i (some d))
  | .pair ts, d, ρ => match d with
    | .tup xs => bindTs ts xs ρ
    | _ => none
def bindTs : Ts → List D → Rho → Option Rho
  | .nil, xs, ρ => match xs with
    | [] => some ρ
    | _ => none
  | .cons t r, xs, ρ => match xs with
    | x :: ys => (bindT t x ρ).bind fun ρ' => bindTs r ys ρ'
    | _ => none
end
def bindI (t : T) (x : It) (ρ : Rho) : Option Rho := match x with
  | .one d => bindT t d ρ
  | .many ds => match t with
    | .pair ts => bindTs ts ds ρ
    | _ => none
abbrev Rv := Nat → Hh → Option (Option D)
def ones (r : Rv) : Rd := fun i h => (r i h).map fun o => o.map .one
def fixed (xs : List D) : Rv := fun i _ => some xs[i]?
def live (n : Nat) : Rv := fun i h => match h[n]? with
  | some (.lst xs) => some xs[i]?
  | _ => none
def signs (s : Str) : List D := s.cps.toList.map fun c => .str ⟨#[c]⟩
def rgInts (lo : Int) (n : Nat) : Rv := fun i _ => some (if i < n then some (.int (lo + i)) else none)
/-- the reader of a list or a tuple -/
def rdOf (h : Hh) : D → Option (Nat × Rv)
  | .tup xs => some (xs.length, fixed xs)
  | .lst xs => some (xs.length, fixed xs)
  | .scr xs => some (xs.length, fixed (xs.map .int))
  | .ref n => match h[n]? with
    | some (.lst xs) => some (xs.length, live n)
    | _ => none
  | _ => none
def isTup : D → Bool
  | .tup _ => true
  | _ => false
def zipRd (a b : Rv) : Rd := fun i h => match a i h, b i h with
  | some (some x), some (some y) => some (some (.many [x, y]))
  | some none, some _ => some none
  | some (some _), some none => some none
  | _, _ => none
def enumRd (a : Rv) : Rd := fun i h => match a i h with
  | some (some x) => some (some (.many [.int i, x]))
  | some none => some none
  | none => none
/-- a comprehension's turns; acc: what is made so far -/
def lcLoop (rd : Rd) (f : It → Hh → R (Option D)) : Nat → Nat → List D → Hh → R (List D)
  | 0, i, acc, h => match rd i h with
    | some none => .ok acc h
    | _ => .stuck
  | n + 1, i, acc, h => match rd i h with
    | some none => .ok acc h
    | some (some x) => match f x h with
      | .ok (some y) h1 => if acc.length < sizeLine then lcLoop rd f n (i + 1) (acc ++ [y]) h1 else .stuck
      | .ok none h1 => lcLoop rd f n (i + 1) acc h1
      | _ => .stuck
    | none => .stuck

def truR (r : R D) : R Bool := r.bind fun x h => match truth h x with
  | some k => .ok k h
  | none => .stuck
def chainR (p q : P) (x y : D) (c : Hh → R D) (h : Hh) : R D := match prim p [x, y] h with
  | .ok (.bl true) h1 => (c h1).bind fun z h2 => match prim q [y, z] h2 with
    | .ok (.bl b) h3 => .ok (.bl b) h3
    | _ => .stuck
  | .ok (.bl false) h1 => .ok (.bl false) h1
  | _ => .stuck

/-- whether it raises that -/
def toldR (sub : Nat → Nat → Bool) (x : Nat) (r : R D) : R D := match r with
  | .ok _ h => .ok (.bl false) h
  | .exc y h => if sub y.cls x then .ok (.bl true) h else .stuck
  | .stuck => .stuck
mutual
def evalE (X : Cx) : E → Rho → Hh → R D
  | .var i, ρ, h => okD h (getV ρ i)
  | .cst d, _, h => .ok d h
  | .con k, _, h => okD h (X.con k)
  | .prim p es, ρ, h => (evalL X es ρ h).bind fun ds h1 => prim p ds h1
  | .meth p o es, ρ, h => (evalE X o ρ h).bind fun x h1 => match kindOf h1 x with
    | some k => if methOk p k then (evalL X es ρ h1).bind fun ds h2 => prim p (x :: ds) h2 else .stuck
    | none => .stuck
  | .cut fl fh o lo hi, ρ, h => (evalE X o ρ h).bind fun x h1 => (match fl with
    | true => bnd (evalE X lo ρ h1)
    | false => .ok none h1).bind fun l h2 => (match fh with
    | true => bnd (evalE X hi ρ h2)
    | false => .ok none h2).bind fun u h3 => cutR x l u h3
  | .and_ a b, ρ, h => (evalE X a ρ h).bind fun x h1 => match truth h1 x with
    | some true => evalE X b ρ h1
    | some false => .ok x h1
    | none => .stuck
  | .or_ a b, ρ, h => (evalE X a ρ h).bind fun x h1 => match truth h1 x with
    | some true => .ok x h1
    | some false => evalE X b ρ h1
    | none => .stuck
  | .not_ a, ρ, h => (evalE X a ρ h).bind fun x h1 => match truth h1 x with
    | some b => .ok (.bl !b) h1
    | none => .stuck
  | .ite c a b, ρ, h => (evalB X c ρ h).bind fun k h1 => match k with
    | true => evalE X a ρ h1
    | false => evalE X b ρ h1
  | .chain p q a b c, ρ, h => (evalE X a ρ h).bind fun x h1 => (evalE X b ρ h1).bind fun y h2 => chainR p q x y (evalE X c ρ) h2
  | .tup es, ρ, h => (evalL X es ρ h).bind fun ds h1 => okIf (ds.length ≤ sizeLine) (.ok (.tup ds) h1)
  | .lst es, ρ, h => (evalL X es ρ h).bind fun ds h1 => okIf (ds.length ≤ sizeLine) (.ok (.lst ds) h1)
  | .newl es, ρ, h => (evalL X es ρ h).bind fun ds h1 => okIf (ds.length ≤ sizeLine) (.ok (.ref h1.length) (h1 ++ [.lst ds]))
  | .newd ks es, ρ, h => (evalL X es ρ (h ++ [.dct []])).bind fun ds h1 => match h1[h.length]? with
    | some (.dct []) => okIf (ks.length = ds.length ∧ ks.length ≤ 15) (.ok (.ref h.length) (h1.set h.length (.dct ((ks.zip ds).foldl (fun acc kv => dPut kv.1 kv.2 acc) []))))
    | _ => .stuck
  | .dget o k, ρ, h => (evalE X o ρ h).bind fun x h1 => (evalE X k ρ h1).bind fun y h2 => match dctOf h2 x, keyOf y with
    | some (_, kvs), some k => okD h2 (dLook k kvs)
    | _, _ => .stuck
  | .dget2 o k z, ρ, h => (evalE X o ρ h).bind fun x h1 => match dctOf h1 x with
    | some _ => (evalE X k ρ h1).bind fun y h2 => (evalE X z ρ h2).bind fun z h3 => match dctOf h3 x, keyOf y with
      | some (_, kvs), some k => .ok ((dLook k kvs).getD z) h3
      | _, _ => .stuck
    | none => .stuck
  | .din neg k o, ρ, h => (evalE X k ρ h).bind fun y h1 => (evalE X o ρ h1).bind fun x h2 => match dctOf h2 x, keyOf y with
    | some (_, kvs), some k => .ok (.bl (if neg then !(dLook k kvs).isSome else (dLook k kvs).isSome)) h2
    | _, _ => .stuck
  | .call f es, ρ, h => (evalL X es ρ h).bind fun ds h1 => X.C 0 f ds h1
  | .lc mt own tg src hasIf c elt, ρ, h => (evalG X src ρ h).bind fun s h1 =>
    (lcLoop s.2 (fun x h2 => match bindI tg x (wipe ρ (own.map (·.2))) with
      | some ρ2 => match (if hasIf then evalB X c ρ2 h2 else .ok true h2) with
        | .ok true h3 => (evalE X elt ρ2 h3).bind fun y h4 => .ok (some y) h4
        | .ok false h3 => .ok none h3
        | _ => .stuck
      | none => .stuck) s.1 0 [] h1).bind fun ds h2 => if mt then .ok (.ref h2.length) (h2 ++ [.lst ds]) else .ok (.lst ds) h2
  | .told _ x body, ρ, h => if 2 ≤ X.n then toldR X.sub x (evalE { X with n := X.n - 2, C := fun j => X.C (j + 2) } body ρ h) else .stuck
def evalB (X : Cx) : E → Rho → Hh → R Bool
  | .and_ a b, ρ, h => (evalB X a ρ h).bind fun k h1 => match k with
    | true => evalB X b ρ h1
    | false => .ok false h1
  | .or_ a b, ρ, h => (evalB X a ρ h).bind fun k h1 => match k with
    | true => .ok true h1
    | false => evalB X b ρ h1
  | .not_ a, ρ, h => (evalB X a ρ h).bind fun k h1 => .ok (!k) h1
  | .chain p q a b c, ρ, h => truR ((evalE X a ρ h).bind fun x h1 => (evalE X b ρ h1).bind fun y h2 => chainR p q x y (evalE X c ρ) h2)
  | .var i, ρ, h => truR (okD h (getV ρ i))
  | .prim p es, ρ, h => truR ((evalL X es ρ h).bind fun ds h1 => prim p ds h1)
  | .meth p o es, ρ, h => truR ((evalE X o ρ h).bind fun x h1 => match kindOf h1 x with
    | some k => if methOk p k then (evalL X es ρ h1).bind fun ds h2 => prim p (x :: ds) h2 else .stuck
    | none => .stuck)
  | .cut fl fh o lo hi, ρ, h => truR ((evalE X o ρ h).bind fun x h1 => (match fl with
    | true => bnd (evalE X lo ρ h1)
    | false => .ok none h1).bind fun l h2 => (match fh with
    | true => bnd (evalE X hi ρ h2)
    | false => .ok none h2).bind fun u h3 => cutR x l u h3)
  | .din neg k o, ρ, h => truR ((evalE X k ρ h).bind fun y h1 => (evalE X o ρ h1).bind fun x h2 => match dctOf h2 x, keyOf y with
    | some (_, kvs), some k => .ok (.bl (if neg then !(dLook k kvs).isSome else (dLook k kvs).isSome)) h2
    | _, _ => .stuck)
  | .call f es, ρ, h => truR ((evalL X es ρ h).bind fun ds h1 => X.C 0 f ds h1)
  | .told _ x body, ρ, h => truR (if 2 ≤ X.n then toldR X.sub x (evalE { X with n := X.n - 2, C := fun j => X.C (j + 2) } body ρ h) else .stuck)
  | _, _, _ => .stuck
def evalL (X : Cx) : L → Rho → Hh → R (List D)
  | .nil, _, h => .ok [] h
  | .cons e r, ρ, h => (evalE X e ρ h).bind fun x h1 => (evalL X r ρ h1).bind fun xs h2 => .ok (x :: xs) h2
  | .star e r, ρ, h => (evalE X e ρ h).bind fun x h1 => match seqOf h1 x with
    | some ys => (evalL X r ρ h1).bind fun xs h2 => .ok (ys ++ xs) h2
    | none => .stuck
def evalG (X : Cx) : G → Rho → Hh → R (Nat × Rd)
  | .seq e, ρ, h => (evalE X e ρ h).bind fun x h1 => match x with
    | .str s => .ok (s.cps.size, ones (fixed (signs s))) h1
    | x => match rdOf h1 x with
      | some s => .ok (s.1, ones s.2) h1
      | none => .stuck
  | .range1 e, ρ, h => (evalE X e ρ h).bind fun x h1 => match x with
    | .int j => if -(2 ^ 62) ≤ j ∧ j < 2 ^ 62 then .ok (j.toNat, ones (rgInts 0 j.toNat)) h1 else .stuck
    | _ => .stuck
  | .range2 a b, ρ, h => (evalE X a ρ h).bind fun x h1 => (evalE X b ρ h1).bind fun y h2 => match x, y with
    | .int i, .int j => if -(2 ^ 62) ≤ i ∧ i < 2 ^ 62 ∧ -(2 ^ 62) ≤ j ∧ j < 2 ^ 62 then .ok ((j - i).toNat, ones (rgInts i (j - i).toNat)) h2 else .stuck
    | _, _ => .stuck
  | .zip a b, ρ, h => (evalE X a ρ h).bind fun x h1 => (evalE X b ρ h1).bind fun y h2 => match rdOf h2 x, rdOf h2 y with
    | some s, some t => if isTup x = isTup y then .ok (s.1, zipRd s.2 t.2) h2 else .stuck
    | _, _ => .stuck
  | .enum a, ρ, h => (evalE X a ρ h).bind fun x h1 => match rdOf h1 x with
    | some s => if isTup x = false then .ok (s.1, enumRd s.2) h1 else .stuck
    | none => .stuck
end

inductive SR where
  | next (ρ : Rho) (h : Hh) | ret (d : D) (h : Hh) | brk (ρ : Rho) (h : Hh) | cnt (ρ : Rho) (h : Hh) | exc (x : Exn) (ρ : Rho) (h : Hh) | stuck
def R.toS {α : Type} (r : R α) (ρ : Rho) (f : α → Hh → SR) : SR := match r with
  | .ok a h => f a h
  | .exc x h => .exc x ρ h
  | .stuck => .stuck
@[simp] theorem R.toS_ok {α : Type} (a : α) (h : Hh) (ρ : Rho) (f : α → Hh → SR) : (R.ok a h).toS ρ f = f a h := rfl
@[simp] theorem R.toS_exc {α : Type} (x : Exn) (h : Hh) (ρ : Rho) (f : α → Hh → SR) : (R.exc x h).toS ρ f = .exc x ρ h := rfl
@[simp] theorem R.toS_stuck {α : Type} (ρ : Rho) (f : α → Hh → SR) : (R.stuck : R α).toS ρ f = .stuck := rfl
def forLoop (rd : Rd) (tg : T) (f : Rho → Hh → SR) : Nat → Nat → Rho → Hh → SR
  | 0, i, ρ, h => match rd i h with
    | some none => .next ρ h
    | _ => .stuck
  | n + 1, i, ρ, h => match rd i h with
    | some none => .next ρ h
    | some (some x) => match bindI tg x ρ with
      | some ρ1 => match f ρ1 h with
        | .next ρ2 h2 => forLoop rd tg f n (i + 1) ρ2 h2
        | .cnt ρ2 h2 => forLoop rd tg f n (i + 1) ρ2 h2
        | .brk ρ2 h2 => .next ρ2 h2
        | .ret d h2 => .ret d h2
        | .exc x ρ2 h2 => .exc x ρ2 h2
        | .stuck => .stuck
      | none => .stuck
    | none => .stuck
def whileLoop (c : Rho → Hh → R Bool) (f : Rho → Hh → SR) : Nat → Rho → Hh → SR
  | 0, _, _ => .stuck
  | n + 1, ρ, h => (c ρ h).toS ρ fun k h1 => match k with
    | false => .next ρ h1
    | true => match f ρ h1 with
      | .next ρ2 h2 => whileLoop c f n ρ2 h2
      | .cnt ρ2 h2 => whileLoop c f n ρ2 h2
      | .brk ρ2 h2 => .next ρ2 h2
      | .ret d h2 => .ret d h2
      | .exc x ρ2 h2 => .exc x ρ2 h2
      | .stuck => .stuck
def setAt (o i v : D) (h : Hh) : Option Hh := match o, i with
  | .ref n, .int k => match h[n]? with
    | some (.lst xs) => (L2.ixN xs.length k).map fun j => h.set n (.lst (xs.set j v))
    | _ => none
  | _, _ => none
def augP (p : P) (x y : D) (h : Hh) : R D := match p, x, y with
  | .add, .int i, .int j => .ok (.int (i + j)) h
  | .sub, .int i, .int j => .ok (.int (i - j)) h
  | _, _, _ => .stuck
mutual
def execS (X : Cx) (W : Nat) : S → Rho → Hh → SR
  | .expr e, ρ, h => (evalE X e ρ h).toS ρ fun _ h1 => .next ρ h1
  | .asg t e, ρ, h => (evalE X e ρ h).toS ρ fun x h1 => match bindT t x ρ with
    | some ρ1 => .next ρ1 h1
    | none => .stuck
  | .par i j a b, ρ, h => (evalE X a ρ h).toS ρ fun x h1 => (evalE X b ρ h1).toS ρ fun y h2 => .next ((ρ.set i (some x)).set j (some y)) h2
  | .aug i p e, ρ, h => match getV ρ i with
    | some x => (evalE X e ρ h).toS ρ fun y h1 => (augP p x y h1).toS ρ fun z h2 => .next (ρ.set i (some z)) h2
    | none => .stuck
  | .setIx o i e, ρ, h => (evalE X e ρ h).toS ρ fun v h1 => (evalE X o ρ h1).toS ρ fun x h2 => (evalE X i ρ h2).toS ρ fun y h3 => match setAt x y v h3 with
    | some h4 => .next ρ h4
    | none => .stuck
  | .ret e, ρ, h => (evalE X e ρ h).toS ρ fun x h1 => .ret x h1
  | .retN, _, h => .ret .non h
  | .if_ c a b, ρ, h => (evalB X c ρ h).toS ρ fun k h1 => match k with
    | true => execSS X W a ρ h1
    | false => execSS X W b ρ h1
  | .for_ tg src b, ρ, h => (evalG X src ρ h).toS ρ fun s h1 => forLoop s.2 tg (execSS X W b) s.1 0 ρ h1
  | .while_ c b, ρ, h => whileLoop (evalB X c) (execSS X W b) W ρ h
  | .raise_ x _, ρ, h => .exc ⟨x, []⟩ ρ h
  | .try_ b x i hd, ρ, h => match execSS X W b ρ h with
    | .exc y ρ1 h1 => if X.sub y.cls x then (match execSS X W hd (ρ1.set i (some (.ref h1.length))) (h1 ++ [.opq]) with
      | .next ρ2 h2 => .next (ρ2.set i none) h2
      | .brk ρ2 h2 => .brk (ρ2.set i none) h2
      | .cnt ρ2 h2 => .cnt (ρ2.set i none) h2
      | .ret d h2 => .ret d h2
      | _ => .stuck) else .exc y ρ1 h1
    | r => r
  | .pass_, ρ, h => .next ρ h
  | .brk, ρ, h => .brk ρ h
  | .cnt, ρ, h => .cnt ρ h
def execSS (X : Cx) (W : Nat) : SS → Rho → Hh → SR
  | .nil, ρ, h => .next ρ h
  | .cons s r, ρ, h => match execS X W s ρ h with
    | .next ρ1 h1 => execSS X W r ρ1 h1
    | x => x
end

/-! ### defs -/
/-- mode: 0 as it is; 1 pure: runs in an empty heap, takes and gives no cells; 2: its own cells go when it ends -/
structure Fn where
  name : Str
  ps : List Str
  N : List Str
  mode : Nat
  body : SS
/-- the defs; the module's constants; the built-in names that stand for what they are; the classes of exceptions, their relation; how many turns a while may have -/
structure Prog where
  fns : List Fn
  cons : List (Str × D)
  free : List Str
  exs : List Str
  sub : Nat → Nat → Bool
  W : Nat
  told : List (Str × Nat) := []
  lamS : List (Str × NameKind) := [("", .cell)]
def start (F : Fn) (ds : List D) : Rho := ds.map some ++ List.replicate (F.N.length - ds.length) none
def SR.fin (r : SR) : R D := match r with
  | .next _ h => .ok .non h
  | .ret d h => .ok d h
  | .exc x _ h => .exc x h
  | _ => .stuck
mutual
def below (n : Nat) : D → Bool
  | .tup xs => belowL n xs
  | .lst xs => belowL n xs
  | .ref m => decide (m < n)
  | _ => true
def belowL (n : Nat) : List D → Bool
  | [] => true
  | x :: r => below n x && belowL n r
end
def belowO (n : Nat) : O → Bool
  | .lst xs => belowL n xs
  | .dct kvs => kvs.all fun kv => below n kv.2
  | .ins _ fs => fs.all fun kv => below n kv.2
  | .opq => true
def modeR (m : Nat) (h : Hh) (r : R D) : R D := match m with
  | 0 => r
  | 1 => match r with
    | .ok d _ => if noRef d then .ok d h else .stuck
    | .exc x _ => if x.fs.all fun kv => noRef kv.2 then .exc x h else .stuck
    | .stuck => .stuck
  | _ => match r with
    | .ok d h1 => if below h.length d && (h1.take h.length).all (belowO h.length) then .ok d (h1.take h.length) else .stuck
    | r => r
def cxOf (Pg : Prog) (n : Nat) (C : Nat → Nat → List D → Hh → R D) : Cx := ⟨n, fun k => (Pg.cons[k]?).map (·.2), C, Pg.sub⟩
def runF (Pg : Prog) (n : Nat) (C : Nat → Nat → List D → Hh → R D) (f : Nat) (ds : List D) (h : Hh) : R D := match Pg.fns[f]? with
  | some F => if ds.length = F.ps.length then (if F.mode = 1 then (if noRefL ds then modeR 1 h (execSS (cxOf Pg n C) Pg.W F.body (start F ds) []).fin else .stuck) else modeR F.mode h (execSS (cxOf Pg n C) Pg.W F.body (start F ds) h).fin) else .stuck
  | none => .stuck
def run (Pg : Prog) : Nat → Nat → Nat → List D → Hh → R D
  | 0 => fun _ _ _ _ => .stuck
  | n + 1 => fun j => match j with
    | 0 => runF Pg n (run Pg n)
    | j + 1 => run Pg n j
end Ir

set_option Elab.async false
set_option linter.all false
set_option maxRecDepth 100000
set_option maxHeartbeats 4000000
/-! Ir2: how values, cells and steps stand for those of the hand layer. -/
namespace Ir
open PySem PySem.Spec PyProof.Rows
open L2 (V Hp HO TE TT TA TS VK SqL SqT Rd upd upd_same upd_ne ne_of ne_of_none valV)

/-- ι: where a cell stands; fz: the lists that nothing writes at; kp: what stays -/
structure Wd where
  ι : Nat → Option Addr
  fz : Addr → Prop
  kp : Addr → Option HO
/-- a plain tuple's object -/
abbrev tupO (its : Array Value) (n : Nat) : Obj := { cls := .type "tuple", data := .seq its n }
/-- a tuple whose object is known to be plain -/
def Tup0 (K : PySem.W.Frag) (H : Hp) (a : Addr) (vs : List V) : Prop := (∃ its n, H a = some (.frz (tupO its n) (.tup vs))) ∨
  ∃ its n, K.lookup a = some (tupO its n) ∧ its.size ≤ sizeLine ∧ L2.Vals vs its.toList
theorem Tup0.sq {K : PySem.W.Frag} {H : Hp} {a : Addr} {vs : List V} (t : Tup0 K H a vs) : SqT K H a vs := by
  rcases t with ⟨its, n, e⟩ | ⟨its, n, h1, h5, h6⟩
  · exact .inl (.inr ⟨_, e⟩)
  · exact .inr ⟨_, its, n, h1, rfl, rfl, h5, h6⟩
/-- a list that stands as it is: it is kept, or of the written part -/
def Scr (K : PySem.W.Frag) (w : Wd) (a : Addr) (vs : List V) : Prop := w.kp a = some (.lst vs) ∨ (∃ o, w.kp a = some (.frz o (.lst vs))) ∨
  ∃ (o : Obj) (its : Array Value) (n : Nat), K.lookup a = some o ∧ o.cls = .type "list" ∧ o.dict = none ∧ o.data = .seq its n ∧ its.size ≤ sizeLine ∧ L2.Vals vs its.toList
section
variable (K : PySem.W.Frag)
mutual
def Rep (w : Wd) (H : Hp) : D → V → Prop
  | .non, v => v = .non
  | .bl b, v => v = .bl b
  | .int i, v => v = .int i
  | .str s, v => v = .str s
  | .tup xs, v => ∃ a vs, v = .ref a ∧ Tup0 K H a vs ∧ RepL w H xs vs
  | .lst xs, v => ∃ a vs, v = .ref a ∧ w.fz a ∧ H a = some (.lst vs) ∧ RepL w H xs vs
  | .ref n, v => ∃ a, v = .ref a ∧ w.ι n = some a
  | .scr xs, v => ∃ a, v = .ref a ∧ Scr K w a (xs.map V.int)
def RepL (w : Wd) (H : Hp) : List D → List V → Prop
  | [], vs => vs = []
  | x :: r, vs => ∃ v us, vs = v :: us ∧ Rep w H x v ∧ RepL w H r us
end
def RepK (w : Wd) (H : Hp) : List (Key × D) → List (Key × V) → Prop
  | [], vs => vs = []
  | x :: r, vs => ∃ v us, vs = (x.1, v) :: us ∧ Rep K w H x.2 v ∧ RepK w H r us
def CellR (w : Wd) (H : Hp) (a : Addr) : O → Prop
  | .lst xs => ∃ vs, H a = some (.lst vs) ∧ RepL K w H xs vs
  | .dct kvs => ∃ vs, H a = some (.dK vs) ∧ RepK K w H kvs vs
  | .ins _ _ => False
  | .opq => True
end
def real : O → Bool
  | .opq => false
  | _ => true
def Own (w : Wd) (h : Hh) (b : Addr) : Prop := ∃ n o, h[n]? = some o ∧ real o = true ∧ w.ι n = some b
structure HRel (K : PySem.W.Frag) (T : List (Addr × Str)) (w : Wd) (h : Hh) (H : Hp) : Prop where
  cell : ∀ n o, h[n]? = some o → ∃ a, w.ι n = some a ∧ CellR K w H a o
  dom : ∀ n a, w.ι n = some a → n < h.length
  inj : ∀ n m o u a, h[n]? = some o → h[m]? = some u → real o = true → real u = true → w.ι n = some a → w.ι m = some a → n = m
  nofz : ∀ a, Own w h a → ¬ w.fz a
  fzt : ∀ a, w.fz a → ∃ vs, H a = some (.lst vs)
  kp : ∀ b o, w.kp b = some o → H b = some o ∧ (∀ ps, o ≠ .tbl ps) ∧ ¬ Own w h b
  tabs : LamX.Tabs T H
structure Step (w : Wd) (h : Hh) (H : Hp) (w' : Wd) (h' : Hh) (H' : Hp) : Prop where
  ι : ∀ n a, w.ι n = some a → w'.ι n = some a
  fz : ∀ a, w.fz a → w'.fz a
  nfz : ∀ a, w'.fz a → w.fz a ∨ H a = none
  kp : ∀ b, w'.kp b = w.kp b
  frame : ∀ b o, H b = some o → (∀ ps, o ≠ .tbl ps) → ¬ Own w h b → H' b = some o
  there : ∀ b o, H b = some o → ∃ o', H' b = some o'
  own : ∀ b, Own w' h' b → Own w h b ∨ H b = none
section
variable {K : PySem.W.Frag} {T : List (Addr × Str)} {w w' w1 w2 : Wd} {h h' h1 h2 : Hh} {H H' H1 H2 : Hp}
theorem Step.refl : Step w h H w h H := ⟨fun _ _ e => e, fun _ e => e, fun _ e => .inl e, fun _ => rfl, fun _ _ e _ _ => e, fun _ o e => ⟨o, e⟩, fun _ e => .inl e⟩
theorem Step.none_of (a : Step w h H w1 h1 H1) {b : Addr} (e : H1 b = none) : H b = none := by
  cases q : H b with
  | none => rfl
  | some o =>
    obtain ⟨o', z⟩ := a.there b o q
    rw [e] at z; cases z
theorem Step.trans (a : Step w h H w1 h1 H1) (b : Step w1 h1 H1 w2 h2 H2) : Step w h H w2 h2 H2 where
  ι := fun n c e => b.ι n c (a.ι n c e)
  fz := fun c e => b.fz c (a.fz c e)
  nfz := fun c e => (b.nfz c e).elim (a.nfz c) fun z => .inr (a.none_of z)
  kp := fun c => (b.kp c).trans (a.kp c)
  frame := fun c o e nt no => b.frame c o (a.frame c o e nt no) nt fun z => (a.own c z).elim no fun z => by rw [e] at z; cases z
  there := fun c o e => let ⟨o', z⟩ := a.there c o e; b.there c o' z
  own := fun c e => (b.own c e).elim (a.own c) fun z => .inr (a.none_of z)
/-- a cell that is one is a list or a dict there -/
theorem HRel.ownK (r : HRel K T w h H) {b : Addr} (o : Own w h b) : (∃ vs, H b = some (.lst vs)) ∨ ∃ vs, H b = some (.dK vs) := by
  obtain ⟨n, u, e1, e2, e3⟩ := o
  obtain ⟨a, e4, c⟩ := r.cell n u e1
  rw [e3] at e4; cases e4
  cases u with
  | lst xs => obtain ⟨vs, z, _⟩ := c; exact .inl ⟨vs, z⟩
  | dct xs => obtain ⟨vs, z, _⟩ := c; exact .inr ⟨vs, z⟩
  | ins _ _ => exact c.elim
  | opq => cases e2
theorem Step.tup (s : Step w h H w' h' H') (r : HRel K T w h H) {a : Addr} {vs : List V} (q : Tup0 K H a vs) : Tup0 K H' a vs := by
  rcases q with ⟨o, d, q⟩ | q
  · refine .inl ⟨o, d, s.frame a _ q (fun _ z => by cases z) fun z => ?_⟩
    rcases r.ownK z with ⟨_, z⟩ | ⟨_, z⟩ <;> rw [q] at z <;> cases z
  · exact .inr q
theorem Step.scr (s : Step w h H w' h' H') {a : Addr} {vs : List V} (q : Scr K w a vs) : Scr K w' a vs :=
  q.elim (fun q => .inl ((s.kp _).trans q)) fun q => .inr (q.elim (fun ⟨o, q⟩ => .inl ⟨o, (s.kp _).trans q⟩) .inr)
theorem HRel.scr (r : HRel K T w h H) {a : Addr} {vs : List V} (q : Scr K w a vs) : SqL K H a vs :=
  q.elim (fun q => .inl (.inl (r.kp _ _ q).1)) fun q => q.elim (fun ⟨o, q⟩ => .inl (.inr ⟨o, (r.kp _ _ q).1⟩)) .inr
mutual
theorem Rep.step (s : Step w h H w' h' H') (r : HRel K T w h H) : ∀ (d : D) (v : V), Rep K w H d v → Rep K w' H' d v
  | .non, _, q => q
  | .bl _, _, q => q
  | .int _, _, q => q
  | .str _, _, q => q
  | .tup xs, v, ⟨a, vs, e, q, p⟩ => ⟨a, vs, e, s.tup r q, RepL.step s r xs vs p⟩
  | .lst xs, v, ⟨a, vs, e, f, q, p⟩ => ⟨a, vs, e, s.fz a f, s.frame a _ q (fun _ z => by cases z) (fun z => r.nofz a z f), RepL.step s r xs vs p⟩
  | .ref n, v, ⟨a, e, q⟩ => ⟨a, e, s.ι n a q⟩
  | .scr xs, v, ⟨a, e, q⟩ => ⟨a, e, s.scr q⟩
theorem RepL.step (s : Step w h H w' h' H') (r : HRel K T w h H) : ∀ (d : List D) (v : List V), RepL K w H d v → RepL K w' H' d v
  | [], _, q => q
  | x :: xs, vs, ⟨v, us, e, q, p⟩ => ⟨v, us, e, Rep.step s r x v q, RepL.step s r xs us p⟩
end
theorem RepK.step (s : Step w h H w' h' H') (r : HRel K T w h H) : ∀ (d : List (Key × D)) (v : List (Key × V)), RepK K w H d v → RepK K w' H' d v
  | [], _, q => q
  | x :: xs, vs, ⟨v, us, e, q, p⟩ => ⟨v, us, e, Rep.step s r x.2 v q, RepK.step s r xs us p⟩
theorem CellR.step (s : Step w h H w' h' H') (r : HRel K T w h H) {a : Addr} {o : O} (st : H' a = H a) (c : CellR K w H a o) : CellR K w' H' a o := by
  cases o with
  | lst xs => obtain ⟨vs, e, q⟩ := c; exact ⟨vs, st.trans e, RepL.step s r _ _ q⟩
  | dct xs => obtain ⟨vs, e, q⟩ := c; exact ⟨vs, st.trans e, RepK.step s r _ _ q⟩
  | ins _ _ => exact c.elim
  | opq => trivial
/-! lists of values -/
theorem RepL.length : ∀ {xs : List D} {vs : List V}, RepL K w H xs vs → vs.length = xs.length
  | [], _, q => by
    have q : _ = _ := q
    subst q; rfl
  | x :: r, _, ⟨v, us, e, _, p⟩ => by subst e; simp [RepL.length p]
theorem RepL.nil : RepL K w H [] [] := rfl
theorem RepL.cons {x : D} {v : V} {xs : List D} {vs : List V} (a : Rep K w H x v) (b : RepL K w H xs vs) : RepL K w H (x :: xs) (v :: vs) := ⟨v, vs, rfl, a, b⟩
theorem RepL.get : ∀ {xs : List D} {vs : List V} {i : Nat} {x : D}, RepL K w H xs vs → xs[i]? = some x → ∃ v, vs[i]? = some v ∧ Rep K w H x v
  | [], _, _, _, _, e => by simp at e
  | y :: r, _, 0, x, ⟨v, us, e, q, _⟩, z => by
    simp at z; subst z; subst e
    exact ⟨v, rfl, q⟩
  | y :: r, _, i + 1, x, ⟨v, us, e, _, p⟩, z => by
    subst e
    obtain ⟨u, a, b⟩ := RepL.get (i := i) p (by simpa using z)
    exact ⟨u, by simpa using a, b⟩
theorem RepL.at : ∀ {xs : List D} {vs : List V} {i : Nat} {v : V}, RepL K w H xs vs → vs[i]? = some v → ∃ x, xs[i]? = some x ∧ Rep K w H x v := fun {xs vs i v} q e => by
  have hl := q.length
  obtain ⟨hi, _⟩ := List.getElem?_eq_some_iff.mp e
  have hx : xs[i]? = some (xs[i]'(by omega)) := List.getElem?_eq_getElem (by omega)
  obtain ⟨u, a, b⟩ := q.get hx
  rw [e] at a; cases a
  exact ⟨_, hx, b⟩
theorem RepL.append : ∀ {xs ys : List D} {vs us : List V}, RepL K w H xs vs → RepL K w H ys us → RepL K w H (xs ++ ys) (vs ++ us)
  | [], _, _, _, q, p => by
    have q : _ = _ := q
    subst q; exact p
  | x :: r, ys, _, us, ⟨v, us', e, a, b⟩, p => by subst e; exact ⟨v, _, rfl, a, RepL.append b p⟩
theorem RepL.take : ∀ {xs : List D} {vs : List V} (n : Nat), RepL K w H xs vs → RepL K w H (xs.take n) (vs.take n)
  | _, _, 0, _ => by simp [RepL]
  | [], _, n + 1, q => by
    have q : _ = _ := q
    subst q; simp [RepL]
  | x :: r, _, n + 1, ⟨v, us, e, a, b⟩ => by subst e; exact ⟨v, _, rfl, a, RepL.take n b⟩
theorem RepL.drop : ∀ {xs : List D} {vs : List V} (n : Nat), RepL K w H xs vs → RepL K w H (xs.drop n) (vs.drop n)
  | _, _, 0, q => q
  | [], _, n + 1, q => by
    have q : _ = _ := q
    subst q; simp [RepL]
  | x :: r, _, n + 1, ⟨v, us, e, a, b⟩ => by subst e; exact RepL.drop n b
theorem RepL.set : ∀ {xs : List D} {vs : List V} (n : Nat) {x : D} {v : V}, RepL K w H xs vs → Rep K w H x v → RepL K w H (xs.set n x) (vs.set n v)
  | [], _, _, _, _, q, _ => by
    have q : _ = _ := q
    subst q; simp [RepL]
  | y :: r, _, 0, x, v, ⟨u, us, e, a, b⟩, p => by subst e; exact ⟨v, us, rfl, p, b⟩
  | y :: r, _, n + 1, x, v, ⟨u, us, e, a, b⟩, p => by subst e; exact ⟨u, _, rfl, a, RepL.set n b p⟩
/-! a new object of the layer; nothing else changes -/
theorem Step.new {p : Addr} {o : HO} (hp : H p = none) : Step w h H w h (upd H p o) :=
  ⟨fun _ _ e => e, fun _ e => e, fun _ e => .inl e, fun _ => rfl, fun b u e _ _ => by rw [upd_ne (ne_of_none e hp)]; exact e, fun b u e => ⟨u, by rw [upd_ne (ne_of_none e hp)]; exact e⟩, fun _ e => .inl e⟩
theorem HRel.new (r : HRel K T w h H) {p : Addr} {o : HO} (hp : H p = none) : HRel K T w h (upd H p o) where
  cell := fun n u e => by
    obtain ⟨a, e1, c⟩ := r.cell n u e
    by_cases hr : real u = true
    · refine ⟨a, e1, c.step (Step.new hp) r (upd_ne ?_)⟩
      rcases r.ownK ⟨n, u, e, hr, e1⟩ with ⟨_, z⟩ | ⟨_, z⟩ <;> exact ne_of_none z hp
    · cases u with
      | opq => exact ⟨a, e1, trivial⟩
      | _ => exact (hr rfl).elim
  dom := r.dom
  inj := r.inj
  nofz := r.nofz
  fzt := fun a f => let ⟨vs, e⟩ := r.fzt a f; ⟨vs, by rw [upd_ne (ne_of_none e hp)]; exact e⟩
  kp := fun b u e => ⟨by rw [upd_ne (ne_of_none (r.kp b u e).1 hp)]; exact (r.kp b u e).1, (r.kp b u e).2⟩
  tabs := r.tabs.ext fun b u e => by rw [upd_ne (ne_of_none e hp)]; exact e
/-- a new list that nothing writes at -/
def Wd.frz (w : Wd) (p : Addr) : Wd := ⟨w.ι, fun a => w.fz a ∨ a = p, w.kp⟩
theorem Step.newF {p : Addr} {o : HO} (hp : H p = none) : Step w h H (w.frz p) h (upd H p o) :=
  ⟨fun _ _ e => e, fun _ e => .inl e, fun a e => e.elim .inl fun z => .inr (z ▸ hp), fun _ => rfl, fun b u e _ _ => by rw [upd_ne (ne_of_none e hp)]; exact e, fun b u e => ⟨u, by rw [upd_ne (ne_of_none e hp)]; exact e⟩, fun _ e => .inl e⟩
theorem HRel.newF (r : HRel K T w h H) {p : Addr} {vs : List V} (hp : H p = none) : HRel K T (w.frz p) h (upd H p (.lst vs)) where
  cell := fun n u e => by
    obtain ⟨a, e1, c⟩ := r.cell n u e
    by_cases hr : real u = true
    · refine ⟨a, e1, c.step (Step.newF hp) r (upd_ne ?_)⟩
      rcases r.ownK ⟨n, u, e, hr, e1⟩ with ⟨_, z⟩ | ⟨_, z⟩ <;> exact ne_of_none z hp
    · cases u with
      | opq => exact ⟨a, e1, trivial⟩
      | _ => exact (hr rfl).elim
  dom := r.dom
  inj := r.inj
  nofz := fun a o z => by
    rcases z with z | z
    · exact r.nofz a o z
    · rcases r.ownK (h := h) o with ⟨_, q⟩ | ⟨_, q⟩ <;> rw [z, hp] at q <;> cases q
  fzt := fun a f => by
    rcases f with f | f
    · obtain ⟨us, e⟩ := r.fzt a f
      exact ⟨us, by rw [upd_ne (ne_of_none e hp)]; exact e⟩
    · exact ⟨vs, by rw [f, upd_same]⟩
  kp := fun b u e => ⟨by rw [upd_ne (ne_of_none (r.kp b u e).1 hp)]; exact (r.kp b u e).1, (r.kp b u e).2⟩
  tabs := r.tabs.ext fun b u e => by rw [upd_ne (ne_of_none e hp)]; exact e
/-- a new cell -/
def Wd.cell (w : Wd) (n : Nat) (p : Addr) : Wd := ⟨fun m => if m = n then some p else w.ι m, w.fz, w.kp⟩
theorem own_push {o : O} {p b : Addr} (dom : ∀ n a, w.ι n = some a → n < h.length) (q : Own (w.cell h.length p) (h ++ [o]) b) : Own w h b ∨ b = p := by
  obtain ⟨n, u, e1, e2, e3⟩ := q
  by_cases hn : n = h.length
  · subst hn
    have e3 : (if h.length = h.length then some p else w.ι h.length) = some b := e3
    rw [if_pos rfl] at e3
    exact .inr (Option.some.inj e3).symm
  · have e3 : (if n = h.length then some p else w.ι n) = some b := e3
    rw [if_neg hn] at e3
    have hlt := dom n b e3
    rw [List.getElem?_append_left hlt] at e1
    exact .inl ⟨n, u, e1, e2, e3⟩
theorem Step.newC (r : HRel K T w h H) {p : Addr} {o : HO} {u : O} (hp : H p = none) : Step w h H (w.cell h.length p) (h ++ [u]) (upd H p o) where
  ι := fun n a e => by
    show (if n = h.length then some p else w.ι n) = some a
    rw [if_neg (Nat.ne_of_lt (r.dom n a e))]; exact e
  fz := fun _ e => e
  nfz := fun _ e => .inl e
  kp := fun _ => rfl
  frame := fun b o e _ _ => by rw [upd_ne (ne_of_none e hp)]; exact e
  there := fun b o e => ⟨o, by rw [upd_ne (ne_of_none e hp)]; exact e⟩
  own := fun b e => (own_push r.dom e).elim .inl fun z => .inr (z ▸ hp)
theorem HRel.newC (r : HRel K T w h H) {p : Addr} {o : HO} {u : O} (hp : H p = none) (c : CellR K (w.cell h.length p) (upd H p o) p u) : HRel K T (w.cell h.length p) (h ++ [u]) (upd H p o) where
  cell := fun n x e => by
    by_cases hn : n = h.length
    · subst hn
      rw [List.getElem?_append_right (Nat.le_refl _), Nat.sub_self] at e
      have e : u = x := by simpa using e
      subst e
      exact ⟨p, if_pos rfl, c⟩
    · have hlt : n < h.length := by
        obtain ⟨h1, _⟩ := List.getElem?_eq_some_iff.mp e
        simp at h1; omega
      rw [List.getElem?_append_left hlt] at e
      obtain ⟨a, e1, c⟩ := r.cell n x e
      refine ⟨a, (if_neg hn).trans e1, ?_⟩
      by_cases hr : real x = true
      · refine c.step (Step.newC (o := o) (u := u) r hp) r (upd_ne ?_)
        rcases r.ownK ⟨n, x, e, hr, e1⟩ with ⟨_, z⟩ | ⟨_, z⟩ <;> exact ne_of_none z hp
      · cases x with
        | opq => trivial
        | _ => exact (hr rfl).elim
  dom := fun n a e => by
    by_cases hn : n = h.length
    · simp [hn]
    · have e : (if n = h.length then some p else w.ι n) = some a := e
      rw [if_neg hn] at e
      have := r.dom n a e
      simp; omega
  inj := fun n m x y a e1 e2 r1 r2 i1 i2 => by
    have key : ∀ {k : Nat} {z : O}, (h ++ [u])[k]? = some z → real z = true → (w.cell h.length p).ι k = some a → (k = h.length ∧ a = p) ∨ (h[k]? = some z ∧ w.ι k = some a ∧ a ≠ p) := by
      intro k z e rz i
      by_cases hk : k = h.length
      · have i : (if k = h.length then some p else w.ι k) = some a := i
        rw [if_pos hk] at i
        exact .inl ⟨hk, (Option.some.inj i).symm⟩
      · have i : (if k = h.length then some p else w.ι k) = some a := i
        rw [if_neg hk] at i
        rw [List.getElem?_append_left (r.dom k a i)] at e
        refine .inr ⟨e, i, ?_⟩
        rcases r.ownK ⟨k, z, e, rz, i⟩ with ⟨_, q⟩ | ⟨_, q⟩ <;> exact ne_of_none q hp
    rcases key e1 r1 i1 with ⟨a1, a2⟩ | ⟨a1, a2, a3⟩ <;> rcases key e2 r2 i2 with ⟨b1, b2⟩ | ⟨b1, b2, b3⟩
    · rw [a1, b1]
    · exact (b3 a2).elim
    · exact (a3 b2).elim
    · exact r.inj n m x y a a1 b1 r1 r2 a2 b2
  nofz := fun a q z => by
    obtain ⟨n, x, e1, e2, e3⟩ := q
    by_cases hn : n = h.length
    · subst hn
      rw [List.getElem?_append_right (Nat.le_refl _), Nat.sub_self] at e1
      have e1 : u = x := by simpa using e1
      subst e1
      have e3 : (if h.length = h.length then some p else w.ι h.length) = some a := e3
      rw [if_pos rfl] at e3; cases e3
      obtain ⟨vs, q⟩ := r.fzt _ z
      rw [hp] at q; cases q
    · have e3 : (if n = h.length then some p else w.ι n) = some a := e3
      rw [if_neg hn] at e3
      rw [List.getElem?_append_left (r.dom n a e3)] at e1
      exact r.nofz a ⟨n, x, e1, e2, e3⟩ z
  kp := fun b v e => by
    obtain ⟨k1, k2, k3⟩ := r.kp b v e
    refine ⟨by rw [upd_ne (ne_of_none k1 hp)]; exact k1, k2, fun z => (own_push r.dom z).elim k3 fun z => ?_⟩
    rw [z, hp] at k1; cases k1
  fzt := fun a f => let ⟨vs, e⟩ := r.fzt a f; ⟨vs, by rw [upd_ne (ne_of_none e hp)]; exact e⟩
  tabs := r.tabs.ext fun b v e => by rw [upd_ne (ne_of_none e hp)]; exact e
/-! a list that stands there already is taken over -/
structure WLe (w w' : Wd) : Prop where
  ι : ∀ n a, w.ι n = some a → w'.ι n = some a
  fz : ∀ a, w.fz a → w'.fz a
  kp : ∀ b o, w.kp b = some o → w'.kp b = some o
theorem Scr.mono (l : WLe w w') {a : Addr} {vs : List V} (q : Scr K w a vs) : Scr K w' a vs :=
  q.elim (fun q => .inl (l.kp _ _ q)) fun q => .inr (q.elim (fun ⟨o, q⟩ => .inl ⟨o, l.kp _ _ q⟩) .inr)
mutual
theorem Rep.mono (l : WLe w w') : ∀ (d : D) (v : V), Rep K w H d v → Rep K w' H d v
  | .non, _, q => q
  | .bl _, _, q => q
  | .int _, _, q => q
  | .str _, _, q => q
  | .tup xs, v, ⟨a, vs, e, q, p⟩ => ⟨a, vs, e, q, RepL.mono l xs vs p⟩
  | .lst xs, v, ⟨a, vs, e, f, q, p⟩ => ⟨a, vs, e, l.fz a f, q, RepL.mono l xs vs p⟩
  | .ref n, v, ⟨a, e, q⟩ => ⟨a, e, l.ι n a q⟩
  | .scr xs, v, ⟨a, e, q⟩ => ⟨a, e, q.mono l⟩
theorem RepL.mono (l : WLe w w') : ∀ (d : List D) (v : List V), RepL K w H d v → RepL K w' H d v
  | [], _, q => q
  | x :: xs, vs, ⟨v, us, e, q, p⟩ => ⟨v, us, e, Rep.mono l x v q, RepL.mono l xs us p⟩
end
theorem RepK.mono (l : WLe w w') : ∀ (d : List (Key × D)) (v : List (Key × V)), RepK K w H d v → RepK K w' H d v
  | [], _, q => q
  | x :: xs, vs, ⟨v, us, e, q, p⟩ => ⟨v, us, e, Rep.mono l x.2 v q, RepK.mono l xs us p⟩
theorem CellR.mono (l : WLe w w') {a : Addr} {o : O} (c : CellR K w H a o) : CellR K w' H a o := by
  cases o with
  | lst xs => obtain ⟨vs, e, q⟩ := c; exact ⟨vs, e, RepL.mono l _ _ q⟩
  | dct xs => obtain ⟨vs, e, q⟩ := c; exact ⟨vs, e, RepK.mono l _ _ q⟩
  | ins _ _ => exact c.elim
  | opq => trivial
theorem Wd.le_frz {p : Addr} : WLe w (w.frz p) := ⟨fun _ _ e => e, fun _ e => .inl e, fun _ _ e => e⟩
theorem HRel.adoptF (r : HRel K T w h H) {p : Addr} {vs : List V} (e : H p = some (.lst vs)) (no : ¬ Own w h p) : HRel K T (w.frz p) h H where
  cell := fun n u q => let ⟨a, e1, c⟩ := r.cell n u q; ⟨a, e1, c.mono Wd.le_frz⟩
  dom := r.dom
  inj := r.inj
  nofz := fun a o z => z.elim (r.nofz a o) fun z => no (z ▸ o)
  fzt := fun a f => f.elim (r.fzt a) fun z => ⟨vs, z ▸ e⟩
  kp := r.kp
  tabs := r.tabs
theorem Step.adoptF {w0 : Wd} {h0 : Hh} {H0 : Hp} {p : Addr} (s : Step w0 h0 H0 w h H) (e : H0 p = none) : Step w0 h0 H0 (w.frz p) h H :=
  ⟨s.ι, fun a f => .inl (s.fz a f), fun a f => f.elim (s.nfz a) fun z => .inr (z ▸ e), s.kp, s.frame, s.there, s.own⟩
theorem Wd.le_cell (r : HRel K T w h H) {p : Addr} : WLe w (w.cell h.length p) := ⟨fun n a e => (if_neg (Nat.ne_of_lt (r.dom n a e))).trans e, fun _ e => e, fun _ _ e => e⟩
theorem HRel.adoptC (r : HRel K T w h H) {p : Addr} {xs : List D} {vs : List V} (e : H p = some (.lst vs)) (no : ¬ Own w h p) (nf : ¬ w.fz p) (nk : w.kp p = none) (q : RepL K w H xs vs) : HRel K T (w.cell h.length p) (h ++ [.lst xs]) H where
  cell := fun n x q' => by
    by_cases hn : n = h.length
    · subst hn
      rw [List.getElem?_append_right (Nat.le_refl _), Nat.sub_self] at q'
      have q' : O.lst xs = x := by simpa using q'
      subst q'
      exact ⟨p, if_pos rfl, vs, e, RepL.mono (Wd.le_cell r) _ _ q⟩
    · have hlt : n < h.length := by
        obtain ⟨h1, _⟩ := List.getElem?_eq_some_iff.mp q'
        simp at h1; omega
      rw [List.getElem?_append_left hlt] at q'
      obtain ⟨a, e1, c⟩ := r.cell n x q'
      exact ⟨a, (if_neg hn).trans e1, c.mono (Wd.le_cell r)⟩
  dom := fun n a i => by
    by_cases hn : n = h.length
    · simp [hn]
    · have i : (if n = h.length then some p else w.ι n) = some a := i
      rw [if_neg hn] at i
      have := r.dom n a i
      simp; omega
  inj := fun n m x y a e1 e2 r1 r2 i1 i2 => by
    have key : ∀ {k : Nat} {z : O}, (h ++ [O.lst xs])[k]? = some z → real z = true → (w.cell h.length p).ι k = some a → (k = h.length ∧ a = p) ∨ (h[k]? = some z ∧ w.ι k = some a ∧ a ≠ p) := by
      intro k z e' rz i
      by_cases hk : k = h.length
      · have i : (if k = h.length then some p else w.ι k) = some a := i
        rw [if_pos hk] at i
        exact .inl ⟨hk, (Option.some.inj i).symm⟩
      · have i : (if k = h.length then some p else w.ι k) = some a := i
        rw [if_neg hk] at i
        rw [List.getElem?_append_left (r.dom k a i)] at e'
        exact .inr ⟨e', i, fun z' => no (z' ▸ ⟨k, z, e', rz, i⟩)⟩
    rcases key e1 r1 i1 with ⟨a1, a2⟩ | ⟨a1, a2, a3⟩ <;> rcases key e2 r2 i2 with ⟨b1, b2⟩ | ⟨b1, b2, b3⟩
    · rw [a1, b1]
    · exact (b3 a2).elim
    · exact (a3 b2).elim
    · exact r.inj n m x y a a1 b1 r1 r2 a2 b2
  nofz := fun a o z => (own_push r.dom o).elim (fun o => r.nofz a o z) fun e' => nf (e' ▸ z)
  fzt := r.fzt
  kp := fun b v e' => by
    obtain ⟨k1, k2, k3⟩ := r.kp b v e'
    refine ⟨k1, k2, fun z => (own_push r.dom z).elim k3 fun z => ?_⟩
    have e' : w.kp b = some v := e'
    rw [z, nk] at e'; cases e'
  tabs := r.tabs
theorem Step.adoptC {w0 : Wd} {h0 : Hh} {H0 : Hp} {p : Addr} {x : O} (s : Step w0 h0 H0 w h H) (r : HRel K T w h H) (e : H0 p = none) : Step w0 h0 H0 (w.cell h.length p) (h ++ [x]) H :=
  ⟨fun n a i => (if_neg (Nat.ne_of_lt (r.dom n a (s.ι n a i)))).trans (s.ι n a i), s.fz, s.nfz, s.kp, s.frame, s.there, fun b o => (own_push r.dom o).elim (s.own b) fun z => .inr (z ▸ e)⟩
/-! a cell written -/
theorem own_set {n : Nat} {o u : O} {b : Addr} (e : h[n]? = some o) (ro : real o = true) (ru : real u = true) : Own w (h.set n u) b ↔ Own w h b := by
  have hn : n < h.length := (List.getElem?_eq_some_iff.mp e).1
  constructor
  · rintro ⟨m, x, e1, e2, e3⟩
    by_cases hm : n = m
    · subst hm; exact ⟨n, o, e, ro, e3⟩
    · rw [List.getElem?_set_ne hm] at e1; exact ⟨m, x, e1, e2, e3⟩
  · rintro ⟨m, x, e1, e2, e3⟩
    by_cases hm : n = m
    · subst hm; exact ⟨n, u, by rw [List.getElem?_set_self hn], ru, e3⟩
    · exact ⟨m, x, by rw [List.getElem?_set_ne hm]; exact e1, e2, e3⟩
theorem Step.put {n : Nat} {o u : O} {a : Addr} {v : HO} (r : HRel K T w h H) (e : h[n]? = some o) (ro : real o = true) (ru : real u = true) (i : w.ι n = some a) : Step w h H w (h.set n u) (upd H a v) where
  ι := fun _ _ e => e
  fz := fun _ e => e
  nfz := fun _ e => .inl e
  kp := fun _ => rfl
  frame := fun b x eb _ no => by
    have : b ≠ a := fun z => no (z ▸ ⟨n, o, e, ro, i⟩)
    rw [upd_ne this]; exact eb
  there := fun b x eb => by
    by_cases hb : b = a
    · exact ⟨v, by rw [hb, upd_same]⟩
    · exact ⟨x, by rw [upd_ne hb]; exact eb⟩
  own := fun b z => .inl ((own_set e ro ru).mp z)
theorem tabs_upd {a : Addr} {v : HO} (t : LamX.Tabs T H) (hk : (∃ vs, H a = some (.lst vs)) ∨ ∃ vs, H a = some (.dK vs)) : LamX.Tabs T (upd H a v) := fun p hp => by
  obtain ⟨ps, h1, h2, h3⟩ := t p hp
  have ne : ∀ {b : Addr} {x : HO}, H b = some x → (∀ vs, x ≠ .lst vs) → (∀ vs, x ≠ .dK vs) → b ≠ a := fun {b x} e n1 n2 z => by
    subst z
    rcases hk with ⟨vs, q⟩ | ⟨vs, q⟩ <;> rw [e] at q <;> cases q
    · exact n1 _ rfl
    · exact n2 _ rfl
  refine ⟨ps, by rw [upd_ne (ne h1 (fun _ z => by cases z) (fun _ z => by cases z))]; exact h1, h2, fun pos cv hc => ?_⟩
  obtain ⟨c, e1, e2⟩ := h3 pos cv hc
  exact ⟨c, e1, by rw [upd_ne (ne e2 (fun _ z => by unfold LamX.CodeO at z; cases z) (fun _ z => by unfold LamX.CodeO at z; cases z))]; exact e2⟩
theorem HRel.put {n : Nat} {o u : O} {a : Addr} {v : HO} (r : HRel K T w h H) (e : h[n]? = some o) (ro : real o = true) (ru : real u = true) (i : w.ι n = some a) (c : CellR K w (upd H a v) a u) : HRel K T w (h.set n u) (upd H a v) where
  cell := fun m x em => by
    have hn : n < h.length := (List.getElem?_eq_some_iff.mp e).1
    by_cases hm : n = m
    · subst hm
      rw [List.getElem?_set_self hn] at em; cases em
      exact ⟨a, i, c⟩
    · rw [List.getElem?_set_ne hm] at em
      obtain ⟨b, eb, cb⟩ := r.cell m x em
      refine ⟨b, eb, ?_⟩
      by_cases hr : real x = true
      · refine cb.step (Step.put (v := v) r e ro ru i) r (upd_ne fun z => hm ?_)
        subst z
        exact r.inj n m o x b e em ro hr i eb
      · cases x with
        | opq => trivial
        | _ => exact (hr rfl).elim
  dom := fun m b e => by rw [List.length_set]; exact r.dom m b e
  inj := fun m k x y b e1 e2 r1 r2 i1 i2 => by
    have key : ∀ {j : Nat} {z : O}, (h.set n u)[j]? = some z → real z = true → ∃ z', h[j]? = some z' ∧ real z' = true := by
      intro j z ez rz
      by_cases hj : n = j
      · subst hj; exact ⟨o, e, ro⟩
      · rw [List.getElem?_set_ne hj] at ez; exact ⟨z, ez, rz⟩
    obtain ⟨x', a1, a2⟩ := key e1 r1
    obtain ⟨y', b1, b2⟩ := key e2 r2
    exact r.inj m k x' y' b a1 b1 a2 b2 i1 i2
  nofz := fun b z => r.nofz b ((own_set e ro ru).mp z)
  fzt := fun b f => by
    obtain ⟨vs, q⟩ := r.fzt b f
    have nb : b ≠ a := fun z => r.nofz b (z ▸ ⟨n, o, e, ro, i⟩) f
    exact ⟨vs, by rw [upd_ne nb]; exact q⟩
  kp := fun b x eb => by
    obtain ⟨k1, k2, k3⟩ := r.kp b x eb
    have : b ≠ a := fun z => k3 (z ▸ ⟨n, o, e, ro, i⟩)
    exact ⟨by rw [upd_ne this]; exact k1, k2, fun z => k3 ((own_set e ro ru).mp z)⟩
  tabs := tabs_upd r.tabs (r.ownK ⟨n, o, e, ro, i⟩)
theorem HRel.lst (r : HRel K T w h H) {n : Nat} {xs : List D} (e : h[n]? = some (.lst xs)) : ∃ a vs, w.ι n = some a ∧ H a = some (.lst vs) ∧ RepL K w H xs vs := by
  obtain ⟨a, i, vs, q, p⟩ := r.cell n _ e
  exact ⟨a, vs, i, q, p⟩
theorem HRel.dct (r : HRel K T w h H) {n : Nat} {xs : List (Key × D)} (e : h[n]? = some (.dct xs)) : ∃ a vs, w.ι n = some a ∧ H a = some (.dK vs) ∧ RepK K w H xs vs := by
  obtain ⟨a, i, vs, q, p⟩ := r.cell n _ e
  exact ⟨a, vs, i, q, p⟩
end
/-! environments -/
def EnvR (K : PySem.W.Frag) (w : Wd) (H : Hp) (ρ : Rho) (σ : L2.St) : Prop := ρ.length = σ.length ∧ ∀ i d, getV ρ i = some d → ∃ v, σ[i]? = some (some v) ∧ Rep K w H d v
section
variable {K : PySem.W.Frag} {T : List (Addr × Str)} {w w' : Wd} {h h' : Hh} {H H' : Hp} {ρ : Rho} {σ : L2.St}
theorem EnvR.step (s : Step w h H w' h' H') (r : HRel K T w h H) (e : EnvR K w H ρ σ) : EnvR K w' H' ρ σ :=
  ⟨e.1, fun i d z => let ⟨v, a, b⟩ := e.2 i d z; ⟨v, a, Rep.step s r d v b⟩⟩
theorem getV_set {i j : Nat} {d x : D} (e : getV (ρ.set i (some d)) j = some x) : (j = i ∧ x = d ∧ i < ρ.length) ∨ (j ≠ i ∧ getV ρ j = some x) := by
  unfold getV at e ⊢
  by_cases hj : i = j
  · subst hj
    by_cases hl : i < ρ.length
    · rw [List.getElem?_set_self hl] at e
      exact .inl ⟨rfl, (Option.some.inj e).symm, hl⟩
    · rw [List.getElem?_eq_none (by simpa using hl)] at e; cases e
  · rw [List.getElem?_set_ne hj] at e
    exact .inr ⟨Ne.symm hj, e⟩
theorem getV_clr {i j : Nat} {x : D} (e : getV (ρ.set i none) j = some x) : j ≠ i ∧ getV ρ j = some x := by
  unfold getV at e ⊢
  by_cases hj : i = j
  · subst hj
    by_cases hl : i < ρ.length
    · rw [List.getElem?_set_self hl] at e; cases e
    · rw [List.getElem?_eq_none (by simpa using hl)] at e; cases e
  · rw [List.getElem?_set_ne hj] at e
    exact ⟨Ne.symm hj, e⟩
theorem EnvR.set {i : Nat} {d : D} {v : V} (e : EnvR K w H ρ σ) (p : Rep K w H d v) : EnvR K w H (ρ.set i (some d)) (σ.set i (some v)) := by
  refine ⟨by simp [e.1], fun j x z => ?_⟩
  rcases getV_set z with ⟨rfl, rfl, hl⟩ | ⟨hj, z⟩
  · exact ⟨v, by rw [List.getElem?_set_self (by rw [← e.1]; exact hl)], p⟩
  · obtain ⟨u, a, b⟩ := e.2 j x z
    exact ⟨u, by rw [List.getElem?_set_ne (Ne.symm hj)]; exact a, b⟩
theorem EnvR.clr {i : Nat} (e : EnvR K w H ρ σ) : EnvR K w H (ρ.set i none) (σ.set i none) := by
  refine ⟨by simp [e.1], fun j x z => ?_⟩
  obtain ⟨hj, z⟩ := getV_clr z
  obtain ⟨u, a, b⟩ := e.2 j x z
  exact ⟨u, by rw [List.getElem?_set_ne (Ne.symm hj)]; exact a, b⟩
theorem EnvR.wipe (e : EnvR K w H ρ σ) : ∀ vs : List Nat, EnvR K w H (wipe ρ vs) (L2.wipe σ vs)
  | [] => e
  | v :: vs => (EnvR.wipe e vs).clr
end
/-! results -/
def Does {α β : Type} (K : PySem.W.Frag) (T : List (Addr × Str)) (rel : Wd → Hp → α → β → Prop) (W : Exn → Wd → Hp → Prop) (w : Wd) (h : Hh) (H : Hp) (r : R α) (Q : β → Hp → Prop) : Prop := match r with
  | .ok d h' => ∀ w' H' v, Step w h H w' h' H' → HRel K T w' h' H' → rel w' H' d v → Q v H'
  | .exc x h' => ∀ w' H', Step w h H w' h' H' → HRel K T w' h' H' → W x w' H'
  | .stuck => False
section
variable {K : PySem.W.Frag} {T : List (Addr × Str)} {w w' w1 : Wd} {h h' h1 : Hh} {H H' H1 : Hp} {α β γ δ : Type} {rel : Wd → Hp → α → β → Prop} {rel2 : Wd → Hp → γ → δ → Prop} {W : Exn → Wd → Hp → Prop}
theorem Does.from {r : R α} {Q : β → Hp → Prop} (s : Step w h H w1 h1 H1) (d : Does K T rel W w h H r Q) : Does K T rel W w1 h1 H1 r Q := by
  cases r with
  | ok a h' => exact fun w' H' v st => d w' H' v (s.trans st)
  | exc x h' => exact fun w' H' st => d w' H' (s.trans st)
  | stuck => exact d
theorem Does.bind {r : R α} {f : α → Hh → R γ} {Q : δ → Hp → Prop} (d : Does K T rel2 W w h H (r.bind f) Q) :
    Does K T rel W w h H r fun y H1 => ∃ w1 h1 a, Step w h H w1 h1 H1 ∧ HRel K T w1 h1 H1 ∧ rel w1 H1 a y ∧ Does K T rel2 W w1 h1 H1 (f a h1) Q := by
  cases r with
  | ok a h' => exact fun w' H' v st hr rp => ⟨w', h', a, st, hr, rp, Does.from st (show Does K T rel2 W w h H (f a h') Q from d)⟩
  | exc x h' => exact d
  | stuck => exact d
theorem Does.imp {r : R α} {Q Q' : β → Hp → Prop} (d : Does K T rel W w h H r Q) (q : ∀ v H', Q v H' → Q' v H') : Does K T rel W w h H r Q' := by
  cases r with
  | ok a h' => exact fun w' H' v st hr rp => q _ _ (d w' H' v st hr rp)
  | exc x h' => exact d
  | stuck => exact d
/-- an end that is there -/
theorem Does.here {a : α} {v : β} {Q : β → Hp → Prop} (d : Does K T rel W w h H (.ok a h') Q) (s : Step w h H w' h' H') (r : HRel K T w' h' H') (p : rel w' H' a v) : Q v H' := d w' H' v s r p
end
end Ir

set_option Elab.async false
set_option linter.all false
set_option maxRecDepth 100000
set_option maxHeartbeats 4000000
/-! Ir3: the operations on values are those of the hand layer. -/
namespace Ir
open PySem PySem.Spec PyProof.Rows
open L2 (V Hp HO TE TT TA TS VK SqL SqT Rd upd upd_same upd_ne ne_of ne_of_none valV Inv OpR UnR CallR MtR IxR SlR TruR R2 EP Vals RelV)
section
variable {K : PySem.W.Frag} {T : List (Addr × Str)} {w w' : Wd} {h h' : Hh} {H H' : Hp}
/-- nothing but an answer -/
def Gives (K : PySem.W.Frag) (T : List (Addr × Str)) (w : Wd) (h : Hh) (H : Hp) (r : R D) (Q : VK) : Prop := ∃ W, Does K T (Rep K) W w h H r Q
theorem Gives.no {Q : VK} (g : Gives K T w h H .stuck Q) : False := g.elim fun _ d => d
theorem Gives.same {d : D} {v : V} {Q : VK} (g : Gives K T w h H (.ok d h) Q) (r : HRel K T w h H) (p : Rep K w H d v) : Q v H := g.elim fun _ f => f w H v Step.refl r p
theorem Gives.if {c : Prop} [Decidable c] {r : R D} {Q : VK} (g : Gives K T w h H (okIf c r) Q) : c ∧ Gives K T w h H r Q := by
  unfold okIf at g
  by_cases z : c
  · rw [if_pos z] at g; exact ⟨z, g⟩
  · rw [if_neg z] at g; exact g.no.elim
theorem Gives.okB {o : Option Bool} {Q : VK} (g : Gives K T w h H (okB h o) Q) (r : HRel K T w h H) : ∃ b, o = some b ∧ Q (.bl b) H := by
  cases o with
  | none => exact (Gives.no g).elim
  | some b => exact ⟨b, rfl, Gives.same (d := .bl b) g r rfl⟩
theorem Gives.okD {o : Option D} {Q : VK} (g : Gives K T w h H (okD h o) Q) : ∃ d, o = some d ∧ Gives K T w h H (.ok d h) Q := by
  cases o with
  | none => exact (Gives.no g).elim
  | some b => exact ⟨b, rfl, g⟩
/-- a new tuple -/
theorem Gives.tup {xs : List D} {vs : List V} {Q : VK} (g : Gives K T w h H (.ok (.tup xs) h) Q) (r : HRel K T w h H) (p : RepL K w H xs vs) {a : Addr} {its : Array Value} {n : Nat} (ha : H a = none) : Q (.ref a) (upd H a (.frz (tupO its n) (.tup vs))) :=
  g.elim fun _ f => f w _ _ (Step.new ha) (r.new ha) ⟨a, vs, rfl, .inl ⟨its, n, upd_same⟩, RepL.step (Step.new ha) r _ _ p⟩
/-- a new list that nothing writes at -/
theorem Gives.lst {xs : List D} {vs : List V} {Q : VK} (g : Gives K T w h H (.ok (.lst xs) h) Q) (r : HRel K T w h H) (p : RepL K w H xs vs) {a : Addr} (ha : H a = none) : Q (.ref a) (upd H a (.lst vs)) :=
  g.elim fun _ f => f (w.frz a) _ _ (Step.newF ha) (r.newF ha) ⟨a, vs, rfl, .inr rfl, upd_same, RepL.step (Step.newF ha) r _ _ p⟩
def rP1 (K : PySem.W.Frag) (T : List (Addr × Str)) (p : P) : V → Hp → VK → Prop := fun x H Q => ∃ w h dx, HRel K T w h H ∧ Rep K w H dx x ∧ Gives K T w h H (prim p [dx] h) Q
def rP2 (K : PySem.W.Frag) (T : List (Addr × Str)) (p : P) : R2 := fun x y H Q => ∃ w h dx dy, HRel K T w h H ∧ Rep K w H dx x ∧ Rep K w H dy y ∧ Gives K T w h H (prim p [dx, dy] h) Q
/-! what may be read as a list or a tuple -/
theorem seq_of {x : D} {v : V} {xs : List D} (r : HRel K T w h H) (p : Rep K w H x v) (e : seqOf h x = some xs) : ∃ a vs, v = .ref a ∧ (SqL K H a vs ∨ SqT K H a vs) ∧ RepL K w H xs vs := by
  cases x with
  | tup ys =>
    cases e
    obtain ⟨a, vs, e1, e2, e3⟩ := p
    exact ⟨a, vs, e1, .inr e2.sq, e3⟩
  | lst ys =>
    cases e
    obtain ⟨a, vs, e1, e2, e3, e4⟩ := p
    exact ⟨a, vs, e1, .inl (.inl (.inl e3)), e4⟩
  | scr ys =>
    cases e
    obtain ⟨a, e1, e3⟩ := p
    refine ⟨a, ys.map V.int, e1, .inl (r.scr e3), ?_⟩
    clear e3
    induction ys with
    | nil => exact RepL.nil
    | cons y r ih => exact RepL.cons rfl ih
  | ref n =>
    obtain ⟨a, e1, e2⟩ := p
    have e : (match h[n]? with
      | some (.lst xs) => some xs
      | _ => none) = some xs := e
    cases q : h[n]? with
    | none => rw [q] at e; cases e
    | some o =>
      rw [q] at e
      cases o with
      | lst ys =>
        cases e
        obtain ⟨b, vs, i, hb, p⟩ := r.lst q
        rw [i] at e2; cases e2
        exact ⟨_, vs, e1, .inl (.inl (.inl hb)), p⟩
      | _ => cases e
  | _ => cases e
theorem lst_of {x : D} {v : V} {xs : List D} (r : HRel K T w h H) (p : Rep K w H x v) (e : lstOf h x = some xs) : ∃ a vs, v = .ref a ∧ SqL K H a vs ∧ RepL K w H xs vs := by
  have e' : seqOf h x = some xs := by cases x <;> first | exact e | cases e
  cases x with
  | tup ys => cases e
  | lst ys =>
    cases e
    obtain ⟨a, vs, e1, e2, e3, e4⟩ := p
    exact ⟨a, vs, e1, .inl (.inl e3), e4⟩
  | scr ys =>
    cases e
    obtain ⟨a, e1, e3⟩ := p
    refine ⟨a, ys.map V.int, e1, r.scr e3, ?_⟩
    clear e3 e'
    induction ys with
    | nil => exact RepL.nil
    | cons y r ih => exact RepL.cons rfl ih
  | ref n =>
    obtain ⟨a, e1, e2⟩ := p
    have e : (match h[n]? with
      | some (.lst xs) => some xs
      | _ => none) = some xs := e
    cases q : h[n]? with
    | none => rw [q] at e; cases e
    | some o =>
      rw [q] at e
      cases o with
      | lst ys =>
        cases e
        obtain ⟨b, vs, i, hb, p⟩ := r.lst q
        rw [i] at e2; cases e2
        exact ⟨_, vs, e1, .inl (.inl hb), p⟩
      | _ => cases e
  | _ => cases e
theorem trk_of {x : D} {v : V} {xs : List D} (r : HRel K T w h H) (p : Rep K w H x v) (e : trkOf h x = some xs) : ∃ a vs, v = .ref a ∧ H a = some (.lst vs) ∧ RepL K w H xs vs := by
  cases x with
  | lst ys =>
    cases e
    obtain ⟨a, vs, e1, e2, e3, e4⟩ := p
    exact ⟨a, vs, e1, e3, e4⟩
  | ref n =>
    obtain ⟨a, e1, e2⟩ := p
    have e : (match h[n]? with
      | some (.lst xs) => some xs
      | _ => none) = some xs := e
    cases q : h[n]? with
    | none => rw [q] at e; cases e
    | some o =>
      rw [q] at e
      cases o with
      | lst ys =>
        cases e
        obtain ⟨b, vs, i, hb, p⟩ := r.lst q
        rw [i] at e2; cases e2
        exact ⟨_, vs, e1, hb, p⟩
      | _ => cases e
  | _ => cases e
theorem ints_of : ∀ {xs : List D} {vs : List V} {ns : List Int}, RepL K w H xs vs → intsOf xs = some ns → vs = ns.map V.int
  | [], _, _, p, e => by cases e; exact p
  | x :: r, vs, ns, ⟨v, us, e1, q, p⟩, e => by
    subst e1
    cases x with
    | int i =>
      have e : (intsOf r).map (i :: ·) = some ns := e
      cases z : intsOf r with
      | none => rw [z] at e; cases e
      | some ms =>
        rw [z] at e; cases e
        rw [ints_of p z]
        have q : v = .int i := q
        rw [q]; rfl
    | _ => cases e
theorem bls_of : ∀ {xs : List D} {vs : List V} {ns : List Bool}, RepL K w H xs vs → blsOf xs = some ns → vs = ns.map V.bl
  | [], _, _, p, e => by cases e; exact p
  | x :: r, vs, ns, ⟨v, us, e1, q, p⟩, e => by
    subst e1
    cases x with
    | bl i =>
      have e : (blsOf r).map (i :: ·) = some ns := e
      cases z : blsOf r with
      | none => rw [z] at e; cases e
      | some ms =>
        rw [z] at e; cases e
        rw [bls_of p z]
        have q : v = .bl i := q
        rw [q]; rfl
    | _ => cases e
theorem strs_of : ∀ {xs : List D} {vs : List V} {ns : List Str}, RepL K w H xs vs → strsOf xs = some ns → vs = ns.map V.str
  | [], _, _, p, e => by cases e; exact p
  | x :: r, vs, ns, ⟨v, us, e1, q, p⟩, e => by
    subst e1
    cases x with
    | str i =>
      have e : (strsOf r).map (i :: ·) = some ns := e
      cases z : strsOf r with
      | none => rw [z] at e; cases e
      | some ms =>
        rw [z] at e; cases e
        rw [strs_of p z]
        have q : v = .str i := q
        rw [q]; rfl
    | _ => cases e
/-! data -/
mutual
theorem dp_of (r : HRel K T w h H) : ∀ {x : D} {v : V} {d : PyData}, Rep K w H x v → toPy x = some d → L2.Dp K H v d
  | .non, v, d, p, e => by cases e; cases (show v = .non from p); exact .non
  | .bl b, v, d, p, e => by cases e; cases (show v = .bl b from p); exact .bl b
  | .int b, v, d, p, e => by cases e; cases (show v = .int b from p); exact .int b
  | .str b, v, d, p, e => by cases e; cases (show v = .str b from p); exact .str b
  | .tup xs, v, d, p, e => by
    obtain ⟨a, vs, e1, e2, e3⟩ := p
    have e : (toPyL xs).map .tuple = some d := e
    cases z : toPyL xs with
    | none => rw [z] at e; cases e
    | some q => rw [z] at e; cases e; subst e1; exact .tup e2.sq (dp_all r e3 z)
  | .lst xs, v, d, p, e => by
    obtain ⟨a, vs, e1, e2, e3, e4⟩ := p
    have e : (toPyL xs).map .list = some d := e
    cases z : toPyL xs with
    | none => rw [z] at e; cases e
    | some q => rw [z] at e; cases e; subst e1; exact .lst (.inl (.inl e3)) (dp_all r e4 z)
  | .scr xs, v, d, p, e => by
    obtain ⟨a, e1, e3⟩ := p
    cases e; subst e1
    refine .lst (r.scr e3) ?_
    clear e3
    induction xs with
    | nil => exact .nil
    | cons y r ih => exact .cons (.int y) ih
  | .ref _, _, _, _, e => by cases e
theorem dp_all (r : HRel K T w h H) : ∀ {x : List D} {v : List V} {d : List PyData}, RepL K w H x v → toPyL x = some d → L2.DpAll K H v d
  | [], v, d, p, e => by cases e; cases (show v = [] from p); exact .nil
  | x :: xs, v, d, ⟨u, us, e1, q, p⟩, e => by
    subst e1
    have e : (match toPy x, toPyL xs with
      | some p, some q => some (p :: q)
      | _, _ => none) = some d := e
    cases z1 : toPy x with
    | none => rw [z1] at e; cases e
    | some a =>
      cases z2 : toPyL xs with
      | none => rw [z1, z2] at e; cases e
      | some b =>
        rw [z1, z2] at e; cases e
        exact .cons (dp_of r q z1) (dp_all r p z2)
end
theorem dpH_of (r : HRel K T w h H) {x : D} {v : V} {d : PyData} (p : Rep K w H x v) (e : toPyH h x = some d) : L2.Dp K H v d := by
  cases x with
  | ref n =>
    obtain ⟨a, e1, e2⟩ := p
    have e : (match h[n]? with
      | some (.lst xs) => (toPyL xs).map .list
      | _ => none) = some d := e
    cases q : h[n]? with
    | none => rw [q] at e; cases e
    | some o =>
      rw [q] at e
      cases o with
      | lst ys =>
        obtain ⟨b, vs, i, hb, p⟩ := r.lst q
        rw [i] at e2; cases e2
        have e : (toPyL ys).map .list = some d := e
        cases z : toPyL ys with
        | none => rw [z] at e; cases e
        | some qq => rw [z] at e; cases e; subst e1; exact .lst (.inl (.inl hb)) (dp_all r p z)
      | _ => cases e
  | _ => exact dp_of r p e
end
/-! weaker readings -/
section
variable {X : L2.Cx}
theorem opImp {f : Value → Value → Sem Value} {r r' : R2} (o : OpR X f r) (i : ∀ x y H Q, r' x y H Q → r x y H Q) : OpR X f r' := fun pins s σ H x y v u Q I rx ry q => o pins s σ H x y v u Q I rx ry (i _ _ _ _ q)
theorem unImp {f : Value → Sem Value} {r r' : V → Hp → VK → Prop} (o : UnR X f r) (i : ∀ x H Q, r' x H Q → r x H Q) : UnR X f r' := fun pins s σ H x v Q I rx q => o pins s σ H x v Q I rx (i _ _ _ q)
theorem callImp {f : Value} {r r' : List V → Hp → VK → Prop} (o : CallR X f r) (i : ∀ x H Q, r' x H Q → r x H Q) : CallR X f r' := fun pins s σ H x v Q I rx q => o pins s σ H x v Q I rx (i _ _ _ q)
theorem mtImp {id : String} {r r' : V → List V → Hp → VK → Prop} (o : MtR X id r) (i : ∀ x y H Q, r' x y H Q → r x y H Q) : MtR X id r' := fun pins s σ H x xs v us Q I rx ry q => o pins s σ H x xs v us Q I rx ry (i _ _ _ _ q)
theorem ixImp {r r' : R2} (o : IxR X r) (i : ∀ x y H Q, r' x y H Q → r x y H Q) : IxR X r' := fun a b pins s σ H x xs v us Q I rx ry q e => o a b pins s σ H x xs v us Q I rx ry (i _ _ _ _ q) e
end
end Ir

set_option Elab.async false
set_option linter.all false
set_option maxRecDepth 100000
set_option maxHeartbeats 4000000
/-! Ir4: each operation's rule. -/
namespace Ir
open PySem PySem.Spec PyProof.Rows
open L2 (V Hp HO TE TT TA TS VK SqL SqT Rd upd upd_same upd_ne ne_of ne_of_none valV Inv OpR UnR CallR MtR IxR SlR TruR R2 EP Vals RelV)
section
variable {T : List (Addr × Str)} {X : L2.Cx}
/-- a tuple of these is laid, and its object known -/
theorem lay_tup {pins : List (Addr × Obj)} {σ : L2.St} {H : Hp} {s : Shared} {vs : List V} {its : List Value} {t' : Nat} {h' : Heap} (I : Inv X pins σ H s) (k : ∀ b o, s.heap.get? b = some o → h'.get? b = some o) (r : Vals vs its) (hz : vs.length ≤ sizeLine) :
    Inv X pins σ (upd H h'.objs.size (.frz (tupO its.toArray 0) (.tup vs))) { s with heap := h'.push (tupO its.toArray 0), toks := t' } ∧ H h'.objs.size = none := by
  have J : Inv X pins σ H { s with heap := h', toks := t' } := I.kept (t' := t') k
  have g : (h'.push (tupO its.toArray 0)).get? h'.objs.size = some (tupO its.toArray 0) := Heap.get?_push_size _ rfl
  exact ⟨J.laid (t' := t') (fun b o e => Heap.get?_push_of_some _ e) (Nat.le_refl _) ⟨g, hz, its, r, ⟨_, g, rfl, _, rfl⟩⟩, J.hok.fresh (Nat.le_refl _)⟩
theorem lay_tup0 {pins : List (Addr × Obj)} {σ : L2.St} {H : Hp} {s : Shared} {vs : List V} {its : List Value} (I : Inv X pins σ H s) (r : Vals vs its) (hz : vs.length ≤ sizeLine) :
    Inv X pins σ (upd H s.heap.objs.size (.frz (tupO its.toArray 0) (.tup vs))) { s with heap := s.heap.push (tupO its.toArray 0) } ∧ H s.heap.objs.size = none := lay_tup (t' := s.toks) I (fun _ _ e => e) r hz
/-! ### arithmetic -/
theorem o_sub : OpR X (binaryOp .Sub) (rP2 X.K T .sub) := opImp (L2.op_sub) fun x y H Q ⟨w, h, dx, dy, r, px, py, g⟩ => by
  cases dx <;> cases dy <;> first | exact (Gives.no g).elim | skip
  exact ⟨_, _, px, py, g.same r rfl⟩
theorem o_mul : OpR X (binaryOp .Mult) (rP2 X.K T .mul) := opImp (L2.op_mul) fun x y H Q ⟨w, h, dx, dy, r, px, py, g⟩ => by
  cases dx <;> cases dy <;> first | exact (Gives.no g).elim | skip
  obtain ⟨c, g⟩ := Gives.if g
  refine ⟨_, _, px, py, ?_, g.same r rfl⟩
  rcases Bool.or_eq_true_iff.mp c with c | c
  · exact .inl (of_decide_eq_true c)
  · exact .inr (of_decide_eq_true c)
theorem o_fdiv : OpR X (binaryOp .FloorDiv) (rP2 X.K T .fdiv) := opImp (L2.op_fdiv) fun x y H Q ⟨w, h, dx, dy, r, px, py, g⟩ => by
  cases dx <;> cases dy <;> first | exact (Gives.no g).elim | skip
  obtain ⟨c, g⟩ := Gives.if g
  exact ⟨_, _, px, py, c, g.same r rfl⟩
theorem o_mod : OpR X (binaryOp .Mod) (rP2 X.K T .mod) := opImp (L2.op_mod) fun x y H Q ⟨w, h, dx, dy, r, px, py, g⟩ => by
  cases dx <;> cases dy <;> first | exact (Gives.no g).elim | skip
  obtain ⟨c, g⟩ := Gives.if g
  exact ⟨_, _, px, py, c, g.same r rfl⟩
theorem o_pow : OpR X (binaryOp .Pow) (rP2 X.K T .pow) := opImp (L2.op_pow) fun x y H Q ⟨w, h, dx, dy, r, px, py, g⟩ => by
  cases dx <;> cases dy <;> first | exact (Gives.no g).elim | skip
  obtain ⟨c, g⟩ := Gives.if g
  exact ⟨_, _, px, py, c, g.same r rfl⟩
theorem o_xor : OpR X (binaryOp .BitXor) (rP2 X.K T .xor) := opImp (L2.op_xor) fun x y H Q ⟨w, h, dx, dy, r, px, py, g⟩ => by
  cases dx <;> cases dy <;> first | exact (Gives.no g).elim | skip
  exact ⟨_, _, px, py, g.same r rfl⟩
theorem o_neg : UnR X (unaryOp .USub) (rP1 X.K T .neg) := unImp L2.un_neg fun x H Q ⟨w, h, dx, r, px, g⟩ => by
  cases dx <;> first | exact (Gives.no g).elim | skip
  exact ⟨_, px, g.same r rfl⟩
/-! ### plus -/
/-- t + u, what is new being known -/
def rCatF (K : PySem.W.Frag) : R2 := fun x y H Q => ∃ a b xs ys, x = .ref a ∧ y = .ref b ∧ SqT K H a xs ∧ SqT K H b ys ∧ xs.length + ys.length ≤ sizeLine ∧
  (xs = [] → Q (.ref b) H) ∧ (xs ≠ [] → ys = [] → Q (.ref a) H) ∧ (xs ≠ [] → ys ≠ [] → ∀ p its n, H p = none → Q (.ref p) (upd H p (.frz (tupO its n) (.tup (xs ++ ys)))))
theorem o_catF : OpR X (binaryOp .Add) (rCatF X.K) := fun pins s σ H x y v u Q I rx ry ⟨a, b, xs, ys, ex, ey, ha, hb, hz, q0, q1, q2⟩ => by
  subst ex; subst ey
  by_cases hx : xs = []
  · exact L2.op_catA pins s σ H _ _ v u Q I rx ry ⟨a, b, xs, ys, rfl, rfl, ha, hb, hz, q0, q1, fun z => (z hx).elim⟩
  · by_cases hy : ys = []
    · exact L2.op_catA pins s σ H _ _ v u Q I rx ry ⟨a, b, xs, ys, rfl, rfl, ha, hb, hz, q0, q1, fun _ z => (z hy).elim⟩
    · cases rx; cases ry
      obtain ⟨i1, r1, p1, z1⟩ := I.tuple ha
      obtain ⟨i2, r2, p2, z2⟩ := I.tuple hb
      refine HT.cat_tup p1 p2 (fun z => hx (r1.nil_iff.mp z)) (fun z => (hy (r2.nil_iff.mp z)).elim) (fun _ => ?_) (by rw [← r1.length, ← r2.length]; exact hz)
      obtain ⟨J, hn⟩ := lay_tup0 I (r1.append r2) (by rw [List.length_append]; exact hz)
      exact ⟨.ref s.heap.objs.size, _, J, rfl, q2 hx hy _ _ _ hn⟩
theorem nil_of {K : PySem.W.Frag} {w : Wd} {H : Hp} {xs : List D} {vs : List V} (p : RepL K w H xs vs) : vs = [] ↔ xs = [] := by
  have := p.length
  constructor
  · intro e; subst e; exact List.length_eq_zero_iff.mp this.symm
  · intro e; subst e; exact p
theorem o_add : OpR X (binaryOp .Add) (rP2 X.K T .add) := opImp ((L2.op_add.or L2.op_add_str).or (o_catF.or L2.op_cat)) fun x y H Q ⟨w, h, dx, dy, r, px, py, g⟩ => by
  by_cases c1 : ∃ i j, dx = .int i ∧ dy = .int j
  · obtain ⟨i, j, rfl, rfl⟩ := c1
    exact .inl (.inl ⟨_, _, px, py, g.same r rfl⟩)
  by_cases c2 : ∃ i j, dx = .str i ∧ dy = .str j
  · obtain ⟨i, j, rfl, rfl⟩ := c2
    obtain ⟨c, g⟩ := Gives.if g
    exact .inl (.inr ⟨_, _, px, py, c, g.same r rfl⟩)
  by_cases c3 : ∃ i j, dx = .tup i ∧ dy = .tup j
  · obtain ⟨i, j, rfl, rfl⟩ := c3
    obtain ⟨c, g⟩ := Gives.if g
    obtain ⟨a, vs, e1, e2, e3⟩ := px
    obtain ⟨b, us, f1, f2, f3⟩ := py
    refine .inr (.inl ⟨a, b, vs, us, e1, f1, e2.sq, f2.sq, by rw [e3.length, f3.length]; exact c, fun z => ?_, fun _ z => ?_, fun _ _ p its n hp => g.tup r (e3.append f3) hp⟩)
    · have z := (nil_of e3).mp z
      subst z
      exact g.same r ⟨b, us, rfl, f2, f3⟩
    · have z := (nil_of f3).mp z
      subst z
      exact g.same r ⟨a, vs, rfl, e2, by rw [List.append_nil]; exact e3⟩
  have key : ∃ xs ys, trkOf h dx = some xs ∧ trkOf h dy = some ys ∧ Gives X.K T w h H (okIf (xs.length + ys.length ≤ sizeLine) (.ok (.lst (xs ++ ys)) h)) Q := by
    have e : prim .add [dx, dy] h = (match trkOf h dx, trkOf h dy with
      | some xs, some ys => okIf (xs.length + ys.length ≤ sizeLine) (.ok (.lst (xs ++ ys)) h)
      | _, _ => .stuck) := by
      cases dx <;> cases dy <;> first | rfl | exact (c1 ⟨_, _, rfl, rfl⟩).elim | exact (c2 ⟨_, _, rfl, rfl⟩).elim | exact (c3 ⟨_, _, rfl, rfl⟩).elim
    rw [e] at g
    cases z1 : trkOf h dx with
    | none => rw [z1] at g; exact (Gives.no g).elim
    | some xs =>
      cases z2 : trkOf h dy with
      | none => rw [z1, z2] at g; exact (Gives.no g).elim
      | some ys => rw [z1, z2] at g; exact ⟨xs, ys, rfl, rfl, g⟩
  obtain ⟨xs, ys, z1, z2, g⟩ := key
  obtain ⟨c, g⟩ := Gives.if g
  obtain ⟨a, vs, e1, e2, e3⟩ := trk_of r px z1
  obtain ⟨b, us, f1, f2, f3⟩ := trk_of r py z2
  exact .inr (.inr ⟨a, b, vs, us, e1, f1, e2, f2, by rw [e3.length, f3.length]; exact c, fun p hp => g.lst r (e3.append f3) hp⟩)
/-! ### comparisons -/
theorem eq_parts {K : PySem.W.Frag} {w : Wd} {h : Hh} {H : Hp} {dx dy : D} {x y : V} {b : Bool} (r : HRel K T w h H) (px : Rep K w H dx x) (py : Rep K w H dy y) (e : eqOf h dx dy = some b) :
    ∃ d e', L2.Dp K H x d ∧ L2.Dp K H y e' ∧ SeqAt.shaped d = true ∧ SeqAt.shaped e' = true ∧ b = PyData.eqv d e' := by
  unfold eqOf at e
  cases z1 : toPyH h dx with
  | none => rw [z1] at e; cases e
  | some p =>
    cases z2 : toPyH h dy with
    | none => rw [z1, z2] at e; cases e
    | some q =>
      rw [z1, z2] at e
      have e : (if (SeqAt.shaped p && SeqAt.shaped q) = true then some (PyData.eqv p q) else none) = some b := e
      by_cases c : (SeqAt.shaped p && SeqAt.shaped q) = true
      · rw [if_pos c] at e; cases e
        exact ⟨p, q, dpH_of r px z1, dpH_of r py z2, (Bool.and_eq_true_iff.mp c).1, (Bool.and_eq_true_iff.mp c).2, rfl⟩
      · rw [if_neg c] at e; cases e
theorem o_eq (hu : X.A.units + 64 < cLine) : OpR X (compareOp .Eq) (rP2 X.K T .eq) := opImp (L2.op_eqD hu) fun x y H Q ⟨w, h, dx, dy, r, px, py, g⟩ => by
  obtain ⟨b, e, q⟩ := Gives.okB (o := eqOf h dx dy) g r
  obtain ⟨d, e', a1, a2, a3, a4, rfl⟩ := eq_parts r px py e
  exact ⟨d, e', a1, a2, a3, a4, q⟩
theorem o_ne (hu : X.A.units + 64 < cLine) : OpR X (compareOp .NotEq) (rP2 X.K T .ne) := opImp (L2.op_neD hu) fun x y H Q ⟨w, h, dx, dy, r, px, py, g⟩ => by
  obtain ⟨b, e, q⟩ := Gives.okB (o := (eqOf h dx dy).map not) g r
  cases z : eqOf h dx dy with
  | none => rw [z] at e; cases e
  | some b' =>
    rw [z] at e; cases e
    obtain ⟨d, e', a1, a2, a3, a4, rfl⟩ := eq_parts r px py z
    exact ⟨d, e', a1, a2, a3, a4, q⟩
theorem o_le : OpR X (compareOp .LtE) (rP2 X.K T .le) := opImp (L2.op_le) fun x y H Q ⟨w, h, dx, dy, r, px, py, g⟩ => by
  cases dx <;> cases dy <;> first | exact (Gives.no g).elim | skip
  exact ⟨_, _, px, py, g.same r rfl⟩
theorem o_gt : OpR X (compareOp .Gt) (rP2 X.K T .gt) := opImp (L2.op_gt) fun x y H Q ⟨w, h, dx, dy, r, px, py, g⟩ => by
  cases dx <;> cases dy <;> first | exact (Gives.no g).elim | skip
  exact ⟨_, _, px, py, g.same r rfl⟩
theorem o_ge : OpR X (compareOp .GtE) (rP2 X.K T .ge) := opImp (L2.op_ge) fun x y H Q ⟨w, h, dx, dy, r, px, py, g⟩ => by
  cases dx <;> cases dy <;> first | exact (Gives.no g).elim | skip
  exact ⟨_, _, px, py, g.same r rfl⟩
/-- tuples of data in order -/
def rLtA (K : PySem.W.Frag) : R2 := fun x y H Q => ∃ p q, L2.Dp K H x (.tuple p) ∧ L2.Dp K H y (.tuple q) ∧ PySem.W.alike (.tuple p) (.tuple q) = true ∧ PyData.depth (.tuple p) ≤ 64 ∧ Q (.bl (PySem.W.dataLt (.tuple p) (.tuple q))) H
theorem o_ltA (hu : X.A.units + 64 < cLine) : OpR X (compareOp .Lt) (rLtA X.K) := fun pins s σ H x y v u Q I rx ry ⟨p, q, dx, dy, al, hd, k⟩ => by
  obtain ⟨as, ra⟩ := L2.Dp.reads I _ x v dx rx
  obtain ⟨bs, rb⟩ := L2.Dp.reads I _ y u dy ry
  have lt := PySem.W.rcLt_alike _ _ X.A s v u as bs ra rb al (fun z => by cases z) (by omega) X.prog X.w X.xe (EP X pins σ Q) ⟨.bl _, H, I, rfl, k⟩
  exact lt
theorem o_lt (hu : X.A.units + 64 < cLine) : OpR X (compareOp .Lt) (rP2 X.K T .lt) := opImp ((L2.op_lt.or L2.op_lt_str).or (o_ltA hu)) fun x y H Q ⟨w, h, dx, dy, r, px, py, g⟩ => by
  obtain ⟨b, e, q⟩ := Gives.okB (o := ltOf h dx dy) g r
  cases dx <;> cases dy <;> first | cases e | skip
  · exact .inl (.inl ⟨_, _, px, py, q⟩)
  · exact .inl (.inr ⟨_, _, px, py, q⟩)
  · rename_i xs ys
    have e : (match toPyL xs, toPyL ys with
      | some p, some q => if (PySem.W.alike (.tuple p) (.tuple q) && decide (PyData.depth (.tuple p) ≤ 64)) = true then some (PySem.W.dataLt (.tuple p) (.tuple q)) else none
      | _, _ => none) = some b := e
    cases z1 : toPyL xs with
    | none => rw [z1] at e; cases e
    | some p =>
      cases z2 : toPyL ys with
      | none => rw [z1, z2] at e; cases e
      | some q' =>
        rw [z1, z2] at e
        by_cases c : (PySem.W.alike (.tuple p) (.tuple q') && decide (PyData.depth (.tuple p) ≤ 64)) = true
        · have e := (if_pos c).symm.trans e
          cases e
          have hx : toPy (.tup xs) = some (.tuple p) := by show (toPyL xs).map _ = _; rw [z1]; rfl
          have hy : toPy (.tup ys) = some (.tuple q') := by show (toPyL ys).map _ = _; rw [z2]; rfl
          exact .inr ⟨p, q', dp_of r px hx, dp_of r py hy, (Bool.and_eq_true_iff.mp c).1, of_decide_eq_true (Bool.and_eq_true_iff.mp c).2, q⟩
        · have e := (if_neg c).symm.trans e
          cases e
theorem isN_of {K : PySem.W.Frag} {w : Wd} {H : Hp} {d : D} {x : V} (p : Rep K w H d x) : decide (x = .non) = (match d with
    | .non => true
    | _ => false) := by
  cases d with
  | non => cases (show x = .non from p); rfl
  | bl b => cases (show x = .bl b from p); rfl
  | int b => cases (show x = .int b from p); rfl
  | str b => cases (show x = .str b from p); rfl
  | tup _ => obtain ⟨a, _, e, _⟩ := p; subst e; rfl
  | lst _ => obtain ⟨a, _, e, _⟩ := p; subst e; rfl
  | ref _ => obtain ⟨a, e, _⟩ := p; subst e; rfl
  | scr _ => obtain ⟨a, e, _⟩ := p; subst e; rfl
/-- x is None: the right one is the constant -/
def rIsN (K : PySem.W.Frag) (T : List (Addr × Str)) (p : P) : R2 := fun x y H Q => y = .non ∧ rP1 K T p x H Q
theorem o_isN : OpR X (compareOp .Is) (rIsN X.K T .isN) := opImp (L2.op_isN) fun x y H Q ⟨ey, w, h, dx, r, px, g⟩ => by
  refine ⟨ey, ?_⟩
  rw [isN_of px]
  cases dx <;> exact Gives.same (d := .bl _) g r rfl
theorem o_notN : OpR X (compareOp .IsNot) (rIsN X.K T .notN) := opImp (L2.op_notN) fun x y H Q ⟨ey, w, h, dx, r, px, g⟩ => by
  refine ⟨ey, ?_⟩
  rw [isN_of px]
  cases dx <;> exact Gives.same (d := .bl _) g r rfl
end
end Ir

set_option Elab.async false
set_option linter.all false
set_option maxRecDepth 100000
set_option maxHeartbeats 4000000
/-! Ir5: built-in functions, methods, subscripts. -/
namespace Ir
open PySem PySem.Spec PyProof.Rows
open L2 (V Hp HO TE TT TA TS VK SqL SqT Rd upd upd_same upd_ne ne_of ne_of_none valV Inv OpR UnR CallR MtR IxR SlR TruR R2 EP Vals RelV)
def rPL (K : PySem.W.Frag) (T : List (Addr × Str)) (p : P) : List V → Hp → VK → Prop := fun vs H Q => ∃ w h ds, HRel K T w h H ∧ RepL K w H ds vs ∧ Gives K T w h H (prim p ds h) Q
def rPM (K : PySem.W.Frag) (T : List (Addr × Str)) (p : P) : V → List V → Hp → VK → Prop := fun x vs H Q => ∃ w h d ds, HRel K T w h H ∧ Rep K w H d x ∧ RepL K w H ds vs ∧ Gives K T w h H (prim p (d :: ds) h) Q
section
variable {K : PySem.W.Frag} {T : List (Addr × Str)} {w : Wd} {h : Hh} {H : Hp}
theorem rp1 {d : D} {vs : List V} (p : RepL K w H [d] vs) : ∃ v, vs = [v] ∧ Rep K w H d v := by
  obtain ⟨v, us, e, a, b⟩ := p
  cases (show us = [] from b)
  exact ⟨v, e, a⟩
theorem rp2 {d e : D} {vs : List V} (p : RepL K w H [d, e] vs) : ∃ v u, vs = [v, u] ∧ Rep K w H d v ∧ Rep K w H e u := by
  obtain ⟨v, us, e1, a, b⟩ := p
  obtain ⟨u, e2, c⟩ := rp1 b
  subst e2
  exact ⟨v, u, e1, a, c⟩
/-! flat things -/
theorem flat_of {d : D} {v : V} (p : Rep K w H d v) (f : flat d = true) : L2.flatV v = true := by
  cases d <;> first | cases f | skip
  · cases (show v = .non from p); rfl
  · cases (show v = .bl _ from p); rfl
  · cases (show v = .int _ from p); rfl
  · cases (show v = .str _ from p); rfl
theorem flats_of : ∀ {ds : List D} {vs : List V}, RepL K w H ds vs → ds.all flat = true → vs.all L2.flatV = true
  | [], vs, p, _ => by cases (show vs = [] from p); rfl
  | d :: r, vs, ⟨v, us, e, a, b⟩, f => by
    subst e
    rw [List.all_cons] at f ⊢
    obtain ⟨f1, f2⟩ := Bool.and_eq_true_iff.mp f
    rw [flat_of a f1, flats_of b f2]; rfl
theorem flatEq_of {d e : D} {v u : V} (p : Rep K w H d v) (q : Rep K w H e u) (f : flat d = true) (g : flat e = true) : L2.eqV v u = flatEq d e := by
  cases d <;> first | cases f | skip
  all_goals (cases e <;> first | cases g | skip)
  all_goals (cases (show v = _ from p); cases (show u = _ from q); rfl)
theorem any_of {d : D} {u : V} (q : Rep K w H d u) (g : flat d = true) : ∀ {ds : List D} {vs : List V}, RepL K w H ds vs → ds.all flat = true → L2.inV u vs = ds.any fun z => flatEq z d
  | [], vs, p, _ => by cases (show vs = [] from p); rfl
  | e :: r, vs, ⟨v, us, e1, a, b⟩, f => by
    subst e1
    rw [List.all_cons] at f
    obtain ⟨f1, f2⟩ := Bool.and_eq_true_iff.mp f
    have ih := any_of q g b f2
    unfold L2.inV at ih ⊢
    rw [List.any_cons, List.any_cons, ih, flatEq_of a q f1 g]
theorem firstAt_ok {x : D} : ∀ {xs : List D} {k n : Nat}, firstAt x xs k = some n → ∃ j z, n = k + j ∧ xs[j]? = some z ∧ flatEq z x = true ∧ ∀ m z', m < j → xs[m]? = some z' → flatEq z' x = false
  | [], k, n, e => by cases e
  | y :: r, k, n, e => by
    have e : (if flatEq y x = true then some k else firstAt x r (k + 1)) = some n := e
    by_cases c : flatEq y x = true
    · rw [if_pos c] at e; cases e
      exact ⟨0, y, rfl, rfl, c, fun m z' hm _ => absurd hm (Nat.not_lt_zero m)⟩
    · rw [if_neg c] at e
      obtain ⟨j, z, e1, e2, e3, e4⟩ := firstAt_ok e
      refine ⟨j + 1, z, by omega, by simpa using e2, e3, fun m z' hm hz => ?_⟩
      cases m with
      | zero => simp at hz; subst hz; simpa using c
      | succ m => exact e4 m z' (by omega) (by simpa using hz)
end
section
variable {T : List (Addr × Str)} {X : L2.Cx}
/-! ### in -/
theorem in_parts {K : PySem.W.Frag} {w : Wd} {h : Hh} {H : Hp} {dx dy : D} {x y : V} {b : Bool} (r : HRel K T w h H) (px : Rep K w H dx x) (py : Rep K w H dy y) (e : inOf h dx dy = some b) :
    (∃ i j, x = .str i ∧ y = .str j ∧ b = !(Builtin.Str.occurrences j i 0 j.length 1).isEmpty) ∨
    ∃ p xs, y = .ref p ∧ (SqL K H p xs ∨ SqT K H p xs) ∧ L2.flatV x = true ∧ xs.all L2.flatV = true ∧ b = L2.inV x xs := by
  have seq : ∀ {ys : List D}, seqOf h dy = some ys → (if (flat dx && ys.all flat) = true then some (ys.any fun z => flatEq z dx) else none) = some b → ∃ p xs, y = .ref p ∧ (SqL K H p xs ∨ SqT K H p xs) ∧ L2.flatV x = true ∧ xs.all L2.flatV = true ∧ b = L2.inV x xs := by
    intro ys z e
    by_cases c : (flat dx && ys.all flat) = true
    · rw [if_pos c] at e; cases e
      obtain ⟨c1, c2⟩ := Bool.and_eq_true_iff.mp c
      obtain ⟨a, vs, e1, e2, e3⟩ := seq_of r py z
      exact ⟨a, vs, e1, e2, flat_of px c1, flats_of e3 c2, (any_of px c1 e3 c2).symm⟩
    · rw [if_neg c] at e; cases e
  cases dy with
  | str j =>
    cases dx <;> first | cases e | skip
    exact .inl ⟨_, j, px, py, rfl⟩
  | tup ys => exact .inr (seq rfl e)
  | lst ys => exact .inr (seq rfl e)
  | scr ys => exact .inr (seq rfl e)
  | ref n =>
    have e : (match seqOf h (.ref n) with
      | some ys => if (flat dx && ys.all flat) = true then some (ys.any fun z => flatEq z dx) else none
      | none => none) = some b := e
    cases z : seqOf h (.ref n) with
    | none => rw [z] at e; cases e
    | some ys => rw [z] at e; exact .inr (seq z e)
  | _ => cases e
theorem o_in : OpR X (compareOp .In) (rP2 X.K T .inn) := opImp (L2.op_in_str.or L2.op_in_seq) fun x y H Q ⟨w, h, dx, dy, r, px, py, g⟩ => by
  obtain ⟨b, e, q⟩ := Gives.okB (o := inOf h dx dy) g r
  rcases in_parts r px py e with ⟨i, j, e1, e2, rfl⟩ | ⟨p, xs, e1, e2, e3, e4, rfl⟩
  · exact .inl ⟨i, j, e1, e2, q⟩
  · exact .inr ⟨p, xs, e1, e2, e3, e4, q⟩
theorem o_nin : OpR X (compareOp .NotIn) (rP2 X.K T .nin) := opImp (L2.op_notin_str.or L2.op_notIn_seq) fun x y H Q ⟨w, h, dx, dy, r, px, py, g⟩ => by
  obtain ⟨b, e, q⟩ := Gives.okB (o := (inOf h dx dy).map not) g r
  cases z : inOf h dx dy with
  | none => rw [z] at e; cases e
  | some b' =>
    rw [z] at e; cases e
    rcases in_parts r px py z with ⟨i, j, e1, e2, rfl⟩ | ⟨p, xs, e1, e2, e3, e4, rfl⟩
    · exact .inl ⟨i, j, e1, e2, q⟩
    · exact .inr ⟨p, xs, e1, e2, e3, e4, q⟩
/-! ### a[b] -/
theorem ixN_eq {n m : Nat} (e : n = m) (i : Int) : L2.ixN n i = L2.ixN m i := by rw [e]
theorem at_of {K : PySem.W.Frag} {w : Wd} {H : Hp} {xs : List D} {vs : List V} {i : Int} {d : D} (p : RepL K w H xs vs) (e : L2.atI xs i = some d) : ∃ v, L2.atI vs i = some v ∧ Rep K w H d v := by
  unfold L2.atI at e ⊢
  rw [p.length]
  cases z : L2.ixN xs.length i with
  | none => rw [z] at e; cases e
  | some j =>
    rw [z] at e
    exact p.get (show xs[j]? = some d from e)
theorem o_ix : IxR X (rP2 X.K T .idx) := ixImp L2.ix_seq fun x y H Q ⟨w, h, dx, dy, r, px, py, g⟩ => by
  cases dy <;> first | (cases dx <;> exact (Gives.no g).elim) | skip
  rename_i i
  have seq : ∀ {ys : List D}, seqOf h dx = some ys → Gives X.K T w h H (okD h (L2.atI ys i)) Q → L2.rIxL X.K x y H Q ∨ L2.rIxT X.K x y H Q ∨ L2.rIxS x y H Q := by
    intro ys z g
    obtain ⟨d, e, g⟩ := Gives.okD g
    obtain ⟨a, vs, e1, e2, e3⟩ := seq_of r px z
    obtain ⟨v, e4, e5⟩ := at_of e3 e
    rcases e2 with e2 | e2
    · exact .inl ⟨a, vs, i, v, e1, py, e2, e4, g.same r e5⟩
    · exact .inr (.inl ⟨a, vs, i, v, e1, py, e2, e4, g.same r e5⟩)
  cases dx with
  | str z =>
    obtain ⟨c, g⟩ := Gives.if g
    obtain ⟨d, e, g⟩ := Gives.okD g
    cases q : L2.atI z.cps.toList i with
    | none => rw [q] at e; cases e
    | some c' => rw [q] at e; cases e; exact .inr (.inr ⟨z, i, c', px, py, c, q, g.same r rfl⟩)
  | tup ys => exact seq rfl g
  | lst ys => exact seq rfl g
  | scr ys => exact seq rfl g
  | ref n =>
    have g : Gives X.K T w h H (match seqOf h (.ref n) with
      | some xs => okD h (L2.atI xs i)
      | none => .stuck) Q := g
    cases z : seqOf h (.ref n) with
    | none => rw [z] at g; exact (Gives.no g).elim
    | some ys => rw [z] at g; exact seq z g
  | _ => exact (Gives.no g).elim
/-! ### slices -/
theorem cut_all {α : Type} {xs : List α} {lo hi : Option Int} (h : HT.sIx xs.length 0 lo = 0 ∧ HT.sIx xs.length xs.length hi = xs.length) : cut xs lo hi = xs := by
  unfold cut
  rw [h.1, h.2]
  simp
theorem cut_of {K : PySem.W.Frag} {w : Wd} {H : Hp} {xs : List D} {vs : List V} {lo hi : Option Int} (p : RepL K w H xs vs) : RepL K w H (cut xs lo hi) (L2.cutV vs lo hi) := by
  unfold cut L2.cutV
  rw [p.length]
  exact (p.drop _).take _
/-- t[lo:hi], what is new being known -/
def rSlF (K : PySem.W.Frag) : V → Option Int → Option Int → Hp → VK → Prop := fun x lo hi H Q => ∃ a xs, x = .ref a ∧ SqT K H a xs ∧
  (HT.sIx xs.length 0 lo = 0 ∧ HT.sIx xs.length xs.length hi = xs.length → Q (.ref a) H) ∧ (¬ (HT.sIx xs.length 0 lo = 0 ∧ HT.sIx xs.length xs.length hi = xs.length) → ∀ p its n, H p = none → Q (.ref p) (upd H p (.frz (tupO its n) (.tup (L2.cutV xs lo hi)))))
theorem s_tup : SlR X (rSlF X.K) := fun pins s σ H x v vl vu lo hi sl Q I rx hs pl pu ⟨a, xs, ex, hx, q1, q2⟩ => by
  subst ex
  by_cases hw : HT.sIx xs.length 0 lo = 0 ∧ HT.sIx xs.length xs.length hi = xs.length
  · exact L2.sl_tupA pins s σ H _ v vl vu lo hi sl Q I rx hs pl pu ⟨a, xs, rfl, hx, q1, fun z => (z hw).elim⟩
  · cases rx
    obtain ⟨its, r, ht, hz⟩ := I.tuple hx
    have hl : its.toArray.size = xs.length := by rw [List.size_toArray]; exact r.length.symm
    refine ⟨"tuple", _, PyProof.Rows.slot_tuple_getitem.lookup, ht.typeIs, HT.getItem_tuple_cut ht hs pl pu (by rw [hl]; exact hw) ?_ (by rw [hl]; exact hz)⟩
    rw [hl]
    obtain ⟨J, hn⟩ := lay_tup0 (vs := L2.cutV xs lo hi) I ((r.drop (HT.sIx xs.length 0 lo)).take (HT.sIx xs.length xs.length hi - HT.sIx xs.length 0 lo)) (Nat.le_trans (L2.cutV_length xs lo hi) hz)
    exact ⟨.ref s.heap.objs.size, _, J, rfl, q2 hw _ _ _ hn⟩
theorem slImp {r r' : V → Option Int → Option Int → Hp → VK → Prop} (o : SlR X r) (i : ∀ x a b H Q, r' x a b H Q → r x a b H Q) : SlR X r' := fun pins s σ H x v vl vu lo hi sl Q I rx hs pl pu q => o pins s σ H x v vl vu lo hi sl Q I rx hs pl pu (i _ _ _ _ _ q)
def rPS (K : PySem.W.Frag) (T : List (Addr × Str)) : V → Option Int → Option Int → Hp → VK → Prop := fun x l u H Q => ∃ w h d, HRel K T w h H ∧ Rep K w H d x ∧ Gives K T w h H (cutR d l u h) Q
theorem o_cut : SlR X (rPS X.K T) := slImp (s_tup.or L2.sl_list) fun x l u H Q ⟨w, h, d, r, p, g⟩ => by
  have lst : ∀ {xs : List D}, lstOf h d = some xs → Gives X.K T w h H (.ok (.lst (cut xs l u)) h) Q → L2.rSlL X.K x l u H Q := by
    intro xs z g
    obtain ⟨a, vs, e1, e2, e3⟩ := lst_of r p z
    exact ⟨a, vs, e1, e2, fun q hq => g.lst r (cut_of e3) hq⟩
  cases d with
  | tup xs =>
    obtain ⟨a, vs, e1, e2, e3⟩ := p
    refine .inl ⟨a, vs, e1, e2.sq, fun z => ?_, fun _ q its n hq => g.tup r (cut_of e3) hq⟩
    have z' : HT.sIx xs.length 0 l = 0 ∧ HT.sIx xs.length xs.length u = xs.length := by rw [e3.length] at z; exact z
    have g : Gives X.K T w h H (.ok (.tup (cut xs l u)) h) Q := g
    rw [cut_all z'] at g
    exact g.same r ⟨a, vs, rfl, e2, e3⟩
  | lst xs => exact .inr (lst rfl g)
  | scr xs => exact .inr (lst rfl g)
  | ref n =>
    have g : Gives X.K T w h H (match lstOf h (.ref n) with
      | some xs => .ok (.lst (cut xs l u)) h
      | none => .stuck) Q := g
    cases z : lstOf h (.ref n) with
    | none => rw [z] at g; exact (Gives.no g).elim
    | some ys => rw [z] at g; exact .inr (lst z g)
  | _ => exact (Gives.no g).elim
/-! ### built-in functions -/
theorem c_len : CallR X (.builtin "len") (rPL X.K T .len) := callImp L2.call_len fun vs H Q ⟨w, h, ds, r, p, g⟩ => by
  match ds, p, g with
  | [d], p, g =>
    obtain ⟨v, rfl, p1⟩ := rp1 p
    have p := p1
    have seq : ∀ {ys : List D}, seqOf h d = some ys → Gives X.K T w h H (.ok (.int ys.length) h) Q → ∃ x n, [v] = [x] ∧ L2.LenV X.K x H n ∧ Q (.int n) H := by
      intro ys z g
      obtain ⟨a, vs, e1, e2, e3⟩ := seq_of r p z
      subst e1
      exact ⟨_, ys.length, rfl, by rw [← e3.length]; exact e2.elim (fun e => .inl ⟨vs, e, rfl⟩) (fun e => .inr ⟨vs, e, rfl⟩), g.same r rfl⟩
    cases d with
    | str z =>
      obtain ⟨c, g⟩ := Gives.if g
      cases (show v = .str z from p)
      exact ⟨_, z.length, rfl, ⟨c, rfl⟩, g.same r rfl⟩
    | tup ys => exact seq rfl g
    | lst ys => exact seq rfl g
    | scr ys => exact seq rfl g
    | ref n =>
      have g : Gives X.K T w h H (match seqOf h (.ref n) with
        | some xs => .ok (.int xs.length) h
        | none => .stuck) Q := g
      cases z : seqOf h (.ref n) with
      | none => rw [z] at g; exact (Gives.no g).elim
      | some ys => rw [z] at g; exact seq z g
    | _ => exact (Gives.no g).elim
  | [], _, g => exact (Gives.no g).elim
  | _ :: _ :: _, _, g => exact (Gives.no g).elim
theorem c_all (hc : X.calm = true) : CallR X (.builtin "all") (rPL X.K T .all) := callImp (L2.cr_all hc) fun vs H Q ⟨w, h, ds, r, p, g⟩ => by
  match ds, p, g with
  | [d], p, g =>
    obtain ⟨v, rfl, p1⟩ := rp1 p
    have p := p1
    have g : Gives X.K T w h H (match lstOf h d with
      | some xs => okB h ((blsOf xs).map fun bs => bs.all id)
      | none => .stuck) Q := g
    cases z : lstOf h d with
    | none => rw [z] at g; exact (Gives.no g).elim
    | some ys =>
      rw [z] at g
      obtain ⟨b, e, q⟩ := Gives.okB g r
      obtain ⟨a, vs, e1, e2, e3⟩ := lst_of r p z
      cases z2 : blsOf ys with
      | none => rw [z2] at e; cases e
      | some bs => rw [z2] at e; cases e; subst e1; rw [bls_of e3 z2] at e2; exact ⟨a, bs, rfl, e2, q⟩
  | [], _, g => exact (Gives.no g).elim
  | _ :: _ :: _, _, g => exact (Gives.no g).elim
theorem c_any (hc : X.calm = true) : CallR X (.builtin "any") (rPL X.K T .any) := callImp (L2.cr_any hc) fun vs H Q ⟨w, h, ds, r, p, g⟩ => by
  match ds, p, g with
  | [d], p, g =>
    obtain ⟨v, rfl, p1⟩ := rp1 p
    have p := p1
    have g : Gives X.K T w h H (match lstOf h d with
      | some xs => okB h ((blsOf xs).map fun bs => bs.any id)
      | none => .stuck) Q := g
    cases z : lstOf h d with
    | none => rw [z] at g; exact (Gives.no g).elim
    | some ys =>
      rw [z] at g
      obtain ⟨b, e, q⟩ := Gives.okB g r
      obtain ⟨a, vs, e1, e2, e3⟩ := lst_of r p z
      cases z2 : blsOf ys with
      | none => rw [z2] at e; cases e
      | some bs => rw [z2] at e; cases e; subst e1; rw [bls_of e3 z2] at e2; exact ⟨a, bs, rfl, e2, q⟩
  | [], _, g => exact (Gives.no g).elim
  | _ :: _ :: _, _, g => exact (Gives.no g).elim
theorem c_sum (hc : X.calm = true) : CallR X (.builtin "sum") (rPL X.K T .sum) := callImp (L2.cr_sum hc) fun vs H Q ⟨w, h, ds, r, p, g⟩ => by
  match ds, p, g with
  | [d], p, g =>
    obtain ⟨v, rfl, p1⟩ := rp1 p
    have p := p1
    have g : Gives X.K T w h H (match lstOf h d with
      | some xs => okD h ((intsOf xs).map fun ns => .int ns.sum)
      | none => .stuck) Q := g
    cases z : lstOf h d with
    | none => rw [z] at g; exact (Gives.no g).elim
    | some ys =>
      rw [z] at g
      obtain ⟨b, e, g⟩ := Gives.okD g
      obtain ⟨a, vs, e1, e2, e3⟩ := lst_of r p z
      cases z2 : intsOf ys with
      | none => rw [z2] at e; cases e
      | some bs => rw [z2] at e; cases e; subst e1; rw [ints_of e3 z2] at e2; exact ⟨a, bs, rfl, e2, g.same r rfl⟩
  | [], _, g => exact (Gives.no g).elim
  | _ :: _ :: _, _, g => exact (Gives.no g).elim
theorem c_int : CallR X (.type "int") (rPL X.K T .int) := callImp L2.call_int1 fun vs H Q ⟨w, h, ds, r, p, g⟩ => by
  match ds, p, g with
  | [d], p, g =>
    obtain ⟨v, rfl, p1⟩ := rp1 p
    have p := p1
    cases d with
    | int i => cases (show v = .int i from p); exact .inl ⟨i, rfl, g.same r rfl⟩
    | bl b => cases (show v = .bl b from p); exact .inr ⟨b, rfl, g.same r rfl⟩
    | _ => exact (Gives.no g).elim
  | [], _, g => exact (Gives.no g).elim
  | _ :: _ :: _, _, g => exact (Gives.no g).elim
theorem c_max2 (hc : X.calm = true) : CallR X (.builtin "max") (rPL X.K T .max2) := callImp (L2.call_max2 hc) fun vs H Q ⟨w, h, ds, r, p, g⟩ => by
  match ds, p, g with
  | [.int i, .int j], p, g =>
    obtain ⟨v, u, rfl, p1, q⟩ := rp2 p
    have p := p1
    cases (show v = .int i from p); cases (show u = .int j from q)
    exact ⟨i, j, rfl, g.same r rfl⟩
  | [], _, g => exact (Gives.no g).elim
  | [d], _, g => cases d <;> exact (Gives.no g).elim
  | d :: e :: f :: t, _, g => cases d <;> cases e <;> exact (Gives.no g).elim
  | [.non, _], _, g => exact (Gives.no g).elim
  | [.bl _, _], _, g => exact (Gives.no g).elim
  | [.str _, _], _, g => exact (Gives.no g).elim
  | [.tup _, _], _, g => exact (Gives.no g).elim
  | [.lst _, _], _, g => exact (Gives.no g).elim
  | [.ref _, _], _, g => exact (Gives.no g).elim
  | [.scr _, _], _, g => exact (Gives.no g).elim
  | [.int _, .non], _, g => exact (Gives.no g).elim
  | [.int _, .bl _], _, g => exact (Gives.no g).elim
  | [.int _, .str _], _, g => exact (Gives.no g).elim
  | [.int _, .tup _], _, g => exact (Gives.no g).elim
  | [.int _, .lst _], _, g => exact (Gives.no g).elim
  | [.int _, .ref _], _, g => exact (Gives.no g).elim
  | [.int _, .scr _], _, g => exact (Gives.no g).elim
theorem c_min2 (hc : X.calm = true) : CallR X (.builtin "min") (rPL X.K T .min2) := callImp (L2.call_min2 hc) fun vs H Q ⟨w, h, ds, r, p, g⟩ => by
  match ds, p, g with
  | [.int i, .int j], p, g =>
    obtain ⟨v, u, rfl, p1, q⟩ := rp2 p
    have p := p1
    cases (show v = .int i from p); cases (show u = .int j from q)
    exact ⟨i, j, rfl, g.same r rfl⟩
  | [], _, g => exact (Gives.no g).elim
  | [d], _, g => cases d <;> exact (Gives.no g).elim
  | d :: e :: f :: t, _, g => cases d <;> cases e <;> exact (Gives.no g).elim
  | [.non, _], _, g => exact (Gives.no g).elim
  | [.bl _, _], _, g => exact (Gives.no g).elim
  | [.str _, _], _, g => exact (Gives.no g).elim
  | [.tup _, _], _, g => exact (Gives.no g).elim
  | [.lst _, _], _, g => exact (Gives.no g).elim
  | [.ref _, _], _, g => exact (Gives.no g).elim
  | [.scr _, _], _, g => exact (Gives.no g).elim
  | [.int _, .non], _, g => exact (Gives.no g).elim
  | [.int _, .bl _], _, g => exact (Gives.no g).elim
  | [.int _, .str _], _, g => exact (Gives.no g).elim
  | [.int _, .tup _], _, g => exact (Gives.no g).elim
  | [.int _, .lst _], _, g => exact (Gives.no g).elim
  | [.int _, .ref _], _, g => exact (Gives.no g).elim
  | [.int _, .scr _], _, g => exact (Gives.no g).elim
/-- tuple(xs), what is new being known -/
def rTupF (K : PySem.W.Frag) : List V → Hp → VK → Prop := fun xs H Q => ∃ p ys, xs = [.ref p] ∧ ((SqL K H p ys ∧ ∀ l its n, H l = none → Q (.ref l) (upd H l (.frz (tupO its n) (.tup ys)))) ∨ (SqT K H p ys ∧ Q (.ref p) H))
theorem c_tupF : CallR X (.type "tuple") (rTupF X.K) := fun pins s σ H xs us Q I r ⟨p, ys, e, z⟩ => by
  subst e
  rcases z with ⟨hq, q⟩ | ⟨hq, q⟩
  · obtain ⟨u, rfl, rx⟩ := L2.vals1 r
    cases rx
    obtain ⟨its, r', pl, hz⟩ := I.list hq
    have hl := r'.length
    refine call_tuple_list pl.isList (fun h' kp => ?_) (by simp only [List.size_toArray] <;> omega)
    obtain ⟨J, hn⟩ := lay_tup (t' := s.toks) I kp r' hz
    exact ⟨.ref h'.objs.size, _, J, rfl, q _ _ _ hn⟩
  · exact L2.call_tuple_of pins s σ H _ us Q I r ⟨p, ys, rfl, .inr ⟨hq, q⟩⟩
theorem seq_tup {K : PySem.W.Frag} {w : Wd} {h : Hh} {H : Hp} {d : D} {v : V} {xs : List D} (r : HRel K T w h H) (p : Rep K w H d v) (e : seqOf h d = some xs) : (∃ ys, d = .tup ys) ∨ lstOf h d = some xs := by
  cases d with
  | tup ys => exact .inl ⟨ys, rfl⟩
  | _ => exact .inr e
theorem c_tuple : CallR X (.type "tuple") (rPL X.K T .tuple) := callImp c_tupF fun vs H Q ⟨w, h, ds, r, p, g⟩ => by
  match ds, p, g with
  | [d], p, g =>
    obtain ⟨v, rfl, p1⟩ := rp1 p
    have p := p1
    have g : Gives X.K T w h H (match seqOf h d with
      | some xs => .ok (.tup xs) h
      | none => .stuck) Q := g
    cases z : seqOf h d with
    | none => rw [z] at g; exact (Gives.no g).elim
    | some ys =>
      rw [z] at g
      rcases seq_tup r p z with ⟨zs, rfl⟩ | z2
      · cases z
        obtain ⟨a, vs, e1, e2, e3⟩ := p
        subst e1
        exact ⟨a, vs, rfl, .inr ⟨e2.sq, g.same r ⟨a, vs, rfl, e2, e3⟩⟩⟩
      · obtain ⟨a, vs, e1, e2, e3⟩ := lst_of r p z2
        subst e1
        exact ⟨a, vs, rfl, .inl ⟨e2, fun l its n hl => g.tup r e3 hl⟩⟩
  | [], _, g => exact (Gives.no g).elim
  | _ :: _ :: _, _, g => exact (Gives.no g).elim
theorem c_list : CallR X (.type "list") (rPL X.K T .list) := callImp L2.call_list_of fun vs H Q ⟨w, h, ds, r, p, g⟩ => by
  match ds, p, g with
  | [d], p, g =>
    obtain ⟨v, rfl, p1⟩ := rp1 p
    have p := p1
    have g : Gives X.K T w h H (match seqOf h d with
      | some xs => .ok (.lst xs) h
      | none => .stuck) Q := g
    cases z : seqOf h d with
    | none => rw [z] at g; exact (Gives.no g).elim
    | some ys =>
      rw [z] at g
      obtain ⟨a, vs, e1, e2, e3⟩ := seq_of r p z
      subst e1
      exact ⟨a, vs, rfl, e2, fun l hl => g.lst r e3 hl⟩
  | [], _, g => exact (Gives.no g).elim
  | _ :: _ :: _, _, g => exact (Gives.no g).elim
end
end Ir

set_option Elab.async false
set_option linter.all false
set_option maxRecDepth 100000
set_option maxHeartbeats 4000000
/-! Ir6: isinstance, methods, truth. -/
namespace Ir
open PySem PySem.Spec PyProof.Rows
open L2 (V Hp HO TE TT TA TS VK SqL SqT Rd upd upd_same upd_ne ne_of ne_of_none valV Inv OpR UnR CallR MtR IxR SlR TruR R2 EP Vals RelV PE PT PA)
def tyName : Ty → String
  | .non => "NoneType" | .int => "int" | .str => "str" | .bool => "bool" | .tuple => "tuple" | .list => "list" | .dict => "dict"
section
variable {K : PySem.W.Frag} {T : List (Addr × Str)} {w : Wd} {h : Hh} {H : Hp}
theorem tyOf_ref {n : Nat} {t : Ty} (e : tyOf h (.ref n) = some t) : (t = .list ∧ ∃ xs, h[n]? = some (.lst xs)) ∨ (t = .dict ∧ ∃ xs, h[n]? = some (.dct xs)) := by
  unfold tyOf at e
  cases q : h[n]? with
  | none => simp [q] at e
  | some o =>
    cases o with
    | lst xs => simp [q] at e; exact .inl ⟨e.symm, xs, rfl⟩
    | dct xs => simp [q] at e; exact .inr ⟨e.symm, xs, rfl⟩
    | ins _ _ => simp [q] at e
    | opq => simp [q] at e
theorem ty_of {d : D} {v : V} {t : Ty} (r : HRel K T w h H) (p : Rep K w H d v) (e : tyOf h d = some t) : L2.TyX K H v (.type (tyName t)) := by
  cases d with
  | non => cases (show v = .non from p); cases e; exact .base .non
  | bl x => cases (show v = .bl x from p); cases e; exact .base (.bl x)
  | int x => cases (show v = .int x from p); cases e; exact .base (.int x)
  | str x => cases (show v = .str x from p); cases e; exact .base (.str x)
  | tup xs =>
    obtain ⟨a, vs, e1, e2, _⟩ := p
    subst e1; cases e
    rcases e2 with ⟨its, n, q⟩ | ⟨its, n, q, _⟩
    · exact .fTuple q
    · exact .kTuple q rfl
  | lst xs =>
    obtain ⟨a, vs, e1, e2, e3, _⟩ := p
    subst e1; cases e
    exact .base (.lst e3)
  | scr xs =>
    obtain ⟨a, e1, e3⟩ := p
    subst e1; cases e
    rcases r.scr e3 with (q | ⟨o, q⟩) | ⟨o, its, n, q, c, _⟩
    · exact .base (.lst q)
    · exact .base (.frz q)
    · exact .kList q c
  | ref n =>
    obtain ⟨a, e1, e2⟩ := p
    subst e1
    rcases tyOf_ref e with ⟨rfl, xs, q⟩ | ⟨rfl, xs, q⟩
    · obtain ⟨a', vs, i, hb, _⟩ := r.lst q
      rw [i] at e2; cases e2
      exact .base (.lst hb)
    · obtain ⟨a', vs, i, hb, _⟩ := r.dct q
      rw [i] at e2; cases e2
      exact .base (.dK hb)
theorem kit_tys (s t : Ty) : L2.kitB (tyName s) (tyName t) = some (s == t || (s == .bool && t == .int)) := by
  cases s <;> cases t <;> decide +kernel
theorem isTy_at {d : D} {t : Ty} {b : Bool} (e : isTy h d t = some b) : ∃ s, tyOf h d = some s ∧ b = (s == t || (s == .bool && t == .int)) := by
  unfold isTy at e
  cases q : tyOf h d with
  | none => rw [q] at e; cases e
  | some s => rw [q] at e; cases e; exact ⟨s, rfl, rfl⟩
theorem isTys_at {d : D} {s : Ty} (q : tyOf h d = some s) : ∀ {ts : List Ty} {b : Bool}, isTys h d ts = some b → PySem.W.kitAny K (.type (tyName s)) (ts.map fun t => Value.type (tyName t)) = some b
  | [], b, e => by cases e; rfl
  | t :: ts, b, e => by
    unfold isTys at e
    cases z1 : isTy h d t with
    | none => rw [z1] at e; cases e
    | some a =>
      cases z2 : isTys h d ts with
      | none => rw [z1, z2] at e; cases e
      | some c =>
        rw [z1, z2] at e; cases e
        obtain ⟨s', e1, e2⟩ := isTy_at z1
        rw [q] at e1; cases e1
        exact L2.kitAny_cons (L2.kit_ty ((kit_tys s t).trans (congrArg some e2.symm))) (fun z => by rw [z]; exact isTys_at q z2) (fun z => by rw [z]; rfl)
end
/-! ### the arguments of isinstance: one class, or a tuple of classes -/
section
variable {T : List (Addr × Str)} {X : L2.Cx}
def rIsa (K : PySem.W.Frag) (T : List (Addr × Str)) (t : Ty) : List V → Hp → VK → Prop := fun vs H Q => ∃ x, vs = [x, .ty (tyName t)] ∧ rP1 K T (.isa t) x H Q
theorem c_isa {t : Ty} : CallR X (.builtin "isinstance") (rIsa X.K T t) := callImp L2.call_isi fun vs H Q ⟨x, e, w, h, d, r, p, g⟩ => by
  obtain ⟨b, e2, q⟩ := Gives.okB (o := isTy h d t) g r
  obtain ⟨s, e3, rfl⟩ := isTy_at e2
  exact ⟨x, _, _, _, _, e, .ty _, ty_of r p e3, L2.kit_ty (kit_tys s t), q⟩
def rIsas (K : PySem.W.Frag) (T : List (Addr × Str)) (ts : List Ty) : List V → Hp → VK → Prop := fun vs H Q => ∃ x a, vs = [x, .ref a] ∧ ts ≠ [] ∧ H a = some (.tup (ts.map fun t => V.ty (tyName t))) ∧ rP1 K T (.isas ts) x H Q
theorem paired_tys : ∀ ts : List Ty, Paired L2.ClsV (ts.map fun t => V.ty (tyName t)) (ts.map fun t => Value.type (tyName t))
  | [] => .nil
  | t :: ts => .cons (.ty _) (paired_tys ts)
theorem c_isas {ts : List Ty} : CallR X (.builtin "isinstance") (rIsas X.K T ts) := callImp L2.call_isiT fun vs H Q ⟨x, a, e, hne, ha, w, h, d, r, p, g⟩ => by
  obtain ⟨b, e2, q⟩ := Gives.okB (o := isTys h d ts) g r
  cases ts with
  | nil => exact (hne rfl).elim
  | cons t ts =>
    have e2' := e2
    unfold isTys at e2'
    cases z1 : isTy h d t with
    | none => rw [z1] at e2'; cases e2'
    | some b' =>
      obtain ⟨s, e3, _⟩ := isTy_at z1
      exact ⟨x, a, _, _, _, b, e, ha, paired_tys _, ty_of r p e3, isTys_at e3 e2, q⟩
/-! ### methods -/
theorem m_append : MtR X "list.append" (rPM X.K T .append) := mtImp L2.mt_append fun x vs H Q ⟨w, h, d, ds, r, p, ps, g⟩ => by
  match d, ds, p, ps, g with
  | .ref n, [y], p, ps, g =>
    obtain ⟨v, rfl, p1⟩ := rp1 ps
    obtain ⟨a, e1, e2⟩ := p
    have g : Gives X.K T w h H (match h[n]? with
      | some (.lst xs) => okIf (xs.length < sizeLine) (.ok .non (h.set n (.lst (xs ++ [y]))))
      | _ => .stuck) Q := g
    cases q : h[n]? with
    | none => rw [q] at g; exact (Gives.no g).elim
    | some o =>
      rw [q] at g
      cases o with
      | lst xs =>
        obtain ⟨c, g⟩ := Gives.if g
        obtain ⟨a', us, i, hb, pl⟩ := r.lst q
        rw [i] at e2; cases e2
        have st : Step w h H w (h.set n (.lst (xs ++ [y]))) (upd H a (.lst (us ++ [v]))) := Step.put r q rfl rfl i
        refine ⟨a, us, v, e1, rfl, hb, by rw [pl.length]; exact c, ?_⟩
        exact g.elim fun _ f => f w _ .non st (r.put q rfl rfl i ⟨_, upd_same, (RepL.step st r _ _ pl).append (RepL.cons (Rep.step st r _ _ p1) RepL.nil)⟩) rfl
      | _ => exact (Gives.no g).elim
  | .ref _, [], _, _, g => exact (Gives.no g).elim
  | .ref _, _ :: _ :: _, _, _, g => exact (Gives.no g).elim
  | .non, ds, _, _, g => cases ds with | nil => exact (Gives.no g).elim | cons _ t => cases t <;> exact (Gives.no g).elim
  | .bl _, ds, _, _, g => cases ds with | nil => exact (Gives.no g).elim | cons _ t => cases t <;> exact (Gives.no g).elim
  | .int _, ds, _, _, g => cases ds with | nil => exact (Gives.no g).elim | cons _ t => cases t <;> exact (Gives.no g).elim
  | .str _, ds, _, _, g => cases ds with | nil => exact (Gives.no g).elim | cons _ t => cases t <;> exact (Gives.no g).elim
  | .tup _, ds, _, _, g => cases ds with | nil => exact (Gives.no g).elim | cons _ t => cases t <;> exact (Gives.no g).elim
  | .lst _, ds, _, _, g => cases ds with | nil => exact (Gives.no g).elim | cons _ t => cases t <;> exact (Gives.no g).elim
  | .scr _, ds, _, _, g => cases ds with | nil => exact (Gives.no g).elim | cons _ t => cases t <;> exact (Gives.no g).elim
/-- l.extend(xs), xs a list that is tracked, or a plain tuple -/
def rExtA (K : PySem.W.Frag) : V → List V → Hp → VK → Prop := fun x vs H Q => ∃ l b xs zs, x = .ref l ∧ vs = [.ref b] ∧ H l = some (.lst xs) ∧ (H b = some (.lst zs) ∨ Tup0 K H b zs) ∧ xs.length + zs.length ≤ sizeLine ∧ Q .non (upd H l (.lst (xs ++ zs)))
theorem m_extA : MtR X "list.extend" (rExtA X.K) := fun pins s σ H x vs v us Q I rx rv ⟨l, b, xs, zs, ex, ev, hH, hB, hz, q⟩ => by
  subst ex; subst ev
  rcases hB with hB | hB
  · exact L2.mt_extend pins s σ H _ _ v us Q I rx rv ⟨l, b, xs, zs, rfl, rfl, hH, hB, hz, q⟩
  · cases rx
    obtain ⟨u, rfl, ru⟩ := rv.one
    cases ru
    obtain ⟨z, its, n, r, hl, e⟩ := I.lstM hH
    have tb : ∃ (i2 : Array Value) (n2 : Nat), s.heap.get? b = some (tupO i2 n2) ∧ Vals zs i2.toList := by
      rcases hB with ⟨i2, n2, hb⟩ | ⟨i2, n2, hb, _, hv⟩
      · obtain ⟨g1, _, it, g3, o, g4, g5, n3, g6⟩ := I.hok b _ hb
        rw [g1] at g4; cases g4
        have g6 : Data.seq i2 n2 = Data.seq it.toArray n3 := g6
        injection g6 with g7 _
        exact ⟨i2, n2, g1, by rw [g7]; exact g3⟩
      · exact ⟨i2, n2, I.kIn b _ hb, hv⟩
    obtain ⟨i2, n2, e2, r2⟩ := tb
    have hl2 := r2.length
    have s1 : its.toArray.size = xs.length := by rw [List.size_toArray]; omega
    have s2 : i2.size = zs.length := by rw [hl2]; simp
    have hlong : ¬ (!its.toArray.isEmpty && Builtin.List.listTooLong (its.toArray.size + i2.size)) = true := by
      rw [s1, s2, L2.notLongL hz, Bool.and_false]; exact Bool.false_ne_true
    refine call_meets F.slot_list_extend ⟨_, e, rfl⟩ F.entry_list_extend (F.args_list_extend_2 _ _) (AutoSeq1.list_extend_list_tuple_0 l its.toArray n b i2 n2 hlong (by rw [s1]; omega) (by rw [s1, s2]; omega)) ⟨e, e2, ?_⟩
    refine ⟨.non, _, I.lset (its' := its ++ i2.toList) hH e (by simp) (r.append r2) (by rw [List.length_append]; omega), rfl, q⟩
end
end Ir

set_option Elab.async false
set_option linter.all false
set_option maxRecDepth 100000
set_option maxHeartbeats 4000000
/-! Ir7: methods, subscripts as expressions. -/
namespace Ir
open PySem PySem.Spec PyProof.Rows
open L2 (V Hp HO TE TT TA TS VK SqL SqT Rd upd upd_same upd_ne ne_of ne_of_none valV Inv OpR UnR CallR MtR IxR SlR TruR R2 EP Vals RelV PE PT PA thn AP)
theorem ext_odd {n : Nat} {y : D} {h : Hh} (e : seqOf h y = none ∨ (∃ m, y = .ref m) ∨ ∃ xs, y = .scr xs) : prim .extend [.ref n, y] h = .stuck := by
  show (match h[n]? with
    | some (.lst xs) => (match y with
      | .ref _ => R.stuck
      | .scr _ => R.stuck
      | y => match seqOf h y with
        | some ys => okIf (xs.length + ys.length ≤ sizeLine) (.ok .non (h.set n (.lst (xs ++ ys))))
        | none => R.stuck)
    | _ => R.stuck) = R.stuck
  cases h[n]? with
  | none => rfl
  | some o =>
    cases o with
    | lst xs =>
      rcases e with e | ⟨m, rfl⟩ | ⟨m, rfl⟩
      · cases y <;> first | rfl | cases e | (show (match seqOf h _ with | some ys => _ | none => R.stuck) = R.stuck; rw [e])
      · rfl
      · rfl
    | _ => rfl
section
variable {T : List (Addr × Str)} {X : L2.Cx}
theorem m_extend : MtR X "list.extend" (rPM X.K T .extend) := mtImp m_extA fun x vs H Q ⟨w, h, d, ds, r, p, ps, g⟩ => by
  have go : ∀ {n : Nat} {y : D} {v : V} {ys : List D}, Rep X.K w H (.ref n) x → Rep X.K w H y v → seqOf h y = some ys → (∀ xs, y ≠ .scr xs) → (∀ m, y ≠ .ref m) →
      Gives X.K T w h H (match h[n]? with
        | some (.lst xs) => okIf (xs.length + ys.length ≤ sizeLine) (.ok .non (h.set n (.lst (xs ++ ys))))
        | _ => .stuck) Q → rExtA X.K x [v] H Q := by
    intro n y v ys p p1 sy ns nr g
    obtain ⟨a, e1, e2⟩ := p
    cases q : h[n]? with
    | none => rw [q] at g; exact (Gives.no g).elim
    | some o =>
      rw [q] at g
      cases o with
      | lst xs =>
        obtain ⟨c, g⟩ := Gives.if g
        obtain ⟨a', us, i, hb, pl⟩ := r.lst q
        rw [i] at e2; cases e2
        have tb : ∃ b zs, v = .ref b ∧ (H b = some (.lst zs) ∨ Tup0 X.K H b zs) ∧ RepL X.K w H ys zs := by
          cases y with
          | tup zs => cases sy; obtain ⟨b, z, f1, f2, f3⟩ := p1; exact ⟨b, z, f1, .inr f2, f3⟩
          | lst zs => cases sy; obtain ⟨b, z, f1, f2, f3, f4⟩ := p1; exact ⟨b, z, f1, .inl f3, f4⟩
          | scr zs => exact (ns _ rfl).elim
          | ref m => exact (nr _ rfl).elim
          | _ => cases sy
        obtain ⟨b, zs, f1, f2, f3⟩ := tb
        subst f1
        have st : Step w h H w (h.set n (.lst (xs ++ ys))) (upd H a (.lst (us ++ zs))) := Step.put r q rfl rfl i
        refine ⟨a, b, us, zs, e1, rfl, hb, f2, by rw [pl.length, f3.length]; exact c, ?_⟩
        exact g.elim fun _ f => f w _ .non st (r.put q rfl rfl i ⟨_, upd_same, (RepL.step st r _ _ pl).append (RepL.step st r _ _ f3)⟩) rfl
      | _ => exact (Gives.no g).elim
  match d, ds, p, ps, g with
  | .ref n, [y], p, ps, g =>
    obtain ⟨v, rfl, p1⟩ := rp1 ps
    cases y with
    | tup ys => exact go p p1 rfl (fun _ z => by cases z) (fun _ z => by cases z) g
    | lst ys => exact go p p1 rfl (fun _ z => by cases z) (fun _ z => by cases z) g
    | _ => rw [ext_odd (by first | exact .inl rfl | exact .inr (.inl ⟨_, rfl⟩) | exact .inr (.inr ⟨_, rfl⟩))] at g; exact (Gives.no g).elim
  | .ref _, [], _, _, g => exact (Gives.no g).elim
  | .ref _, _ :: _ :: _, _, _, g => exact (Gives.no g).elim
  | .non, ds, _, _, g => cases ds with | nil => exact (Gives.no g).elim | cons _ t => cases t <;> exact (Gives.no g).elim
  | .bl _, ds, _, _, g => cases ds with | nil => exact (Gives.no g).elim | cons _ t => cases t <;> exact (Gives.no g).elim
  | .int _, ds, _, _, g => cases ds with | nil => exact (Gives.no g).elim | cons _ t => cases t <;> exact (Gives.no g).elim
  | .str _, ds, _, _, g => cases ds with | nil => exact (Gives.no g).elim | cons _ t => cases t <;> exact (Gives.no g).elim
  | .tup _, ds, _, _, g => cases ds with | nil => exact (Gives.no g).elim | cons _ t => cases t <;> exact (Gives.no g).elim
  | .lst _, ds, _, _, g => cases ds with | nil => exact (Gives.no g).elim | cons _ t => cases t <;> exact (Gives.no g).elim
  | .scr _, ds, _, _, g => cases ds with | nil => exact (Gives.no g).elim | cons _ t => cases t <;> exact (Gives.no g).elim
theorem m_join : MtR X "str.join" (rPM X.K T .join) := mtImp L2.mt_join fun x vs H Q ⟨w, h, d, ds, r, p, ps, g⟩ => by
  match d, ds, p, ps, g with
  | .str a, [y], p, ps, g =>
    obtain ⟨v, rfl, p1⟩ := rp1 ps
    have g : Gives X.K T w h H (match seqOf h y with
      | some xs => match strsOf xs with
        | some ys => okIf ((ys.map (·.length)).sum + a.length * ys.length ≤ 16777216) (.ok (.str (Txt.join a ys)) h)
        | none => .stuck
      | none => .stuck) Q := g
    cases z : seqOf h y with
    | none => rw [z] at g; exact (Gives.no g).elim
    | some xs =>
      rw [z] at g
      have g : Gives X.K T w h H (match strsOf xs with
        | some ys => okIf ((ys.map (·.length)).sum + a.length * ys.length ≤ 16777216) (.ok (.str (Txt.join a ys)) h)
        | none => .stuck) Q := g
      cases z2 : strsOf xs with
      | none => rw [z2] at g; exact (Gives.no g).elim
      | some ys =>
        rw [z2] at g
        obtain ⟨c, g⟩ := Gives.if g
        obtain ⟨b, us, e1, e2, e3⟩ := seq_of r p1 z
        rw [strs_of e3 z2] at e2
        subst e1
        exact ⟨a, b, ys, p, rfl, e2, by rw [Nat.mul_comm ys.length]; exact c, g.same r rfl⟩
  | .str _, [], _, _, g => exact (Gives.no g).elim
  | .str _, _ :: _ :: _, _, _, g => exact (Gives.no g).elim
  | .non, ds, _, _, g => cases ds with | nil => exact (Gives.no g).elim | cons _ t => cases t <;> exact (Gives.no g).elim
  | .bl _, ds, _, _, g => cases ds with | nil => exact (Gives.no g).elim | cons _ t => cases t <;> exact (Gives.no g).elim
  | .int _, ds, _, _, g => cases ds with | nil => exact (Gives.no g).elim | cons _ t => cases t <;> exact (Gives.no g).elim
  | .ref _, ds, _, _, g => cases ds with | nil => exact (Gives.no g).elim | cons _ t => cases t <;> exact (Gives.no g).elim
  | .tup _, ds, _, _, g => cases ds with | nil => exact (Gives.no g).elim | cons _ t => cases t <;> exact (Gives.no g).elim
  | .lst _, ds, _, _, g => cases ds with | nil => exact (Gives.no g).elim | cons _ t => cases t <;> exact (Gives.no g).elim
  | .scr _, ds, _, _, g => cases ds with | nil => exact (Gives.no g).elim | cons _ t => cases t <;> exact (Gives.no g).elim
theorem kind_ref {h : Hh} {n : Nat} {k : MK} (e : kindOf h (.ref n) = some k) : k = .lst ∧ ∃ xs, h[n]? = some (.lst xs) := by
  have e : (match h[n]? with
    | some (.lst _) => some MK.lst
    | _ => none) = some k := e
  cases q : h[n]? with
  | none => rw [q] at e; cases e
  | some o =>
    rw [q] at e
    cases o with
    | lst xs => cases e; exact ⟨rfl, xs, rfl⟩
    | _ => cases e
/-- the kind k alone -/
def rPK (K : PySem.W.Frag) (T : List (Addr × Str)) (p : P) (k : MK) : V → List V → Hp → VK → Prop := fun x vs H Q => ∃ w h d ds, kindOf h d = some k ∧ HRel K T w h H ∧ Rep K w H d x ∧ RepL K w H ds vs ∧ Gives K T w h H (prim p (d :: ds) h) Q
theorem prim_index {x y : D} {h : Hh} {xs : List D} (e : seqOf h x = some xs) : prim .index [x, y] h = if (flat y && xs.all flat) = true then (match firstAt y xs 0 with
    | some n => .ok (.int (n : Nat)) h
    | none => .stuck) else .stuck := by
  cases x <;> first | cases e | skip
  · rfl
  · rfl
  · rename_i n
    show (match seqOf h (.ref n) with
      | some xs => _
      | none => R.stuck) = _
    rw [e]
    all_goals rfl
  · rfl
theorem one_arg {d : D} {ds : List D} {h : Hh} {w : Wd} {H : Hp} {Q : VK} (g : Gives X.K T w h H (prim .index (d :: ds) h) Q) : ∃ y, ds = [y] := by
  match ds, g with
  | [y], _ => exact ⟨y, rfl⟩
  | [], g => cases d <;> exact (Gives.no g).elim
  | _ :: _ :: _, g => cases d <;> exact (Gives.no g).elim
theorem m_index_s : MtR X "str.index" (rPK X.K T .index .str) := mtImp L2.mt_sindex fun x vs H Q ⟨w, h, d, ds, kd, r, p, ps, g⟩ => by
  obtain ⟨y, rfl⟩ := one_arg g
  obtain ⟨v, rfl, p1⟩ := rp1 ps
  cases d with
  | str a =>
    cases y with
    | str b =>
      have g : Gives X.K T w h H (match Builtin.Str.occurrences a b 0 a.length 1 with
        | i :: _ => .ok (.int (i : Nat)) h
        | [] => .stuck) Q := g
      cases z : Builtin.Str.occurrences a b 0 a.length 1 with
      | nil => rw [z] at g; exact (Gives.no g).elim
      | cons i t => rw [z] at g; cases (show v = .str b from p1); exact ⟨a, b, i, t, p, rfl, z, g.same r rfl⟩
    | _ => exact (Gives.no g).elim
  | tup _ => cases kd
  | lst _ => cases kd
  | scr _ => cases kd
  | ref n => cases (kind_ref kd).1
  | _ => cases kd
theorem kind_lst {d : D} {h : Hh} (k : kindOf h d = some .lst) : ∃ xs, lstOf h d = some xs ∧ seqOf h d = some xs := by
  cases d with
  | lst xs => exact ⟨xs, rfl, rfl⟩
  | scr xs => exact ⟨_, rfl, rfl⟩
  | ref n =>
    obtain ⟨_, xs, q⟩ := kind_ref k
    exact ⟨xs, by simp only [lstOf, q], by simp only [seqOf, q]⟩
  | _ => cases k
theorem m_index_l : MtR X "list.index" (rPK X.K T .index .lst) := mtImp L2.mt_index fun x vs H Q ⟨w, h, d, ds, kd, r, p, ps, g⟩ => by
  obtain ⟨y, rfl⟩ := one_arg g
  obtain ⟨v, rfl, p1⟩ := rp1 ps
  obtain ⟨xs, z1, z2⟩ := kind_lst kd
  rw [prim_index z2] at g
  by_cases c : (flat y && xs.all flat) = true
  · rw [if_pos c] at g
    obtain ⟨c1, c2⟩ := Bool.and_eq_true_iff.mp c
    cases q : firstAt y xs 0 with
    | none => rw [q] at g; exact (Gives.no g).elim
    | some n =>
      rw [q] at g
      obtain ⟨j, z, e0, e1, e2, e3⟩ := firstAt_ok q
      obtain ⟨a, us, f1, f2, f3⟩ := lst_of r p z1
      obtain ⟨zv, g1, g2⟩ := f3.get e1
      have fz : ∀ {m : Nat} {z' : D}, xs[m]? = some z' → flat z' = true := fun {m z'} e => List.all_eq_true.mp c2 z' (List.mem_of_getElem? e)
      have ej : n = j := by omega
      subst ej
      refine ⟨a, us, v, n, zv, f1, rfl, f2, flat_of p1 c1, flats_of f3 c2, g1, (flatEq_of g2 p1 (fz e1) c1).trans e2, fun m z' hm hz => ?_, g.same r rfl⟩
      obtain ⟨x', hx, rx⟩ := f3.at hz
      exact (flatEq_of rx p1 (fz hx) c1).trans (e3 m x' hm hx)
  · rw [if_neg c] at g; exact (Gives.no g).elim
/-- t.index(x), flat things -/
def rIndexT (K : PySem.W.Frag) : V → List V → Hp → VK → Prop := fun x xs H Q => ∃ (a : Addr) (ys : List V) (y : V) (j : Nat) (z : V), x = V.ref a ∧ xs = [y] ∧ SqT K H a ys ∧ L2.flatV y = true ∧ ys.all L2.flatV = true ∧ ys[j]? = some z ∧ L2.eqV z y = true ∧
  (∀ (m : Nat) (z' : V), m < j → ys[m]? = some z' → L2.eqV z' y = false) ∧ Q (.int (j : Nat)) H
theorem m_indexT : MtR X "tuple.index" (rIndexT X.K) := fun pins s σ H x xs v us Q I rx rxs ⟨a, ys, y, j, z, ex, exs, hs, fy, fys, hz, hzj, hno, q⟩ => by
  subst ex; subst exs
  cases rx
  obtain ⟨uy, rfl, ry⟩ := L2.vals1 rxs
  obtain ⟨its, rv, ⟨⟨cls, dd, data, sl⟩, ho, hc, n, hd⟩, hlen⟩ := I.tuple hs
  simp only at hc hd
  subst hc; subst hd
  have hvl := rv.length
  obtain ⟨u, hu, ru⟩ := rv.get hz
  obtain ⟨hjl, hje⟩ := List.getElem?_eq_some_iff.mp hu
  have hj : j < its.toArray.size := by simpa using hjl
  refine call_meets PySem.F.slot_tuple_index ⟨_, ho, rfl⟩ PySem.F.entry_tuple_index (PySem.F.args_tuple_index_2 _ _)
    (SeqAt.tuple_index2_found a its.toArray n dd sl uy (fun k => ((its.toArray[k]?).map (L2.eqU y)).getD false) j hj (Nat.zero_le _) hj ?_ ?_) ⟨ho, fun k hk => ?_, ?_⟩
  · have e1 : its.toArray[j]? = some u := by simpa using hu
    show ((its.toArray[j]?).map (L2.eqU y)).getD false = true
    rw [e1]
    show L2.eqU y u = true
    rw [L2.eqU_of ru (L2.flat_at fys hz)]; exact hzj
  · intro m hm _ hmj
    have hmy : m < ys.length := by rw [hvl]; simpa using hm
    have hy' : ys[m]? = some ys[m] := List.getElem?_eq_getElem hmy
    obtain ⟨u2, hu2, ru2⟩ := rv.get hy'
    have e1 : its.toArray[m]? = some u2 := by simpa using hu2
    show ((its.toArray[m]?).map (L2.eqU y)).getD false = false
    rw [e1]
    show L2.eqU y u2 = false
    rw [L2.eqU_of ru2 (L2.flat_at fys hy')]; exact hno m _ hmj hy'
  · have e1 : its.toArray[k]? = some its.toArray[k] := by simp [hk]
    show SeqAt.EqAt _ s its.toArray[k] uy (((its.toArray[k]?).map (L2.eqU y)).getD false)
    rw [e1]
    exact L2.mem_eqAt ry fy rv fys _ (by simp)
  · exact ⟨.int (j : Nat), H, I.tok _, ⟨_, rfl⟩, q⟩
theorem m_index_t : MtR X "tuple.index" (rPK X.K T .index .tup) := mtImp m_indexT fun x vs H Q ⟨w, h, d, ds, kd, r, p, ps, g⟩ => by
  obtain ⟨y, rfl⟩ := one_arg g
  obtain ⟨v, rfl, p1⟩ := rp1 ps
  have kt : ∃ xs, d = .tup xs := by
    cases d with
    | tup xs => exact ⟨xs, rfl⟩
    | ref n => cases (kind_ref kd).1
    | _ => cases kd
  obtain ⟨xs, rfl⟩ := kt
  rw [prim_index rfl] at g
  by_cases c : (flat y && xs.all flat) = true
  · rw [if_pos c] at g
    obtain ⟨c1, c2⟩ := Bool.and_eq_true_iff.mp c
    cases q : firstAt y xs 0 with
    | none => rw [q] at g; exact (Gives.no g).elim
    | some n =>
      rw [q] at g
      obtain ⟨j, z, e0, e1, e2, e3⟩ := firstAt_ok q
      obtain ⟨a, us, f1, f2, f3⟩ := p
      obtain ⟨zv, g1, g2⟩ := f3.get e1
      have fz : ∀ {m : Nat} {z' : D}, xs[m]? = some z' → flat z' = true := fun {m z'} e => List.all_eq_true.mp c2 z' (List.mem_of_getElem? e)
      have ej : n = j := by omega
      subst ej
      refine ⟨a, us, v, n, zv, f1, rfl, f2.sq, flat_of p1 c1, flats_of f3 c2, g1, (flatEq_of g2 p1 (fz e1) c1).trans e2, fun m z' hm hz => ?_, g.same r rfl⟩
      obtain ⟨x', hx, rx⟩ := f3.at hz
      exact (flatEq_of rx p1 (fz hx) c1).trans (e3 m x' hm hx)
  · rw [if_neg c] at g; exact (Gives.no g).elim
end
end Ir

set_option Elab.async false
set_option linter.all false
set_option maxRecDepth 100000
set_option maxHeartbeats 4000000
/-! Ir8: what an expression of Ir says of an expression of the text: a check. -/
namespace Ir
open PySem
abbrev Names := List (Str × NameKind)
def isLoc (S : Names) (x : Str) : Bool := match S.lookup x with
  | some .local => true
  | some .cell => true
  | _ => false
def isVis (S : Names) (x : Str) : Bool := match S.lookup x with
  | some .local => true
  | some .cell => true
  | some .free => true
  | _ => false
def isGlo (S : Names) (x : Str) : Bool := (match S.lookup x with
  | some .globalImplicit => true
  | _ => false) && !(x == ("__debug__" : Str))
def okName (x : Str) : Bool := !(x == ("__debug__" : Str)) && !(x == ("__classdict__" : Str))
def binP : P → Operator → Bool
  | .add, .Add => true | .sub, .Sub => true | .mul, .Mult => true | .fdiv, .FloorDiv => true | .mod, .Mod => true | .pow, .Pow => true | .xor, .BitXor => true | _, _ => false
def cmpP : P → CmpOp → Bool
  | .eq, .Eq => true | .ne, .NotEq => true | .lt, .Lt => true | .le, .LtE => true | .gt, .Gt => true | .ge, .GtE => true | .inn, .In => true | .nin, .NotIn => true | _, _ => false
def bltN : P → Option (Str × Nat)
  | .len => some ("len", 1) | .all => some ("all", 1) | .any => some ("any", 1) | .sum => some ("sum", 1) | .int => some ("int", 1) | .max2 => some ("max", 2) | .min2 => some ("min", 2)
  | .tuple => some ("tuple", 1) | .list => some ("list", 1) | _ => none
def methN : P → Option Str
  | .join => some "join" | .index => some "index" | .append => some "append" | .extend => some "extend" | _ => none
def notSet : Expr → Bool
  | .Set .. => false
  | _ => true
def notSlice : Expr → Bool
  | .Slice .. => false
  | _ => true
def notStar : Expr → Bool
  | .Starred .. => false
  | _ => true
def notSuper : Expr → Bool
  | .Call (.Name _ _) [] [] _ => false
  | _ => true
/-- its test is its value's truth -/
def byTruth : Expr → Bool
  | .UnaryOp .Not _ _ => false
  | .BoolOp .. => false
  | .IfExp .. => false
  | .Compare .. => false
  | _ => true
def cstB : D → Const → Bool
  | .non, .none => true
  | .bl a, .bool b => a == b
  | .int a, .int b => decide (a = b)
  | .str a, .str b => decide (a = b)
  | _, _ => false
def isNone : Expr → Bool
  | .Constant .none _ _ => true
  | _ => false
def tyB (Pg : Prog) (S : Names) (t : Ty) : Expr → Bool
  | .Name x _ => decide (x = Str.ofString (tyName t)) && isGlo S x && Pg.free.contains x && decide (t ≠ .non)
  | _ => false
def tysB (Pg : Prog) (S : Names) : List Ty → List Expr → Bool
  | [], [] => true
  | t :: ts, e :: es => tyB Pg S t e && tysB Pg S ts es
  | _, _ => false
def blkB (N : List Str) (S : Names) (scope : Scope) (own : List (Str × Nat)) : Bool :=
  decide (scope.kind = .function) && (scope.names.all fun y => decide (scope.names.lookup y.1 = some y.2)) && (own.all fun p => decide (N[p.2]? = some p.1)) &&
    (scope.names.all fun y => match y.2 with
      | .free => decide (S.lookup y.1 = some .cell) || decide (S.lookup y.1 = some .free)
      | .local => decide (y.1 ∈ own.map (·.1)) || decide (y.1 ∉ N)
      | .cell => decide (y.1 ∈ own.map (·.1)) || decide (y.1 ∉ N)
      | _ => true)
def lamPar : Arguments → Option (List (Str × Int))
  | ⟨[], [], none, [], [], none, []⟩ => some []
  | ⟨[], [⟨a, _, _⟩], none, [], [], none, [.Constant (.int i) _ _]⟩ => some [(a, i)]
  | _ => none
def lamB (N : List Str) (S : Names) (scope : Scope) (params : Arguments) : Bool :=
  decide (scope.kind = .function) && !scope.isCoroutine && !scope.isGenerator && (scope.names.all fun y => !decide (y.2 = .cell) && (!decide (y.2 = .local) || decide (y.1 ∉ N)) && (!decide (y.2 = .free) || decide (S.lookup y.1 = some .cell) || decide (S.lookup y.1 = some .free))) &&
    (match lamPar params with
    | some ps => ps.all fun p => decide (scope.names.lookup p.1 = some .local)
    | none => false)
def keyB : Key → Option Expr → Bool
  | .inl i, some (.Constant (.int j) _ _) => decide (i = j)
  | .inr x, some (.Constant (.str y) _ _) => decide (x = y)
  | _, _ => false
def keysB : List Key → List (Option Expr) → Bool
  | [], [] => true
  | k :: ks, e :: es => keyB k e && keysB ks es
  | _, _ => false
def noArgs (a : Arguments) : Bool := a.posonlyargs.isEmpty && a.args.isEmpty && a.vararg.isNone && a.kwonlyargs.isEmpty && a.kw_defaults.isEmpty && a.kwarg.isNone && a.defaults.isEmpty
def nonStar : L → Bool
  | .nil => true
  | .cons _ r => nonStar r
  | .star _ _ => false
/-- a walk of pairs goes to a pair -/
def pairB : G → Expr → Bool
  | .zip _ _, .Tuple _ _ _ => true
  | .enum _, .Tuple _ _ _ => true
  | .zip _ _, _ => false
  | .enum _, _ => false
  | _, _ => true
section
variable (Pg : Prog) (N : List Str)
mutual
def okE (S : Names) : E → Expr → Bool
  | .var i, e => match e with
    | .Name x _ => decide (N[i]? = some x) && isVis S x && okName x
    | _ => false
  | .cst d, e => match e with
    | .Constant c _ _ => cstB d c
    | _ => false
  | .con k, e => match e with
    | .Name x _ => decide ((Pg.cons[k]?).map (·.1) = some x) && isGlo S x
    | _ => false
  | .prim p es, e => nonStar es && match e with
    | .BinOp a op b _ => binP p op && okL S es [a, b]
    | .UnaryOp .USub a _ => decide (p = .neg) && okL S es [a]
    | .Compare a [.Is] [b] _ => decide (p = .isN) && isNone b && okL S es [a]
    | .Compare a [.IsNot] [b] _ => decide (p = .notN) && isNone b && okL S es [a]
    | .Compare a [op] [b] _ => cmpP p op && notSet b && okL S es [a, b]
    | .Subscript a b _ => decide (p = .idx) && notSlice b && okL S es [a, b]
    | .Call (.Name x _) args [] _ => isGlo S x && Pg.free.contains x && (match p with
      | .isa t => decide (x = ("isinstance" : Str)) && (match args with
        | [a, c] => tyB Pg S t c && okL S es [a]
        | _ => false)
      | .isas ts => decide (x = ("isinstance" : Str)) && (match args with
        | [a, .Tuple cs _ _] => !ts.isEmpty && decide (ts.length ≤ 15) && tysB Pg S ts cs && okL S es [a]
        | _ => false)
      | p => (match bltN p with
        | some (y, n) => decide (x = y) && decide (args.length = n) && okL S es args
        | none => false))
    | _ => false
  | .meth p o es, e => match e with
    | .Call (.Attribute a m apos) args [] cpos => decide (methN p = some m) && okE S o a && notSuper a && okL S es args && nonStar es && !args.isEmpty && decide (args.length < 30) && (apos.endLine == cpos.line)
    | _ => false
  | .cut fl fh o lo hi, e => match e with
    | .Subscript a (.Slice l u none _) _ => okE S o a && (match l with
      | none => !fl
      | some l => fl && okE S lo l) && (match u with
      | none => !fh
      | some u => fh && okE S hi u)
    | _ => false
  | .and_ a b, e => match e with
    | .BoolOp .And (x :: y :: r) pos => okE S a x && (match r with
      | [] => okE S b y
      | _ => okE S b (.BoolOp .And (y :: r) pos))
    | _ => false
  | .or_ a b, e => match e with
    | .BoolOp .Or (x :: y :: r) pos => okE S a x && (match r with
      | [] => okE S b y
      | _ => okE S b (.BoolOp .Or (y :: r) pos))
    | _ => false
  | .not_ a, e => match e with
    | .UnaryOp .Not x _ => okE S a x
    | _ => false
  | .ite c a b, e => match e with
    | .IfExp x y z _ => okE S c x && okE S a y && okE S b z
    | _ => false
  | .chain p q a b c, e => match e with
    | .Compare x [op, op'] [y, z] _ => cmpP p op && cmpP q op' && notSet z && okE S a x && okE S b y && okE S c z
    | _ => false
  | .tup es, e => match e with
    | .Tuple xs _ _ => okL S es xs
    | _ => false
  | .lst es, e => match e with
    | .List xs _ => okL S es xs
    | _ => false
  | .newl es, e => match e with
    | .List xs _ => okL S es xs
    | _ => false
  | .newd ks es, e => match e with
    | .Dict keys vals _ => keysB ks keys && okL S es vals && nonStar es && !keys.isEmpty && decide (keys.length = vals.length) && decide (keys.length ≤ 15)
    | _ => false
  | .dget o k, e => match e with
    | .Subscript a b _ => okE S o a && okE S k b && notSlice b
    | _ => false
  | .dget2 o k z, e => match e with
    | .Call (.Attribute a m apos) [b, c] [] cpos => decide (m = ("get" : Str)) && okE S o a && okE S k b && okE S z c && notSuper a && notStar b && notStar c && (apos.endLine == cpos.line)
    | _ => false
  | .din neg k o, e => match e with
    | .Compare a [op] [b] _ => (match op with
      | .In => !neg
      | .NotIn => neg
      | _ => false) && notSet b && okE S k a && okE S o b
    | _ => false
  | .call f es, e => match e with
    | .Call (.Name x _) args [] _ => decide ((Pg.fns[f]?).map (·.name) = some x) && isGlo S x && okL S es args && nonStar es && !args.isEmpty
    | _ => false
  | .lc _ own tg src hasIf c elt, e => match e with
    | .ListComp y [⟨t, iter, ifs, 0⟩] scope _ => pairB src t && decide (scope.names ≠ Pg.lamS) && blkB N S scope own && okT scope.names tg t && okG S src iter && notSet iter && okE scope.names elt y && (match ifs with
      | [] => !hasIf
      | [x] => hasIf && okE scope.names c x
      | _ => false)
    | _ => false
  | .told t x body, e => match e with
    | .Call (.Name f _) [.Lambda params b scope _] [] _ => decide (Pg.told[t]? = some (f, x)) && isGlo S f && decide (Pg.lamS = S) && decide (scope.names ≠ Pg.lamS) && lamB N S scope params && okE scope.names body b
    | _ => false
def okL (S : Names) : L → List Expr → Bool
  | .nil, es => es.isEmpty
  | .cons e r, es => match es with
    | x :: xs => notStar x && okE S e x && okL S r xs
    | [] => false
  | .star e r, es => match es with
    | .Starred x _ :: xs => okE S e x && okL S r xs
    | _ => false
def okT (S : Names) : T → Expr → Bool
  | .name i, e => match e with
    | .Name x _ => decide (N[i]? = some x) && isLoc S x
    | _ => false
  | .pair ts, e => match e with
    | .Tuple es _ _ => okTs S ts es
    | _ => false
def okTs (S : Names) : Ts → List Expr → Bool
  | .nil, es => es.isEmpty
  | .cons t r, es => match es with
    | x :: xs => notStar x && okT S t x && okTs S r xs
    | [] => false
def okG (S : Names) : G → Expr → Bool
  | .seq e, x => okE S e x
  | .range1 e, x => match x with
    | .Call (.Name n _) [a] [] _ => decide (n = ("range" : Str)) && isGlo S n && Pg.free.contains n && okE S e a && notStar a
    | _ => false
  | .range2 a b, x => match x with
    | .Call (.Name n _) [p, q] [] _ => decide (n = ("range" : Str)) && isGlo S n && Pg.free.contains n && okE S a p && okE S b q && notStar p && notStar q
    | _ => false
  | .zip a b, x => match x with
    | .Call (.Name n _) [p, q] [] _ => decide (n = ("zip" : Str)) && isGlo S n && Pg.free.contains n && okE S a p && okE S b q && notStar p && notStar q
    | _ => false
  | .enum a, x => match x with
    | .Call (.Name n _) [p] [] _ => decide (n = ("enumerate" : Str)) && isGlo S n && Pg.free.contains n && okE S a p && notStar p
    | _ => false
end
end
/-! ### from the check -/
theorem and2 {a b : Bool} (h : (a && b) = true) : a = true ∧ b = true := Bool.and_eq_true_iff.mp h
theorem star_plain {e : Expr} {es : List Expr} {env : Env} (h : notStar e = true) : starEach (e :: es) env = (false, eval e env) :: starEach es env := by
  cases e <;> first | rfl | cases h
theorem super_plain {o : Expr} {m : Str} {env : Env} (h : notSuper o = true) : attributeBase o m env (eval o env) = eval o env := by
  unfold attributeBase
  cases o with
  | Call f args kws pos =>
    cases f with
    | Name x p =>
      cases args with
      | nil =>
        cases kws with
        | nil => cases h
        | cons _ _ => rfl
      | cons _ _ => rfl
    | _ => rfl
  | _ => rfl
theorem slice_plain {b : Expr} (h : notSlice b = true) : L2.PlainIx b := fun o i => by
  cases b <;> first | rfl | cases h
theorem set_plain' {e : Expr} {env : Env} {x : Value} (h : notSet e = true) : foldedSetIterable e env x = pure x := by
  unfold foldedSetIterable
  cases e <;> first | rfl | cases h
theorem mark_plain {op : CmpOp} {e : Expr} (h : notSet e = true) : behindInMarks op e = false := by
  cases e <;> first | rfl | cases h
theorem truth_plain {e : Expr} {env : Env} (h : byTruth e = true) (whole : Sem Value) : isTrue e env whole = (do let v ← whole; standAt e.pos; holding [v] (truthy v)) := by
  cases e with
  | UnaryOp op x p => cases op <;> first | rfl | cases h
  | BoolOp _ _ _ => cases h
  | IfExp _ _ _ _ => cases h
  | Compare _ _ _ _ => cases h
  | _ => rfl
end Ir

set_option Elab.async false
set_option linter.all false
set_option maxRecDepth 100000
set_option maxHeartbeats 4000000
/-! Ir9: expressions: the check's soundness. -/
namespace Ir
open PySem PySem.Spec PyProof.Rows
open L2 (V Hp HO TE TT TA TS VK SqL SqT Rd upd upd_same upd_ne ne_of ne_of_none valV Inv OpR UnR CallR MtR IxR SlR TruR R2 EP Vals RelV PE PT PA PW PC PO PG PGs PI thn AP)
/-- an exception of a class without fields -/
def ExcR (Pg : Prog) (mg : Str → Option Value) (x : Exn) (cls : Value) (dd : Option Addr) : Prop := x.fs = [] ∧ dd = none ∧ ∃ nm C, Pg.exs[x.cls]? = some nm ∧ mg nm = some (.ref C) ∧ cls = .ref C
def WxE (Pg : Prog) (mg : Str → Option Value) (E : L2.XK) : Exn → Wd → Hp → Prop := fun x _ H => ∀ cls dd, ExcR Pg mg x cls dd → E cls dd H
abbrev WxOf (Pg : Prog) (X : L2.Cx) (W : L2.WX) (σ : L2.St) : Exn → Wd → Hp → Prop := WxE Pg X.mg fun cls dd H => W cls dd σ H
/-- what a def promises -/
def spOf (Pg : Prog) (K : PySem.W.Frag) (T : List (Addr × Str)) (mg : Str → Option Value) (n f : Nat) : L2.Sp := fun vs H Q E => ∃ w h ds, HRel K T w h H ∧ RepL K w H ds vs ∧ Does K T (Rep K) (WxE Pg mg E) w h H (run Pg n 0 f ds h) Q
/-- a def that calls what it got and tells whether it raises x -/
structure ToldK (Pg : Prog) (X : L2.Cx) (f : Str) (x : Nat) : Prop where
  ex : ∃ (g : Addr) (oc : Value) (od : Option Addr) (pg : Arguments) (sg : Scope) (dV kV doc pm : Value) (an : Option Addr) (cdv ct : Value) (osl : Array (Option Value)) (a e nm : Str) (j j2 : Nat) (p1 p2 p3 p4 p5 p6 p7 p8 p9 p10 : Pos),
    X.mg f = some (.ref g) ∧ PySem.W.keepIn X.K (.ref g) = true ∧
    X.K.lookup g = some ⟨oc, od, .func (PySem.W.fnOf f f pg [.Try [.Expr (.Call (.Name a p1) [] [] p2) p3] [.ExceptHandler (some (.Name nm p4)) (some e) [.Return (some (.Constant (.bool true) j p5)) p6] p7] [] [] p8, .Return (some (.Constant (.bool false) j2 p9)) p10] sg dV kV doc pm an cdv ct), osl⟩ ∧
    PySem.W.codeIn X.K cdv f = true ∧ L2.Binds X.K (PySem.W.fnOf f f pg [.Try [.Expr (.Call (.Name a p1) [] [] p2) p3] [.ExceptHandler (some (.Name nm p4)) (some e) [.Return (some (.Constant (.bool true) j p5)) p6] p7] [] [] p8, .Return (some (.Constant (.bool false) j2 p9)) p10] sg dV kV doc pm an cdv ct) [a] [] ∧
    L2.FnScope [a, e] [a] sg ∧ L2.Vis sg a ∧ sg.names.lookup e = some .local ∧ sg.names.lookup nm = some .globalImplicit ∧ Pg.exs[x]? = some nm ∧
    (a == ("__debug__" : Str)) = false ∧ (a == ("__classdict__" : Str)) = false ∧ (nm == ("__debug__" : Str)) = false
/-- a lambda may be made here -/
def LamHere (T : List (Addr × Str)) (X : L2.Cx) : Prop := ∃ c P, X.env.code = .ref c ∧ LamX.TabB X.base X.mg c P ∧ (P, X.env.qual ++ "<lambda>") ∈ T ∧ ∀ p ∈ T, p.1 = P → p.2 = X.env.qual ++ "<lambda>"
/-- where expressions of the text stand -/
structure Gd (Pg : Prog) (T : List (Addr × Str)) (n : Nat) (N : List Str) (S : Names) (X : L2.Cx) : Prop where
  hN : X.N = N
  nd : N.Nodup
  nm : ∀ x k, S.lookup x = some k → X.env.scope.names.lookup x = some k ∨ (k = .free ∧ X.env.scope.names.lookup x = some .cell)
  fnl : ∀ x, S.lookup x = some .cell → X.fn x = true
  calm : X.calm = true
  room : L2.Room n X.A
  free : ∀ x, Pg.free.contains x = true → X.mg x = none
  con : ∀ (k : Nat) (p : Str × D), Pg.cons[k]? = some p → ∃ v u, X.mg p.1 = some u ∧ RelV v u ∧ ∀ w H, Rep X.K w H p.2 v
  fns : ∀ (j f : Nat) (F : Fn), Pg.fns[f]? = some F → ∃ a fd, X.mg F.name = some (.ref a) ∧ PySem.W.keepIn X.K (.ref a) = true ∧ L2.Binds X.K fd F.ps [] ∧ L2.FnOk X.prog X.w X.K X.mg X.base (L2.CX X.prog X.w) (n - j) a fd F.ps (spOf Pg X.K T X.mg (n - j) f)
  exs : ∀ (x : Nat) (nm : Str), Pg.exs[x]? = some nm → ∃ C, X.mg nm = some (.ref C) ∧ PySem.W.keepIn X.K (.ref C) = true ∧ PySem.W.subIn X.K (.ref C) (.type "BaseException") = some true ∧ PySem.W.typeIn X.K (.ref C) = some (.type "type") ∧
    ∃ bm B ni ii, ExcBaseFacts B ni ii bm ∧ PySem.W.excIn X.K C bm ni = true
  sub : ∀ (x y : Nat) (nm nm' : Str) (C C' : Addr), Pg.exs[x]? = some nm → Pg.exs[y]? = some nm' → X.mg nm = some (.ref C) → X.mg nm' = some (.ref C') → PySem.W.exmOne X.K (.ref C) (.ref C') = some (Pg.sub x y)
  told : ∀ (f : Str) (x : Nat), (f, x) ∈ Pg.told → ToldK Pg X f x
  lam : Pg.lamS = S → LamHere T X
structure IOk (Pg : Prog) (n : Nat) (I : Cx) : Prop where
  nn : I.n = n
  con : ∀ k, I.con k = (Pg.cons[k]?).map (·.2)
  C : ∀ j, I.C j = run Pg n j
  sub : I.sub = Pg.sub
theorem run_at (Pg : Prog) : ∀ n j, run Pg n j = run Pg (n - j) 0
  | 0, j => by rw [Nat.zero_sub] <;> rfl
  | n + 1, 0 => rfl
  | n + 1, j + 1 => by
    show run Pg n j = _
    rw [run_at Pg n j, Nat.succ_sub_succ]
def tI (Pg : Prog) (T : List (Addr × Str)) (X : L2.Cx) (W : L2.WX) (I : Cx) (e : E) : TE := fun σ H Q => ∃ w h ρ, HRel X.K T w h H ∧ EnvR X.K w H ρ σ ∧ Does X.K T (Rep X.K) (WxOf Pg X W σ) w h H (evalE I e ρ h) Q
def tB (Pg : Prog) (T : List (Addr × Str)) (X : L2.Cx) (W : L2.WX) (I : Cx) (e : E) : TT := fun σ H Q => ∃ w h ρ, HRel X.K T w h H ∧ EnvR X.K w H ρ σ ∧ Does X.K T (fun _ _ a b => a = b) (WxOf Pg X W σ) w h H (evalB I e ρ h) Q
def tL (Pg : Prog) (T : List (Addr × Str)) (X : L2.Cx) (W : L2.WX) (I : Cx) (es : L) : TA := fun σ H Q => ∃ w h ρ, HRel X.K T w h H ∧ EnvR X.K w H ρ σ ∧ Does X.K T (RepL X.K) (WxOf Pg X W σ) w h H (evalL I es ρ h) Q
section
variable {X : L2.Cx}
theorem peImp {e : Expr} {t t' : TE} (p : PE X e t) (i : ∀ σ H Q, t' σ H Q → t σ H Q) : PE X e t' := ⟨fun pins s σ H Q I h => p.run pins s σ H Q I (i _ _ _ h)⟩
theorem ptImp {e : Expr} {t t' : TT} (p : PT X e t) (i : ∀ σ H Q, t' σ H Q → t σ H Q) : PT X e t' := ⟨fun pins s σ H Q I h => p.run pins s σ H Q I (i _ _ _ h)⟩
theorem pwImp {e : Expr} {t t' : TT} (p : PW X e t) (i : ∀ σ H Q, t' σ H Q → t σ H Q) : PW X e t' := ⟨fun wh pins s σ H Q I h => p.run wh pins s σ H Q I (i _ _ _ h)⟩
theorem paImp {e : List Expr} {t t' : TA} (p : PA X e t) (i : ∀ σ H Q, t' σ H Q → t σ H Q) : PA X e t' := ⟨fun pos pins s σ H Q I h => p.run pos pins s σ H Q I (i _ _ _ h)⟩
/-- the parts of a list, one by one -/
inductive PEs (Pg : Prog) (T : List (Addr × Str)) (X : L2.Cx) (W : L2.WX) (I : Cx) : L → List Expr → Prop
  | nil : PEs Pg T X W I .nil []
  | cons {e : E} {r : L} {x : Expr} {xs : List Expr} : notStar x = true → PE X x (tI Pg T X W I e) → PEs Pg T X W I r xs → PEs Pg T X W I (.cons e r) (x :: xs)
  | star {e : E} {r : L} {x : Expr} {xs : List Expr} {p : Pos} : PE X x (tI Pg T X W I e) → PEs Pg T X W I r xs → PEs Pg T X W I (.star e r) (.Starred x p :: xs)
variable {Pg : Prog} {T : List (Addr × Str)} {W : L2.WX} {I : Cx}
theorem seq_or {K : PySem.W.Frag} {w : Wd} {h : Hh} {H : Hp} {x : D} {v : V} {xs : List D} (r : HRel K T w h H) (p : Rep K w H x v) (e : seqOf h x = some xs) : ∃ a vs, v = .ref a ∧ (SqT K H a vs ∨ SqL K H a vs) ∧ RepL K w H xs vs := by
  obtain ⟨a, vs, e1, e2, e3⟩ := seq_of r p e
  exact ⟨a, vs, e1, e2.symm, e3⟩
theorem PEs.pa {es : L} {xs : List Expr} (p : PEs Pg T X W I es xs) : PA X xs (tL Pg T X W I es) := by
  induction p with
  | nil => exact paImp L2.pa_nil fun σ H Q ⟨w, h, ρ, r, e, d⟩ => Does.here d Step.refl r rfl
  | @cons e es x xs ns hx hr ih =>
    refine paImp (L2.pa_cons hx ih (star_plain ns)) fun σ H Q ⟨w, h, ρ, r, en, d⟩ => ⟨w, h, ρ, r, en, ?_⟩
    refine Does.imp (Does.bind (rel := Rep X.K) d) fun v H1 ⟨w1, h1, a, st, r1, p1, d1⟩ => ⟨w1, h1, ρ, r1, en.step st r, ?_⟩
    refine Does.imp (Does.bind (rel := RepL X.K) d1) fun vs H2 ⟨w2, h2, as, st2, r2, p2, d2⟩ => ?_
    exact Does.here d2 Step.refl r2 (RepL.cons (Rep.step st2 r1 _ _ p1) p2)
  | @star e es x xs pp hx hr ih =>
    refine paImp (StX.pa_star hx ih) fun σ H Q ⟨w, h, ρ, r, en, d⟩ => ⟨w, h, ρ, r, en, ?_⟩
    refine Does.imp (Does.bind (rel := Rep X.K) d) fun v H1 ⟨w1, h1, a, st, r1, p1, d1⟩ => ?_
    have d1 : Does X.K T (RepL X.K) (WxOf Pg X W σ) w1 h1 H1 (match seqOf h1 a with
      | some ys => (evalL I es ρ h1).bind fun xs h2 => .ok (ys ++ xs) h2
      | none => .stuck) Q := d1
    cases z : seqOf h1 a with
    | none => rw [z] at d1; exact d1.elim
    | some ys =>
      rw [z] at d1
      obtain ⟨b, us, e1, e2, e3⟩ := seq_or r1 p1 z
      refine ⟨b, us, e1, e2, w1, h1, ρ, r1, en.step st r, ?_⟩
      refine Does.imp (Does.bind (rel := RepL X.K) d1) fun vs H2 ⟨w2, h2, as, st2, r2, p2, d2⟩ => ?_
      exact Does.here d2 Step.refl r2 ((RepL.step st2 r1 _ _ e3).append p2)
theorem PEs.plain {es : L} {xs : List Expr} (p : PEs Pg T X W I es xs) (ns : nonStar es = true) {pos : Pos} : (backTo pos (starEach xs X.env)).any (·.1) = false := by
  induction p with
  | nil => rfl
  | @cons e es x xs nx hx hr ih =>
    rw [star_plain nx]
    show (false || (backTo pos (starEach xs X.env)).any (·.1)) = false
    rw [ih ns] <;> rfl
  | star _ _ _ => cases ns
/-- one value more: an operation on one, on two -/
theorem up1 {e : E} {f : D → Hh → R D} {σ : L2.St} {H : Hp} {Q : VK} {w : Wd} {h : Hh} {ρ : Rho} (r : HRel X.K T w h H) (en : EnvR X.K w H ρ σ) (d : Does X.K T (Rep X.K) (WxOf Pg X W σ) w h H ((evalE I e ρ h).bind f) Q) :
    tI Pg T X W I e σ H fun x H1 => ∃ w1 h1 a, HRel X.K T w1 h1 H1 ∧ EnvR X.K w1 H1 ρ σ ∧ Rep X.K w1 H1 a x ∧ Does X.K T (Rep X.K) (WxOf Pg X W σ) w1 h1 H1 (f a h1) Q :=
  ⟨w, h, ρ, r, en, Does.imp (Does.bind (rel := Rep X.K) d) fun _ _ ⟨w1, h1, a, st, r1, p1, d1⟩ => ⟨w1, h1, a, r1, en.step st r, p1, d1⟩⟩
theorem up1B {α β : Type} {rel : Wd → Hp → α → β → Prop} {e : E} {f : D → Hh → R α} {σ : L2.St} {H : Hp} {Q : β → Hp → Prop} {w : Wd} {h : Hh} {ρ : Rho} (r : HRel X.K T w h H) (en : EnvR X.K w H ρ σ) (d : Does X.K T rel (WxOf Pg X W σ) w h H ((evalE I e ρ h).bind f) Q) :
    tI Pg T X W I e σ H fun x H1 => ∃ w1 h1 a, HRel X.K T w1 h1 H1 ∧ EnvR X.K w1 H1 ρ σ ∧ Rep X.K w1 H1 a x ∧ Does X.K T rel (WxOf Pg X W σ) w1 h1 H1 (f a h1) Q :=
  ⟨w, h, ρ, r, en, Does.imp (Does.bind (rel := Rep X.K) d) fun _ _ ⟨w1, h1, a, st, r1, p1, d1⟩ => ⟨w1, h1, a, r1, en.step st r, p1, d1⟩⟩
theorem list2 {a b : E} {ρ : Rho} {h : Hh} {α : Type} {f : List D → Hh → R α} : (evalL I (.cons a (.cons b .nil)) ρ h).bind f = (evalE I a ρ h).bind fun x h1 => (evalE I b ρ h1).bind fun y h2 => f [x, y] h2 := by
  show (((evalE I a ρ h).bind fun x h1 => ((evalE I b ρ h1).bind fun y h2 => (R.ok [] h2).bind fun ys h3 => .ok (y :: ys) h3).bind fun xs h2 => .ok (x :: xs) h2)).bind f = _
  cases evalE I a ρ h with
  | ok x h1 =>
    show (((evalE I b ρ h1).bind fun y h2 => (R.ok [] h2).bind fun ys h3 => R.ok (y :: ys) h3).bind fun xs h2 => R.ok (x :: xs) h2).bind f = (evalE I b ρ h1).bind fun y h2 => f [x, y] h2
    cases evalE I b ρ h1 <;> rfl
  | _ => rfl
theorem list1 {a : E} {ρ : Rho} {h : Hh} {α : Type} {f : List D → Hh → R α} : (evalL I (.cons a .nil) ρ h).bind f = (evalE I a ρ h).bind fun x h1 => f [x] h1 := by
  show (((evalE I a ρ h).bind fun x h1 => (R.ok [] h1).bind fun ys h3 => .ok (x :: ys) h3)).bind f = _
  cases evalE I a ρ h <;> rfl
theorem list3 {a b c : E} {ρ : Rho} {h : Hh} {α : Type} {f : List D → Hh → R α} : (evalL I (.cons a (.cons b (.cons c .nil))) ρ h).bind f = (evalE I a ρ h).bind fun x h1 => (evalE I b ρ h1).bind fun y h2 => (evalE I c ρ h2).bind fun z h3 => f [x, y, z] h3 := by
  show ((evalE I a ρ h).bind fun x h1 => (evalL I (.cons b (.cons c .nil)) ρ h1).bind fun xs h2 => .ok (x :: xs) h2).bind f = _
  cases evalE I a ρ h with
  | ok x h1 =>
    show ((evalL I (.cons b (.cons c .nil)) ρ h1).bind fun xs h2 => R.ok (x :: xs) h2).bind f = (evalE I b ρ h1).bind fun y h2 => (evalE I c ρ h2).bind fun z h3 => f [x, y, z] h3
    rw [list2]
    cases evalE I b ρ h1 with
    | ok y h2 =>
      show ((evalE I c ρ h2).bind fun z h3 => R.ok [x, y, z] h3).bind f = (evalE I c ρ h2).bind fun z h3 => f [x, y, z] h3
      cases evalE I c ρ h2 <;> rfl
    | _ => rfl
  | _ => rfl
/-- an operation never raises -/
def quiet (r : R D) : Prop := ∀ x h, r ≠ .exc x h
theorem gives {K : PySem.W.Frag} {w : Wd} {h : Hh} {H : Hp} {r : R D} {Q : VK} {W : Exn → Wd → Hp → Prop} (d : Does K T (Rep K) W w h H r Q) : Gives K T w h H r Q := ⟨W, d⟩
theorem i_prim2 {p : P} {a b : E} {σ : L2.St} {H : Hp} {Q : VK} (t : tI Pg T X W I (.prim p (.cons a (.cons b .nil))) σ H Q) : L2.tOp (rP2 X.K T p) (tI Pg T X W I a) (tI Pg T X W I b) σ H Q := by
  obtain ⟨w, h, ρ, r, en, d⟩ := t
  have d : Does X.K T (Rep X.K) (WxOf Pg X W σ) w h H ((evalL I (.cons a (.cons b .nil)) ρ h).bind fun ds h1 => prim p ds h1) Q := d
  rw [list2] at d
  obtain ⟨w0, h0, ρ0, r0, en0, d0⟩ := up1 r en d
  refine ⟨w0, h0, ρ0, r0, en0, Does.imp d0 fun x H1 ⟨w1, h1, dx, r1, en1, p1, d1⟩ => ?_⟩
  refine ⟨w1, h1, ρ, r1, en1, Does.imp (Does.bind (rel := Rep X.K) d1) fun y H2 ⟨w2, h2, dy, st, r2, p2, d2⟩ => ?_⟩
  exact ⟨w2, h2, dx, dy, r2, Rep.step st r1 _ _ p1, p2, gives d2⟩
theorem i_prim1 {p : P} {a : E} {σ : L2.St} {H : Hp} {Q : VK} (t : tI Pg T X W I (.prim p (.cons a .nil)) σ H Q) : tI Pg T X W I a σ H fun x H1 => rP1 X.K T p x H1 Q := by
  obtain ⟨w, h, ρ, r, en, d⟩ := t
  have d : Does X.K T (Rep X.K) (WxOf Pg X W σ) w h H ((evalL I (.cons a .nil) ρ h).bind fun ds h1 => prim p ds h1) Q := d
  rw [list1] at d
  obtain ⟨w0, h0, ρ0, r0, en0, d0⟩ := up1 r en d
  exact ⟨w0, h0, ρ0, r0, en0, Does.imp d0 fun x H1 ⟨w1, h1, dx, r1, en1, p1, d1⟩ => ⟨w1, h1, dx, r1, p1, gives d1⟩⟩
theorem i_primL {p : P} {es : L} {σ : L2.St} {H : Hp} {Q : VK} (t : tI Pg T X W I (.prim p es) σ H Q) : tL Pg T X W I es σ H fun xs H1 => rPL X.K T p xs H1 Q := by
  obtain ⟨w, h, ρ, r, en, d⟩ := t
  have d : Does X.K T (Rep X.K) (WxOf Pg X W σ) w h H ((evalL I es ρ h).bind fun ds h1 => prim p ds h1) Q := d
  exact ⟨w, h, ρ, r, en, Does.imp (Does.bind (rel := RepL X.K) d) fun xs H1 ⟨w1, h1, ds, st, r1, p1, d1⟩ => ⟨w1, h1, ds, r1, p1, gives d1⟩⟩
/-! names -/
variable {n : Nat} {N : List Str} {S : Names}
theorem Gd.vis (g : Gd Pg T n N S X) {x : Str} (v : isVis S x = true) : L2.Vis X.env.scope x := by
  unfold isVis at v
  cases z : S.lookup x with
  | none => rw [z] at v; cases v
  | some k =>
    rcases g.nm x k z with e | ⟨_, e⟩
    · rw [z] at v
      cases k <;> first | exact .inl e | exact .inr (.inl e) | exact .inr (.inr e) | cases v
    · exact .inr (.inl e)
theorem Gd.loc (g : Gd Pg T n N S X) {x : Str} (v : isLoc S x = true) : L2.Loc X.env.scope x ∧ (X.fn x = true ∨ X.env.scope.names.lookup x = some .local) := by
  unfold isLoc at v
  cases z : S.lookup x with
  | none => rw [z] at v; cases v
  | some k =>
    rw [z] at v
    rcases g.nm x k z with e | ⟨ek, _⟩
    · cases k with
      | «local» => exact ⟨.inl e, .inr e⟩
      | cell => exact ⟨.inr e, .inl (g.fnl x z)⟩
      | _ => cases v
    · subst ek; cases v
theorem Gd.glo (g : Gd Pg T n N S X) {x : Str} (v : isGlo S x = true) : L2.Gl X x ∧ (x == ("__debug__" : Str)) = false := by
  obtain ⟨v1, v2⟩ := and2 v
  refine ⟨?_, by simpa using v2⟩
  cases z : S.lookup x with
  | none => rw [z] at v1; cases v1
  | some k =>
    rw [z] at v1
    rcases g.nm x k z with e | ⟨ek, _⟩
    · cases k <;> first | exact e | cases v1
    · subst ek; cases v1
end
end Ir

set_option Elab.async false
set_option linter.all false
set_option maxRecDepth 100000
set_option maxHeartbeats 4000000
/-! Ir10: the forms of expressions. -/
namespace Ir
open PySem PySem.Spec PyProof.Rows
open L2 (V Hp HO TE TT TA TS VK SqL SqT Rd upd upd_same upd_ne ne_of ne_of_none valV Inv OpR UnR CallR MtR IxR SlR TruR R2 EP Vals RelV PE PT PA PW PC PO PG PGs PI thn AP)
section
variable {X : L2.Cx} {Pg : Prog} {T : List (Addr × Str)} {W : L2.WX} {I : Cx} {n : Nat} {N : List Str} {S : Names}
theorem PEs.two {es : L} {a b : Expr} (p : PEs Pg T X W I es [a, b]) (ns : nonStar es = true) : ∃ x y, es = .cons x (.cons y .nil) ∧ PE X a (tI Pg T X W I x) ∧ PE X b (tI Pg T X W I y) ∧ notStar a = true ∧ notStar b = true := by
  cases p with
  | cons n1 p1 q =>
    cases q with
    | cons n2 p2 q => cases q; exact ⟨_, _, rfl, p1, p2, n1, n2⟩
    | star _ _ => cases ns
  | star _ _ => cases ns
theorem PEs.one {es : L} {a : Expr} (p : PEs Pg T X W I es [a]) (ns : nonStar es = true) : ∃ x, es = .cons x .nil ∧ PE X a (tI Pg T X W I x) ∧ notStar a = true := by
  cases p with
  | cons n1 p1 q => cases q; exact ⟨_, rfl, p1, n1⟩
  | star _ _ => cases ns
theorem PEs.three {es : L} {a b c : Expr} (p : PEs Pg T X W I es [a, b, c]) (ns : nonStar es = true) : ∃ x y z, es = .cons x (.cons y (.cons z .nil)) ∧ PE X a (tI Pg T X W I x) ∧ PE X b (tI Pg T X W I y) ∧ PE X c (tI Pg T X W I z) := by
  cases p with
  | cons n1 p1 q =>
    obtain ⟨y, z, e, p2, p3, _⟩ := PEs.two q ns
    subst e
    exact ⟨_, y, z, rfl, p1, p2, p3⟩
  | star _ _ => cases ns
theorem PEs.args {es : L} {a : Expr} {as : List Expr} (p : PEs Pg T X W I es (a :: as)) (ns : nonStar es = true) {pos : Pos} : starEach (a :: as) X.env = (false, eval a X.env) :: starEach as X.env ∧ (backTo pos (starEach as X.env)).any (·.1) = false := by
  cases p with
  | cons n1 p1 q => exact ⟨star_plain n1, q.plain ns⟩
  | star _ _ => cases ns
/-! ### operators -/
theorem f_bin {p : P} {op : Operator} {es : L} {a b : Expr} {pos : Pos} (ok : binP p op = true) (ps : PEs Pg T X W I es [a, b]) (ns : nonStar es = true) : PE X (.BinOp a op b pos) (tI Pg T X W I (.prim p es)) := by
  obtain ⟨x, y, rfl, pa, pb, _⟩ := ps.two ns
  have go : ∀ {q : P}, OpR X (binaryOp op) (rP2 X.K T q) → PE X (.BinOp a op b pos) (tI Pg T X W I (.prim q (.cons x (.cons y .nil)))) := fun o => peImp (L2.pe_op o pa pb) fun σ H Q t => i_prim2 t
  cases p <;> cases op <;> first | exact Bool.noConfusion ok | exact go o_add | exact go o_sub | exact go o_mul | exact go o_fdiv | exact go o_mod | exact go o_pow | exact go o_xor
theorem f_neg {es : L} {a : Expr} {pos : Pos} (ps : PEs Pg T X W I es [a]) (ns : nonStar es = true) : PE X (.UnaryOp .USub a pos) (tI Pg T X W I (.prim .neg es)) := by
  obtain ⟨x, rfl, pa, _⟩ := ps.one ns
  exact peImp (L2.pe_un o_neg pa) fun σ H Q t => i_prim1 t
theorem cmp_rule (hu : X.A.units + 64 < cLine) {p : P} {op : CmpOp} (ok : cmpP p op = true) : OpR X (compareOp op) (rP2 X.K T p) := by
  cases p <;> cases op <;> first | exact Bool.noConfusion ok | exact o_eq hu | exact o_ne hu | exact o_lt hu | exact o_le | exact o_gt | exact o_ge | exact o_in | exact o_nin
theorem f_cmp (g : Gd Pg T n N S X) {p : P} {op : CmpOp} {es : L} {a b : Expr} {pos : Pos} (ok : cmpP p op = true) (nb : notSet b = true) (ps : PEs Pg T X W I es [a, b]) (ns : nonStar es = true) : PE X (.Compare a [op] [b] pos) (tI Pg T X W I (.prim p es)) := by
  obtain ⟨x, y, rfl, pa, pb, _⟩ := ps.two ns
  exact peImp (L2.pe_cmpR (cmp_rule g.room.units ok) pa pb (mark_plain nb)) fun σ H Q t => i_prim2 t
theorem f_none {p : P} {es : L} {a b : Expr} {pos : Pos} (hb : isNone b = true) (ps : PEs Pg T X W I es [a]) (ns : nonStar es = true) :
    (p = .isN → PE X (.Compare a [.Is] [b] pos) (tI Pg T X W I (.prim p es))) ∧ (p = .notN → PE X (.Compare a [.IsNot] [b] pos) (tI Pg T X W I (.prim p es))) := by
  obtain ⟨x, rfl, pa, _⟩ := ps.one ns
  cases b with
  | Constant c k ps2 =>
    cases c with
    | none =>
      refine ⟨fun e => ?_, fun e => ?_⟩
      · subst e
        refine peImp (L2.pe_cmpR (o_isN (T := T)) pa L2.pe_non rfl) fun σ H Q t => ?_
        obtain ⟨w, h, ρ, r, en, d⟩ := i_prim1 t
        exact ⟨w, h, ρ, r, en, Does.imp d fun v H1 q => ⟨rfl, q⟩⟩
      · subst e
        refine peImp (L2.pe_cmpR (o_notN (T := T)) pa L2.pe_non rfl) fun σ H Q t => ?_
        obtain ⟨w, h, ρ, r, en, d⟩ := i_prim1 t
        exact ⟨w, h, ρ, r, en, Does.imp d fun v H1 q => ⟨rfl, q⟩⟩
    | _ => cases hb
  | _ => cases hb
theorem f_ix {es : L} {a b : Expr} {pos : Pos} (nb : notSlice b = true) (ps : PEs Pg T X W I es [a, b]) (ns : nonStar es = true) : PE X (.Subscript a b pos) (tI Pg T X W I (.prim .idx es)) := by
  obtain ⟨x, y, rfl, pa, pb, _⟩ := ps.two ns
  exact peImp (L2.pe_ix o_ix pa pb (slice_plain nb)) fun σ H Q t => i_prim2 t
/-! slices -/
def tO (Pg : Prog) (T : List (Addr × Str)) (X : L2.Cx) (W : L2.WX) (I : Cx) (f : Bool) (e : E) : L2.TO := fun σ H Q => ∃ w h ρ, HRel X.K T w h H ∧ EnvR X.K w H ρ σ ∧ Does X.K T (fun _ _ a b => a = b) (WxOf Pg X W σ) w h H (match f with
  | true => bnd (evalE I e ρ h)
  | false => .ok none h) Q
theorem poImp {e : Option Expr} {t t' : L2.TO} (p : PO X e t) (i : ∀ σ H Q, t' σ H Q → t σ H Q) : PO X e t' := ⟨fun pins s σ H Q I h => p.run pins s σ H Q I (i _ _ _ h)⟩
theorem f_part {f : Bool} {e : E} {x : Option Expr} (h : match x with
    | none => f = false
    | some x => f = true ∧ PE X x (tI Pg T X W I e)) : PO X x (tO Pg T X W I f e) := by
  cases x with
  | none =>
    have h : f = false := h
    subst h
    exact poImp L2.po_none fun σ H Q ⟨w, h, ρ, r, en, d⟩ => Does.here d Step.refl r rfl
  | some x =>
    obtain ⟨rfl, p⟩ := h
    refine poImp (L2.po_some p) fun σ H Q ⟨w, h, ρ, r, en, d⟩ => ?_
    obtain ⟨w0, h0, ρ0, r0, en0, d0⟩ := up1B (rel := fun _ _ a b => a = b) r en d
    refine ⟨w0, h0, ρ0, r0, en0, Does.imp d0 fun v H1 ⟨w1, h1, a, r1, en1, p1, d1⟩ => ?_⟩
    cases a <;> first | exact ⟨_, p1, Does.here d1 Step.refl r1 rfl⟩ | exact d1.elim
theorem f_cut {fl fh : Bool} {o lo hi : E} {l u : Option Expr} {a : Expr} {pos pos2 : Pos} (pa : PE X a (tI Pg T X W I o)) (hl : match l with
    | none => fl = false
    | some x => fl = true ∧ PE X x (tI Pg T X W I lo)) (hu : match u with
    | none => fh = false
    | some x => fh = true ∧ PE X x (tI Pg T X W I hi)) : PE X (.Subscript a (.Slice l u none pos2) pos) (tI Pg T X W I (.cut fl fh o lo hi)) := by
  refine peImp (L2.pe_slice (o_cut (T := T)) pa (f_part hl) (f_part hu)) fun σ H Q ⟨w, h, ρ, r, en, d⟩ => ?_
  obtain ⟨w0, h0, ρ0, r0, en0, d0⟩ := up1 r en d
  refine ⟨w0, h0, ρ0, r0, en0, Does.imp d0 fun xv H1 ⟨w1, h1, dx, r1, en1, p1, d1⟩ => ?_⟩
  refine ⟨w1, h1, ρ, r1, en1, Does.imp (Does.bind (rel := fun _ _ a b => a = b) d1) fun l H2 ⟨w2, h2, l', s2, r2, p2, d2⟩ => ?_⟩
  refine ⟨w2, h2, ρ, r2, en1.step s2 r1, Does.imp (Does.bind (rel := fun _ _ a b => a = b) d2) fun u H3 ⟨w3, h3, u', s3, r3, p3, d3⟩ => ?_⟩
  subst p2; subst p3
  exact ⟨w3, h3, dx, r3, Rep.step s3 r2 _ _ (Rep.step s2 r1 _ _ p1), gives d3⟩
end
end Ir

set_option Elab.async false
set_option linter.all false
set_option maxRecDepth 100000
set_option maxHeartbeats 4000000
/-! Ir11: names, constants, tests, displays, calls. -/
namespace Ir
open PySem PySem.Spec PyProof.Rows
open L2 (V Hp HO TE TT TA TS VK SqL SqT Rd upd upd_same upd_ne ne_of ne_of_none valV Inv OpR UnR CallR MtR IxR SlR TruR R2 EP Vals RelV PE PT PA PW PC PO PG PGs PI thn AP)
section
variable {K : PySem.W.Frag} {T : List (Addr × Str)} {w : Wd} {h : Hh} {H : Hp}
theorem empty_of {xs : List D} {vs : List V} (p : RepL K w H xs vs) : vs.isEmpty = xs.isEmpty := by
  cases xs with
  | nil => have p : _ = _ := p; subst p; rfl
  | cons x r => obtain ⟨v, us, e, _, _⟩ := p; subst e; rfl
theorem emptyK_of {xs : List (Key × D)} {vs : List (Key × V)} (p : RepK K w H xs vs) : vs.isEmpty = xs.isEmpty := by
  cases xs with
  | nil => have p : _ = _ := p; subst p; rfl
  | cons x r => obtain ⟨v, us, e, _, _⟩ := p; subst e; rfl
theorem tru_of {d : D} {v : V} {k : Bool} (r : HRel K T w h H) (p : Rep K w H d v) (e : truth h d = some k) : L2.TruV K v H k := by
  cases d with
  | non => cases (show v = .non from p); cases e; exact rfl
  | bl b => cases (show v = .bl b from p); cases e; exact rfl
  | int i => cases (show v = .int i from p); cases e; exact rfl
  | str s =>
    cases (show v = .str s from p)
    have e : (if s.length ≤ sizeLine then some (s.length != 0) else none) = some k := e
    by_cases hz : s.length ≤ sizeLine
    · rw [if_pos hz] at e; cases e
      refine ⟨hz, ?_⟩
      cases q : s.length <;> simp <;> omega
    · rw [if_neg hz] at e; cases e
  | tup xs =>
    obtain ⟨a, vs, e1, e2, e3⟩ := p
    cases e; subst e1
    exact .inr (.inl ⟨vs, e2.sq, by rw [empty_of e3]⟩)
  | lst xs =>
    obtain ⟨a, vs, e1, e2, e3, e4⟩ := p
    cases e; subst e1
    exact .inl ⟨vs, .inl (.inl e3), by rw [empty_of e4]⟩
  | scr xs =>
    obtain ⟨a, e1, e3⟩ := p
    cases e; subst e1
    exact .inl ⟨_, r.scr e3, by cases xs <;> rfl⟩
  | ref n =>
    obtain ⟨a, e1, e2⟩ := p
    subst e1
    have e : (match h[n]? with
      | some (.lst xs) => some !xs.isEmpty
      | some (.dct kvs) => some !kvs.isEmpty
      | _ => none) = some k := e
    cases q : h[n]? with
    | none => rw [q] at e; cases e
    | some o =>
      rw [q] at e
      cases o with
      | lst xs =>
        cases e
        obtain ⟨b, vs, i, hb, p⟩ := r.lst q
        rw [i] at e2; cases e2
        exact .inl ⟨vs, .inl (.inl hb), by rw [empty_of p]⟩
      | dct xs =>
        cases e
        obtain ⟨b, vs, i, hb, p⟩ := r.dct q
        rw [i] at e2; cases e2
        exact .inr (.inr ⟨vs, hb, by rw [emptyK_of p]⟩)
      | _ => cases e
end
section
variable {X : L2.Cx} {Pg : Prog} {T : List (Addr × Str)} {W : L2.WX} {I : Cx} {n : Nat} {N : List Str} {S : Names}
/-! ### names, constants -/
theorem f_var (g : Gd Pg T n N S X) {i : Nat} {x : Str} {pos : Pos} (hi : N[i]? = some x) (v : isVis S x = true) (ok : okName x = true) : PE X (.Name x pos) (tI Pg T X W I (.var i)) := by
  obtain ⟨o1, o2⟩ := and2 ok
  refine peImp (L2.pe_var (i := i) (by rw [g.hN]; exact hi) (g.vis v) (by simpa using o1) (by simpa using o2)) fun σ H Q ⟨w, h, ρ, r, en, d⟩ => ?_
  have d : Does X.K T (Rep X.K) (WxOf Pg X W σ) w h H (okD h (getV ρ i)) Q := d
  cases z : getV ρ i with
  | none => rw [z] at d; exact d.elim
  | some x =>
    rw [z] at d
    obtain ⟨v, e1, e2⟩ := en.2 i x z
    exact ⟨v, e1, Does.here d Step.refl r e2⟩
theorem f_cst {d : D} {c : Const} {k : Nat} {pos : Pos} (ok : cstB d c = true) : PE X (.Constant c k pos) (tI Pg T X W I (.cst d)) := by
  cases d <;> cases c <;> first | exact Bool.noConfusion ok | skip
  · exact peImp L2.pe_non fun σ H Q ⟨w, h, ρ, r, en, d⟩ => Does.here d Step.refl r rfl
  · rename_i a b
    have e : a = b := by simpa [cstB] using ok
    subst e
    exact peImp L2.pe_bl fun σ H Q ⟨w, h, ρ, r, en, d⟩ => Does.here d Step.refl r rfl
  · rename_i a b
    have e : a = b := of_decide_eq_true ok
    subst e
    exact peImp L2.pe_int fun σ H Q ⟨w, h, ρ, r, en, d⟩ => Does.here d Step.refl r rfl
  · rename_i a b
    have e : a = b := of_decide_eq_true ok
    subst e
    exact peImp L2.pe_str fun σ H Q ⟨w, h, ρ, r, en, d⟩ => Does.here d Step.refl r rfl
theorem f_con (g : Gd Pg T n N S X) (io : IOk Pg n I) {k : Nat} {x : Str} {pos : Pos} (e : (Pg.cons[k]?).map (·.1) = some x) (gl : isGlo S x = true) : PE X (.Name x pos) (tI Pg T X W I (.con k)) := by
  cases z : Pg.cons[k]? with
  | none => rw [z] at e; cases e
  | some p =>
    rw [z] at e
    obtain rfl : p.1 = x := Option.some.inj e
    obtain ⟨v, u, m, rv, rp⟩ := g.con k p z
    refine peImp (L2.pe_glob (g.glo gl).1 m rv (g.glo gl).2) fun σ H Q ⟨w, h, ρ, r, en, d⟩ => ?_
    have d : Does X.K T (Rep X.K) (WxOf Pg X W σ) w h H (okD h (I.con k)) Q := d
    rw [io.con k, z] at d
    exact Does.here d Step.refl r (rp w H)
/-! ### built-in functions -/
theorem f_call {id : String} {p : P} {x : Str} {e : Expr} {as : List Expr} {es : L} {pos q : Pos} (g : Gd Pg T n N S X) (hc : CallR X (.builtin id) (rPL X.K T p)) (hv : bootBuiltins x = some (.builtin id)) (gl : isGlo S x = true) (fr : Pg.free.contains x = true)
    (hn : x ≠ "__name__") (ps : PEs Pg T X W I es (e :: as)) (ns : nonStar es = true) : PE X (.Call (.Name x q) (e :: as) [] pos) (tI Pg T X W I (.prim p es)) :=
  peImp (L2.pe_callB hc (g.glo gl).1 (g.free x fr) hv ps.pa hn (g.glo gl).2 (ps.args ns (pos := pos)).1 (ps.args ns).2) fun σ H Q t => i_primL t
theorem f_callTy {id : String} {p : P} {x : Str} {e : Expr} {as : List Expr} {es : L} {pos q : Pos} (g : Gd Pg T n N S X) (hc : CallR X (.type id) (rPL X.K T p)) (hv : bootBuiltins x = some (.type id)) (gl : isGlo S x = true) (fr : Pg.free.contains x = true)
    (hn : x ≠ "__name__") (ps : PEs Pg T X W I es (e :: as)) (ns : nonStar es = true) : PE X (.Call (.Name x q) (e :: as) [] pos) (tI Pg T X W I (.prim p es)) :=
  peImp (L2.pe_callTy hc (g.glo gl).1 (g.free x fr) hv ps.pa hn (g.glo gl).2 (ps.args ns (pos := pos)).1 (ps.args ns).2) fun σ H Q t => i_primL t
theorem boot_all' : bootBuiltins "all" = some (.builtin "all") := by decide +kernel
theorem boot_any' : bootBuiltins "any" = some (.builtin "any") := by decide +kernel
theorem f_blt (g : Gd Pg T n N S X) {p : P} {x : Str} {k : Nat} {as : List Expr} {es : L} {pos q : Pos} (b : bltN p = some (x, k)) (hl : as.length = k) (gl : isGlo S x = true) (fr : Pg.free.contains x = true)
    (ps : PEs Pg T X W I es as) (ns : nonStar es = true) : PE X (.Call (.Name x q) as [] pos) (tI Pg T X W I (.prim p es)) := by
  cases as with
  | nil => subst hl; cases p <;> cases b
  | cons e as =>
    cases p <;> first | exact Option.noConfusion b | (cases b) <;> first
      | exact f_call g c_len PyProof.Rows.bootS_len gl fr (by decide) ps ns
      | exact f_call g (c_all g.calm) boot_all' gl fr (by decide) ps ns
      | exact f_call g (c_any g.calm) boot_any' gl fr (by decide) ps ns
      | exact f_call g (c_sum g.calm) PyProof.Rows.boot_sum gl fr (by decide) ps ns
      | exact f_callTy g c_int PyProof.Rows.boot_int gl fr (by decide) ps ns
      | exact f_call g (c_max2 g.calm) PyProof.Rows.boot_max gl fr (by decide) ps ns
      | exact f_call g (c_min2 g.calm) PyProof.Rows.boot_min gl fr (by decide) ps ns
      | exact f_callTy g c_tuple PyProof.Rows.boot_tuple gl fr (by decide) ps ns
      | exact f_callTy g c_list PyProof.Rows.boot_list gl fr (by decide) ps ns
end
end Ir

set_option Elab.async false
set_option linter.all false
set_option maxRecDepth 100000
set_option maxHeartbeats 4000000
/-! Ir12: isinstance, and, or, not, if, chains, displays, dicts, calls. -/
namespace Ir
open PySem PySem.Spec PyProof.Rows
open L2 (V Hp HO TE TT TA TS VK SqL SqT Rd upd upd_same upd_ne ne_of ne_of_none valV Inv OpR UnR CallR MtR IxR SlR TruR R2 EP Vals RelV PE PT PA PW PC PO PG PGs PI thn AP)
section
variable {X : L2.Cx} {Pg : Prog} {T : List (Addr × Str)} {W : L2.WX} {I : Cx} {n : Nat} {N : List Str} {S : Names}
/-! ### isinstance -/
theorem boot_ty {t : Ty} (h : t ≠ .non) : bootBuiltins (Str.ofString (tyName t)) = some (.type (tyName t)) := by
  cases t <;> first | exact (h rfl).elim | exact PyProof.Rows.boot_int | exact PyProof.Rows.boot_str | exact PyProof.Rows.boot_bool | exact PyProof.Rows.boot_tuple | exact PyProof.Rows.boot_list | exact PyProof.Rows.boot_dict
theorem f_ty (g : Gd Pg T n N S X) {t : Ty} {e : Expr} (ok : tyB Pg S t e = true) : PE X e (L2.tC (.ty (tyName t))) ∧ notStar e = true := by
  cases e <;> first | exact Bool.noConfusion ok | skip
  rename_i x p
  obtain ⟨o1, o2⟩ := and2 ok
  obtain ⟨o1, o3⟩ := and2 o1
  obtain ⟨o1, o4⟩ := and2 o1
  have o1 : x = Str.ofString (tyName t) := of_decide_eq_true o1
  have o2 : t ≠ .non := of_decide_eq_true o2
  refine ⟨L2.pe_bltn (g.glo o4).1 (g.free x o3) (by rw [o1]; exact boot_ty o2) rfl (by rw [o1]; cases t <;> decide) (g.glo o4).2, rfl⟩
theorem f_isa (g : Gd Pg T n N S X) {t : Ty} {a c : Expr} {x : Str} {es : L} {pos q : Pos} (hx : x = ("isinstance" : Str)) (gl : isGlo S x = true) (fr : Pg.free.contains x = true) (ok : tyB Pg S t c = true) (ps : PEs Pg T X W I es [a]) (ns : nonStar es = true) :
    PE X (.Call (.Name x q) [a, c] [] pos) (tI Pg T X W I (.prim (.isa t) es)) := by
  obtain ⟨y, rfl, pa, na⟩ := ps.one ns
  obtain ⟨pc, nc⟩ := f_ty g ok
  have hA : PA X [a, c] _ := L2.pa_cons pa (L2.pa_cons pc L2.pa_nil (star_plain nc)) (star_plain na)
  refine peImp (L2.pe_callB (id := "isinstance") (c_isa (T := T) (t := t)) (g.glo gl).1 (g.free x fr) (by rw [hx]; exact PyProof.Rows.boot_isinstance) hA (by rw [hx]; decide) (g.glo gl).2 (star_plain na) (by rw [star_plain nc]; rfl)) fun σ H Q t => ?_
  obtain ⟨w, h, ρ, r, en, d⟩ := i_prim1 t
  exact ⟨w, h, ρ, r, en, Does.imp d fun v H1 q => ⟨v, rfl, q⟩⟩
theorem f_tys (g : Gd Pg T n N S X) : ∀ {ts : List Ty} {es : List Expr}, tysB Pg S ts es = true → PA X es (fun _ H Q => Q (ts.map fun t => V.ty (tyName t)) H)
  | [], [], _ => L2.pa_nil
  | [], _ :: _, ok => Bool.noConfusion ok
  | _ :: _, [], ok => Bool.noConfusion ok
  | t :: ts, e :: es, ok => by
    obtain ⟨o1, o2⟩ := and2 ok
    obtain ⟨pc, nc⟩ := f_ty g o1
    exact paImp (L2.pa_cons pc (f_tys g o2) (star_plain nc)) fun σ H Q q => q
theorem f_isas (g : Gd Pg T n N S X) {ts : List Ty} {a : Expr} {cs : List Expr} {k : Nat} {x : Str} {es : L} {pos q cp : Pos} (hx : x = ("isinstance" : Str)) (gl : isGlo S x = true) (fr : Pg.free.contains x = true) (ne : ts ≠ []) (hl : ts.length ≤ 15) (ok : tysB Pg S ts cs = true) (ps : PEs Pg T X W I es [a]) (ns : nonStar es = true) :
    PE X (.Call (.Name x q) [a, .Tuple cs k cp] [] pos) (tI Pg T X W I (.prim (.isas ts) es)) := by
  obtain ⟨y, rfl, pa, na⟩ := ps.one ns
  have pc : PE X (.Tuple cs k cp) _ := L2.pe_tup (f_tys g ok)
  have hA : PA X [a, .Tuple cs k cp] _ := L2.pa_cons pa (L2.pa_cons pc L2.pa_nil (star_plain rfl)) (star_plain na)
  refine peImp (L2.pe_callB (id := "isinstance") (c_isas (T := T) (ts := ts)) (g.glo gl).1 (g.free x fr) (by rw [hx]; exact PyProof.Rows.boot_isinstance) hA (by rw [hx]; decide) (g.glo gl).2 (star_plain na) (by rw [star_plain rfl]; rfl)) fun σ H Q t => ?_
  obtain ⟨w, h, ρ, r, en, d⟩ := i_prim1 t
  refine ⟨w, h, ρ, r, en, Does.imp d fun v H1 ⟨w1, h1, dx, r1, p1, g1⟩ => ⟨by rw [List.length_map, sizeLine_eq]; omega, fun p hp => ⟨v, p, rfl, ne, upd_same, w1, h1, dx, r1.new hp, Rep.step (Step.new hp) r1 _ _ p1, ?_⟩⟩⟩
  obtain ⟨b, e, q⟩ := Gives.okB (o := isTys h1 dx ts) g1 r1
  obtain ⟨W', d1⟩ := g1
  exact ⟨W', Does.from (Step.new hp) d1⟩
/-! ### and, or, not -/
theorem ptImp' {e : Expr} {t t' : TT} (p : PT X e t) (i : ∀ σ H Q, t' σ H Q → t σ H Q) : PT X e t' := ptImp p i
/-- and, its parts by truth -/
theorem f_and {a b : E} {x y : Expr} {r : List Expr} {pos : Pos} (pa : PE X x (tI Pg T X W I a)) (pb : PE X (.BoolOp .And (y :: r) pos) (tI Pg T X W I b)) : PE X (.BoolOp .And (x :: y :: r) pos) (tI Pg T X W I (.and_ a b)) := by
  refine peImp (L2.pe_andT pa pb) fun σ H Q ⟨w, h, ρ, r, en, d⟩ => ?_
  obtain ⟨w0, h0, ρ0, r0, en0, d0⟩ := up1 r en d
  refine ⟨w0, h0, ρ0, r0, en0, Does.imp d0 fun v H1 ⟨w1, h1, dx, r1, en1, p1, d1⟩ => ?_⟩
  have d1 : Does X.K T (Rep X.K) (WxOf Pg X W σ) w1 h1 H1 (match truth h1 dx with
    | some true => evalE I b ρ h1
    | some false => .ok dx h1
    | none => .stuck) Q := d1
  cases z : truth h1 dx with
  | none => rw [z] at d1; exact d1.elim
  | some k =>
    refine ⟨k, tru_of r1 p1 z, ?_⟩
    rw [z] at d1
    cases k with
    | true => rw [if_pos rfl]; exact ⟨w1, h1, ρ, r1, en1, d1⟩
    | false => rw [if_neg (by simp)]; exact Does.here d1 Step.refl r1 p1
theorem f_or {a b : E} {x y : Expr} {r : List Expr} {pos : Pos} (pa : PE X x (tI Pg T X W I a)) (pb : PE X (.BoolOp .Or (y :: r) pos) (tI Pg T X W I b)) : PE X (.BoolOp .Or (x :: y :: r) pos) (tI Pg T X W I (.or_ a b)) := by
  refine peImp (L2.pe_orT pa pb) fun σ H Q ⟨w, h, ρ, r, en, d⟩ => ?_
  obtain ⟨w0, h0, ρ0, r0, en0, d0⟩ := up1 r en d
  refine ⟨w0, h0, ρ0, r0, en0, Does.imp d0 fun v H1 ⟨w1, h1, dx, r1, en1, p1, d1⟩ => ?_⟩
  have d1 : Does X.K T (Rep X.K) (WxOf Pg X W σ) w1 h1 H1 (match truth h1 dx with
    | some true => .ok dx h1
    | some false => evalE I b ρ h1
    | none => .stuck) Q := d1
  cases z : truth h1 dx with
  | none => rw [z] at d1; exact d1.elim
  | some k =>
    refine ⟨k, tru_of r1 p1 z, ?_⟩
    rw [z] at d1
    cases k with
    | true => rw [if_pos rfl]; exact Does.here d1 Step.refl r1 p1
    | false => rw [if_neg (by simp)]; exact ⟨w1, h1, ρ, r1, en1, d1⟩
theorem f_not {a : E} {x : Expr} {pos : Pos} (pa : PE X x (tI Pg T X W I a)) : PE X (.UnaryOp .Not x pos) (tI Pg T X W I (.not_ a)) := by
  refine peImp (L2.pe_notT pa) fun σ H Q ⟨w, h, ρ, r, en, d⟩ => ?_
  obtain ⟨w0, h0, ρ0, r0, en0, d0⟩ := up1 r en d
  refine ⟨w0, h0, ρ0, r0, en0, Does.imp d0 fun v H1 ⟨w1, h1, dx, r1, en1, p1, d1⟩ => ?_⟩
  have d1 : Does X.K T (Rep X.K) (WxOf Pg X W σ) w1 h1 H1 (match truth h1 dx with
    | some b => .ok (.bl !b) h1
    | none => .stuck) Q := d1
  cases z : truth h1 dx with
  | none => rw [z] at d1; exact d1.elim
  | some k => rw [z] at d1; exact ⟨k, tru_of r1 p1 z, Does.here d1 Step.refl r1 rfl⟩
theorem one_of {rel : Wd → Hp → Bool → Bool → Prop} {α β γ : Type} {rel2 : Wd → Hp → α → β → Prop} {e : E} {f : Bool → Hh → R α} {σ : L2.St} {H : Hp} {Q : β → Hp → Prop} {w : Wd} {h : Hh} {ρ : Rho} (r : HRel X.K T w h H) (en : EnvR X.K w H ρ σ) (d : Does X.K T rel2 (WxOf Pg X W σ) w h H ((evalB I e ρ h).bind f) Q) :
    tB Pg T X W I e σ H fun x H1 => ∃ w1 h1, HRel X.K T w1 h1 H1 ∧ EnvR X.K w1 H1 ρ σ ∧ Does X.K T rel2 (WxOf Pg X W σ) w1 h1 H1 (f x h1) Q :=
  ⟨w, h, ρ, r, en, Does.imp (Does.bind (rel := fun _ _ a b => a = b) d) fun _ _ ⟨w1, h1, a, st, r1, p1, d1⟩ => by subst p1; exact ⟨w1, h1, r1, en.step st r, d1⟩⟩
theorem f_ite {c a b : E} {x y z : Expr} {pos : Pos} (pc : PT X x (tB Pg T X W I c)) (pa : PE X y (tI Pg T X W I a)) (pb : PE X z (tI Pg T X W I b)) : PE X (.IfExp x y z pos) (tI Pg T X W I (.ite c a b)) := by
  refine peImp (L2.pe_ifExp pc pa pb) fun σ H Q ⟨w, h, ρ, r, en, d⟩ => ?_
  obtain ⟨w0, h0, ρ0, r0, en0, d0⟩ := one_of (γ := Bool) (rel := fun _ _ a b => a = b) r en d
  refine ⟨w0, h0, ρ0, r0, en0, Does.imp d0 fun k H1 ⟨w1, h1, r1, en1, d1⟩ => ?_⟩
  cases k with
  | true => rw [if_pos rfl]; exact ⟨w1, h1, ρ, r1, en1, d1⟩
  | false => rw [if_neg (by simp)]; exact ⟨w1, h1, ρ, r1, en1, d1⟩
/-! tests -/
theorem b_and {a b : E} {x y : Expr} {r : List Expr} {pos : Pos} (pa : PT X x (tB Pg T X W I a)) (pb : PW X (.BoolOp .And (y :: r) pos) (tB Pg T X W I b)) : PW X (.BoolOp .And (x :: y :: r) pos) (tB Pg T X W I (.and_ a b)) := by
  refine pwImp (L2.pw_and pa pb) fun σ H Q ⟨w, h, ρ, r, en, d⟩ => ?_
  obtain ⟨w0, h0, ρ0, r0, en0, d0⟩ := one_of (γ := Bool) (rel := fun _ _ a b => a = b) r en d
  refine ⟨w0, h0, ρ0, r0, en0, Does.imp d0 fun k H1 ⟨w1, h1, r1, en1, d1⟩ => ?_⟩
  cases k with
  | true => rw [if_pos rfl]; exact ⟨w1, h1, ρ, r1, en1, d1⟩
  | false => rw [if_neg (by simp)]; exact Does.here d1 Step.refl r1 rfl
theorem b_or {a b : E} {x y : Expr} {r : List Expr} {pos : Pos} (pa : PT X x (tB Pg T X W I a)) (pb : PW X (.BoolOp .Or (y :: r) pos) (tB Pg T X W I b)) : PW X (.BoolOp .Or (x :: y :: r) pos) (tB Pg T X W I (.or_ a b)) := by
  refine pwImp (L2.pw_or pa pb) fun σ H Q ⟨w, h, ρ, r, en, d⟩ => ?_
  obtain ⟨w0, h0, ρ0, r0, en0, d0⟩ := one_of (γ := Bool) (rel := fun _ _ a b => a = b) r en d
  refine ⟨w0, h0, ρ0, r0, en0, Does.imp d0 fun k H1 ⟨w1, h1, r1, en1, d1⟩ => ?_⟩
  cases k with
  | true => rw [if_pos rfl]; exact Does.here d1 Step.refl r1 rfl
  | false => rw [if_neg (by simp)]; exact ⟨w1, h1, ρ, r1, en1, d1⟩
theorem b_not {a : E} {x : Expr} {pos : Pos} (pa : PT X x (tB Pg T X W I a)) : PT X (.UnaryOp .Not x pos) (tB Pg T X W I (.not_ a)) := by
  refine ptImp (L2.pt_not pa) fun σ H Q ⟨w, h, ρ, r, en, d⟩ => ?_
  obtain ⟨w0, h0, ρ0, r0, en0, d0⟩ := one_of (γ := Bool) (rel := fun _ _ a b => a = b) r en d
  exact ⟨w0, h0, ρ0, r0, en0, Does.imp d0 fun k H1 ⟨w1, h1, r1, en1, d1⟩ => Does.here d1 Step.refl r1 rfl⟩
/-- a test that is its value's truth -/
theorem tru_bind {K : PySem.W.Frag} {w : Wd} {h : Hh} {H : Hp} {W : Exn → Wd → Hp → Prop} {r : R D} {Q : Bool → Hp → Prop} (d : Does K T (fun _ _ a b => a = b) W w h H (truR r) Q) : Does K T (Rep K) W w h H r fun x H1 => ∃ k, L2.TruV K x H1 k ∧ Q k H1 := by
  refine Does.imp (Does.bind (rel := Rep K) d) fun x H1 ⟨w1, h1, dx, st, r1, p1, d1⟩ => ?_
  have d1 : Does K T (fun _ _ a b => a = b) W w1 h1 H1 (match truth h1 dx with
    | some k => .ok k h1
    | none => .stuck) Q := d1
  cases z : truth h1 dx with
  | none => rw [z] at d1; exact d1.elim
  | some k => rw [z] at d1; exact ⟨k, tru_of r1 p1 z, Does.here d1 Step.refl r1 rfl⟩
theorem b_plain {e : E} {x : Expr} (pe : PE X x (tI Pg T X W I e)) (bt : byTruth x = true) (hb : ∀ ρ h, evalB I e ρ h = truR (evalE I e ρ h)) : PT X x (tB Pg T X W I e) := by
  refine ptImp (L2.pt_truth pe fun whole => truth_plain bt whole) fun σ H Q ⟨w, h, ρ, r, en, d⟩ => ?_
  rw [hb] at d
  exact ⟨w, h, ρ, r, en, tru_bind d⟩
/-- a comparison's answer is a bool -/
theorem okB_bl {h h' : Hh} {o : Option Bool} {d : D} (e : okB h o = .ok d h') : ∃ b, d = .bl b := by
  cases o with
  | none => cases e
  | some b => cases e; exact ⟨b, rfl⟩
theorem cmp_bl {p : P} {op : CmpOp} (ok : cmpP p op = true) {x y d : D} {h h' : Hh} (e : prim p [x, y] h = .ok d h') : ∃ b, d = .bl b := by
  cases p <;> cases op <;> first | exact Bool.noConfusion ok | skip
  · exact okB_bl e
  · exact okB_bl e
  · exact okB_bl e
  · cases x <;> cases y <;> (cases e <;> exact ⟨_, rfl⟩)
  · cases x <;> cases y <;> (cases e <;> exact ⟨_, rfl⟩)
  · cases x <;> cases y <;> (cases e <;> exact ⟨_, rfl⟩)
  · exact okB_bl e
  · exact okB_bl e
theorem b_bl {K : PySem.W.Frag} {w : Wd} {h : Hh} {H : Hp} {W : Exn → Wd → Hp → Prop} {r : R D} {Q : Bool → Hp → Prop} (hb : ∀ d h', r = .ok d h' → ∃ b, d = .bl b) (d : Does K T (fun _ _ a b => a = b) W w h H (truR r) Q) : Does K T (Rep K) W w h H r fun x H1 => ∃ k, x = .bl k ∧ Q k H1 := by
  cases r with
  | ok x h1 =>
    obtain ⟨b, rfl⟩ := hb _ _ rfl
    exact fun w' H' v s hr p => ⟨b, p, d w' H' b s hr rfl⟩
  | exc x h1 => exact d
  | stuck => exact d.elim
theorem b_cmp (g : Gd Pg T n N S X) {p : P} {op : CmpOp} {es : L} {a b : Expr} {pos : Pos} (ok : cmpP p op = true) (nb : notSet b = true) (ps : PEs Pg T X W I es [a, b]) (ns : nonStar es = true) : PT X (.Compare a [op] [b] pos) (tB Pg T X W I (.prim p es)) := by
  obtain ⟨x, y, rfl, pa, pb, _⟩ := ps.two ns
  refine ptImp (L2.pt_cmpR (cmp_rule (T := T) g.room.units ok) pa pb (mark_plain nb)) fun σ H Q ⟨w, h, ρ, r, en, d⟩ => ?_
  have d : Does X.K T (fun _ _ a b => a = b) (WxOf Pg X W σ) w h H (truR ((evalL I (.cons x (.cons y .nil)) ρ h).bind fun ds h1 => prim p ds h1)) Q := d
  have d := b_bl (fun d h' e => ?_) d
  · exact i_prim2 (a := x) (b := y) ⟨w, h, ρ, r, en, d⟩
  · rw [list2] at e
    cases z1 : evalE I x ρ h with
    | ok u h1 =>
      rw [z1] at e
      have e : ((evalE I y ρ h1).bind fun v h2 => prim p [u, v] h2) = .ok d h' := e
      cases z2 : evalE I y ρ h1 with
      | ok v h2 => rw [z2] at e; exact cmp_bl ok e
      | exc _ _ => rw [z2] at e; cases e
      | stuck => rw [z2] at e; cases e
    | exc _ _ => rw [z1] at e; cases e
    | stuck => rw [z1] at e; cases e
theorem none_bl {p : P} (ok : p = .isN ∨ p = .notN) {x d : D} {h h' : Hh} (e : prim p [x] h = .ok d h') : ∃ b, d = .bl b := by
  rcases ok with rfl | rfl <;> cases x <;> (cases e; exact ⟨_, rfl⟩)
theorem b_none1 {p : P} {es : L} {a : Expr} (ps : PEs Pg T X W I es [a]) (ns : nonStar es = true) (ok : p = .isN ∨ p = .notN) {σ : L2.St} {H : Hp} {Q : Bool → Hp → Prop} (t : tB Pg T X W I (.prim p es) σ H Q) : tI Pg T X W I (.prim p es) σ H fun x H1 => ∃ k, x = .bl k ∧ Q k H1 := by
  obtain ⟨x, rfl, pa, _⟩ := ps.one ns
  obtain ⟨w, h, ρ, r, en, d⟩ := t
  have d : Does X.K T (fun _ _ a b => a = b) (WxOf Pg X W σ) w h H (truR ((evalL I (.cons x .nil) ρ h).bind fun ds h1 => prim p ds h1)) Q := d
  refine ⟨w, h, ρ, r, en, b_bl (fun d h' e => ?_) d⟩
  have e : ((evalL I (.cons x .nil) ρ h).bind fun ds h1 => prim p ds h1) = .ok d h' := e
  rw [list1] at e
  cases z1 : evalE I x ρ h with
  | ok u h1 => rw [z1] at e; exact none_bl ok e
  | exc _ _ => rw [z1] at e; cases e
  | stuck => rw [z1] at e; cases e
theorem b_none {p : P} {es : L} {a b : Expr} {pos : Pos} (hb : isNone b = true) (ps : PEs Pg T X W I es [a]) (ns : nonStar es = true) :
    (p = .isN → PT X (.Compare a [.Is] [b] pos) (tB Pg T X W I (.prim p es))) ∧ (p = .notN → PT X (.Compare a [.IsNot] [b] pos) (tB Pg T X W I (.prim p es))) := by
  have ps0 := ps
  obtain ⟨x, rfl, pa, _⟩ := ps.one ns
  cases b with
  | Constant c k ps2 =>
    cases c with
    | none =>
      refine ⟨fun e => ?_, fun e => ?_⟩
      · subst e
        refine ptImp (L2.pt_cmpR (o_isN (T := T)) pa L2.pe_non rfl) fun σ H Q t => ?_
        obtain ⟨w, h, ρ, r, en, d⟩ := i_prim1 (b_none1 ps0 ns (.inl rfl) t)
        exact ⟨w, h, ρ, r, en, Does.imp d fun v H1 q => ⟨rfl, q⟩⟩
      · subst e
        refine ptImp (L2.pt_cmpR (o_notN (T := T)) pa L2.pe_non rfl) fun σ H Q t => ?_
        obtain ⟨w, h, ρ, r, en, d⟩ := i_prim1 (b_none1 ps0 ns (.inr rfl) t)
        exact ⟨w, h, ρ, r, en, Does.imp d fun v H1 q => ⟨rfl, q⟩⟩
    | _ => cases hb
  | _ => cases hb
/-! ### a chain of two comparisons -/
theorem chain_in {p q : P} {a b c : E} {σ : L2.St} {H : Hp} {Q : VK} (t : tI Pg T X W I (.chain p q a b c) σ H Q) : L2.tChain (rP2 X.K T p) (rP2 X.K T q) (tI Pg T X W I a) (tI Pg T X W I b) (tI Pg T X W I c) σ H Q := by
  obtain ⟨w, h, ρ, r, en, d⟩ := t
  obtain ⟨w0, h0, ρ0, r0, en0, d0⟩ := up1 r en d
  refine ⟨w0, h0, ρ0, r0, en0, Does.imp d0 fun x H1 ⟨w1, h1, dx, r1, en1, p1, d1⟩ => ?_⟩
  refine ⟨w1, h1, ρ, r1, en1, Does.imp (Does.bind (rel := Rep X.K) d1) fun y H2 ⟨w2, h2, dy, st2, r2, p2, d2⟩ => ?_⟩
  refine ⟨w2, h2, dx, dy, r2, Rep.step st2 r1 _ _ p1, p2, WxOf Pg X W σ, ?_⟩
  have en2 := en1.step st2 r1
  have d2 : Does X.K T (Rep X.K) (WxOf Pg X W σ) w2 h2 H2 (match prim p [dx, dy] h2 with
    | .ok (.bl true) h1 => (evalE I c ρ h1).bind fun z h2 => match prim q [dy, z] h2 with
      | .ok (.bl b) h3 => .ok (.bl b) h3
      | _ => .stuck
    | .ok (.bl false) h1 => .ok (.bl false) h1
    | _ => .stuck) Q := d2
  cases z : prim p [dx, dy] h2 with
  | exc _ _ => rw [z] at d2; exact d2.elim
  | stuck => rw [z] at d2; exact d2.elim
  | ok v h3 =>
    rw [z] at d2
    cases v <;> first | exact d2.elim | skip
    rename_i k
    intro w3 H3 u s3 r3 pu
    refine ⟨k, pu, ?_⟩
    cases k with
    | false => rw [if_neg (by simp)]; exact Does.here d2 s3 r3 rfl
    | true =>
      rw [if_pos rfl]
      have d3 := Does.from s3 d2
      refine ⟨w3, h3, ρ, r3, en2.step s3 r2, Does.imp (Does.bind (rel := Rep X.K) d3) fun z' H4 ⟨w4, h4, dz, st4, r4, p4, d4⟩ => ?_⟩
      refine ⟨w4, h4, dy, dz, r4, Rep.step st4 r3 _ _ (Rep.step s3 r2 _ _ p2), p4, WxOf Pg X W σ, ?_⟩
      have d4 : Does X.K T (Rep X.K) (WxOf Pg X W σ) w4 h4 H4 (match prim q [dy, dz] h4 with
        | .ok (.bl b) h3 => .ok (.bl b) h3
        | _ => .stuck) Q := d4
      cases z4 : prim q [dy, dz] h4 with
      | exc _ _ => rw [z4] at d4; exact d4.elim
      | stuck => rw [z4] at d4; exact d4.elim
      | ok v h5 =>
        rw [z4] at d4
        cases v <;> first | exact d4.elim | exact d4
theorem chain_bl {p q : P} {u v d : D} {c : Hh → R D} {h2 h' : Hh} (e : chainR p q u v c h2 = .ok d h') : ∃ b, d = .bl b := by
  unfold chainR at e
  split at e
  · rename_i h1 _
    cases z4 : c h1 with
    | exc _ _ => rw [z4] at e; cases e
    | stuck => rw [z4] at e; cases e
    | ok t h4 =>
      rw [z4, R.bind_ok] at e
      split at e
      · cases e; exact ⟨_, rfl⟩
      · cases e
  · cases e; exact ⟨_, rfl⟩
  · cases e
theorem marks2 {op op' : CmpOp} {b c : Expr} (nc : notSet c = true) : lastMarks [op, op'] [b, c] = false := mark_plain nc
theorem f_chain (g : Gd Pg T n N S X) {p q : P} {op op' : CmpOp} {a b c : E} {x y z : Expr} {pos : Pos} (k1 : cmpP p op = true) (k2 : cmpP q op' = true) (nz : notSet z = true) (pa : PE X x (tI Pg T X W I a)) (pb : PE X y (tI Pg T X W I b)) (pc : PE X z (tI Pg T X W I c)) :
    PE X (.Compare x [op, op'] [y, z] pos) (tI Pg T X W I (.chain p q a b c)) ∧ PT X (.Compare x [op, op'] [y, z] pos) (tB Pg T X W I (.chain p q a b c)) := by
  refine ⟨peImp (L2.pe_chain (cmp_rule g.room.units k1) (cmp_rule g.room.units k2) pa pb pc (marks2 nz)) fun σ H Q t => chain_in t,
    ptImp (L2.pt_chain (cmp_rule (T := T) g.room.units k1) (cmp_rule (T := T) g.room.units k2) pa pb pc (marks2 nz)) fun σ H Q ⟨w, h, ρ, r, en, d⟩ => ?_⟩
  have d : Does X.K T (fun _ _ a b => a = b) (WxOf Pg X W σ) w h H (truR ((evalE I a ρ h).bind fun x h1 => (evalE I b ρ h1).bind fun y h2 => chainR p q x y (evalE I c ρ) h2)) Q := d
  refine chain_in (a := a) (b := b) (c := c) ⟨w, h, ρ, r, en, b_bl (fun d h' e => ?_) d⟩
  have e : ((evalE I a ρ h).bind fun x h1 => (evalE I b ρ h1).bind fun y h2 => chainR p q x y (evalE I c ρ) h2) = .ok d h' := e
  cases z1 : evalE I a ρ h with
  | exc _ _ => rw [z1] at e; cases e
  | stuck => rw [z1] at e; cases e
  | ok u h1 =>
    rw [z1] at e
    have e : ((evalE I b ρ h1).bind fun y h2 => chainR p q u y (evalE I c ρ) h2) = .ok d h' := e
    cases z2 : evalE I b ρ h1 with
    | exc _ _ => rw [z2] at e; cases e
    | stuck => rw [z2] at e; cases e
    | ok v h2 =>
      rw [z2] at e
      exact chain_bl e
end
end Ir

set_option Elab.async false
set_option linter.all false
set_option maxRecDepth 100000
set_option maxHeartbeats 4000000
/-! Ir13: displays, dicts, methods, calls. -/
namespace Ir
open PySem PySem.Spec PyProof.Rows
open L2 (V Hp HO TE TT TA TS VK SqL SqT Rd upd upd_same upd_ne ne_of ne_of_none valV Inv OpR UnR CallR MtR IxR SlR TruR R2 EP Vals RelV PE PT PA PW PC PO PG PGs PI thn AP)
section
variable {K : PySem.W.Frag} {T : List (Addr × Str)} {w : Wd} {h : Hh} {H : Hp}
theorem RepK.look {k : Key} : ∀ {xs : List (Key × D)} {vs : List (Key × V)}, RepK K w H xs vs → (dLook k xs = none ∧ valV vs k = none) ∨ ∃ d v, dLook k xs = some d ∧ valV vs k = some v ∧ Rep K w H d v
  | [], _, p => by
    have p : _ = _ := p
    subst p
    exact .inl ⟨rfl, rfl⟩
  | (j, d) :: r, _, ⟨v, us, e, q, p⟩ => by
    subst e
    by_cases hj : j = k
    · exact .inr ⟨d, v, if_pos hj, L2.valV_pos hj, q⟩
    · rcases RepK.look (k := k) p with ⟨a, b⟩ | ⟨d', v', a, b, c⟩
      · exact .inl ⟨(if_neg hj).trans a, (L2.valV_neg hj).trans b⟩
      · exact .inr ⟨d', v', (if_neg hj).trans a, (L2.valV_neg hj).trans b, c⟩
theorem RepK.any {k : Key} : ∀ {xs : List (Key × D)} {vs : List (Key × V)}, RepK K w H xs vs → (vs.any fun kv => decide (kv.1 = k)) = xs.any fun kv => decide (kv.1 = k)
  | [], _, p => by
    have p : _ = _ := p
    subst p; rfl
  | x :: r, _, ⟨v, us, e, q, p⟩ => by
    subst e
    rw [List.any_cons, List.any_cons, RepK.any p]
theorem RepK.map {k : Key} {d : D} {u : V} (du : Rep K w H d u) : ∀ {xs : List (Key × D)} {vs : List (Key × V)}, RepK K w H xs vs → RepK K w H (xs.map fun kv => if kv.1 = k then (kv.1, d) else kv) (vs.map fun kv => if kv.1 = k then (kv.1, u) else kv)
  | [], _, p => by
    have p : _ = _ := p
    subst p; rfl
  | x :: r, _, ⟨v, us, e, q, p⟩ => by
    subst e
    by_cases hx : x.1 = k
    · refine ⟨u, _, ?_, ?_, RepK.map du p⟩
      · rw [List.map_cons, if_pos hx]; simp [hx]
      · show Rep K w H (if x.1 = k then (x.1, d) else x).2 u
        rw [if_pos hx]; exact du
    · refine ⟨v, _, ?_, ?_, RepK.map du p⟩
      · rw [List.map_cons, if_neg hx]; simp [hx]
      · show Rep K w H (if x.1 = k then (x.1, d) else x).2 v
        rw [if_neg hx]; exact q
theorem RepK.push {k : Key} {d : D} {u : V} (du : Rep K w H d u) : ∀ {xs : List (Key × D)} {vs : List (Key × V)}, RepK K w H xs vs → RepK K w H (xs ++ [(k, d)]) (vs ++ [(k, u)])
  | [], _, p => by
    have p : _ = _ := p
    subst p
    exact ⟨u, [], rfl, du, rfl⟩
  | x :: r, _, ⟨v, us, e, q, p⟩ => by subst e; exact ⟨v, _, rfl, q, RepK.push du p⟩
theorem RepK.put {k : Key} {d : D} {u : V} (du : Rep K w H d u) {xs : List (Key × D)} {vs : List (Key × V)} (p : RepK K w H xs vs) : RepK K w H (dPut k d xs) (L2.putK vs k u) := by
  unfold dPut L2.putK
  rw [p.any]
  by_cases z : (xs.any fun kv => decide (kv.1 = k)) = true
  · rw [if_pos z, if_pos z]; exact p.map du
  · rw [if_neg z, if_neg z]; exact p.push du
theorem RepK.length : ∀ {xs : List (Key × D)} {vs : List (Key × V)}, RepK K w H xs vs → vs.length = xs.length
  | [], _, p => by
    have p : _ = _ := p
    subst p; rfl
  | x :: r, _, ⟨v, us, e, q, p⟩ => by subst e; simp [RepK.length p]
theorem RepK.fold : ∀ {ks : List Key} {ds : List D} {us : List V} {xs : List (Key × D)} {vs : List (Key × V)}, RepL K w H ds us → RepK K w H xs vs →
    RepK K w H ((ks.zip ds).foldl (fun acc kv => dPut kv.1 kv.2 acc) xs) (L2.mergeK vs (ks.zip us))
  | [], _, _, _, _, _, q => by simpa [L2.mergeK] using q
  | k :: ks, [], _, _, _, p, q => by
    have p : _ = _ := p
    subst p
    simpa [L2.mergeK] using q
  | k :: ks, d :: ds, _, _, _, ⟨u, us, e, a, b⟩, q => by
    subst e
    exact RepK.fold (ks := ks) (ds := ds) (us := us) (xs := dPut k d _) (vs := L2.putK _ k u) b (q.put a)
end
section
variable {X : L2.Cx} {Pg : Prog} {T : List (Addr × Str)} {W : L2.WX} {I : Cx} {n : Nat} {N : List Str} {S : Names}
/-! ### displays -/
theorem pe_tupF {es : List Expr} {t : TA} {k : Nat} {pos : Pos} (hA : PA X es t) : PE X (.Tuple es k pos) (fun σ H Q => t σ H fun xs H1 => xs.length ≤ sizeLine ∧ ∀ p its m, H1 p = none → Q (.ref p) (upd H1 p (.frz (tupO its m) (.tup xs)))) := by
  refine ⟨fun pins s σ H Q I hq => ?_⟩
  refine wpAny_Tuple_spliced (thn (hA.run pos pins s σ H _ I hq) fun us s1 ⟨xs, H1, I1, r, z, q⟩ => ⟨by rw [← r.length]; exact z, ?_⟩)
  obtain ⟨I2, hf⟩ := lay_tup0 I1 r z
  exact ⟨.ref s1.heap.objs.size, _, I2, rfl, q _ _ _ hf⟩
theorem f_tup {es : L} {xs : List Expr} {k : Nat} {pos : Pos} (ps : PEs Pg T X W I es xs) : PE X (.Tuple xs k pos) (tI Pg T X W I (.tup es)) := by
  refine peImp (pe_tupF ps.pa) fun σ H Q ⟨w, h, ρ, r, en, d⟩ => ?_
  refine ⟨w, h, ρ, r, en, Does.imp (Does.bind (rel := RepL X.K) d) fun vs H1 ⟨w1, h1, ds, st, r1, p1, d1⟩ => ?_⟩
  obtain ⟨hz, g⟩ := Gives.if (gives d1)
  exact ⟨by rw [p1.length]; exact hz, fun p its m hp => g.tup r1 p1 hp⟩
theorem f_lst {es : L} {xs : List Expr} {pos : Pos} (ps : PEs Pg T X W I es xs) : PE X (.List xs pos) (tI Pg T X W I (.lst es)) := by
  refine peImp (L2.pe_lst ps.pa) fun σ H Q ⟨w, h, ρ, r, en, d⟩ => ?_
  refine ⟨w, h, ρ, r, en, Does.imp (Does.bind (rel := RepL X.K) d) fun vs H1 ⟨w1, h1, ds, st, r1, p1, d1⟩ => ?_⟩
  obtain ⟨hz, g⟩ := Gives.if (gives d1)
  exact ⟨by rw [p1.length]; exact hz, fun p hp => g.lst r1 p1 hp⟩
theorem f_newl {es : L} {xs : List Expr} {pos : Pos} (ps : PEs Pg T X W I es xs) : PE X (.List xs pos) (tI Pg T X W I (.newl es)) := by
  refine peImp (L2.pe_lst ps.pa) fun σ H Q ⟨w, h, ρ, r, en, d⟩ => ?_
  refine ⟨w, h, ρ, r, en, Does.imp (Does.bind (rel := RepL X.K) d) fun vs H1 ⟨w1, h1, ds, st, r1, p1, d1⟩ => ?_⟩
  obtain ⟨hz, W', g⟩ := Gives.if (gives d1)
  refine ⟨by rw [p1.length]; exact hz, fun p hp => ?_⟩
  have st2 := Step.newC (o := HO.lst vs) (u := O.lst ds) r1 hp
  exact Does.here g st2 (r1.newC hp ⟨vs, upd_same, RepL.step st2 r1 _ _ p1⟩) ⟨p, rfl, if_pos rfl⟩
theorem tL_cons {e : E} {r : L} {σ : L2.St} {H : Hp} {Q : List V → Hp → Prop} (t : tL Pg T X W I (.cons e r) σ H Q) : tI Pg T X W I e σ H fun v H1 => tL Pg T X W I r σ H1 fun vs H2 => Q (v :: vs) H2 := by
  obtain ⟨w, h, ρ, r, en, d⟩ := t
  refine ⟨w, h, ρ, r, en, ?_⟩
  refine Does.imp (Does.bind (rel := Rep X.K) d) fun v H1 ⟨w1, h1, a, st, r1, p1, d1⟩ => ⟨w1, h1, ρ, r1, en.step st r, ?_⟩
  refine Does.imp (Does.bind (rel := RepL X.K) d1) fun vs H2 ⟨w2, h2, as, st2, r2, p2, d2⟩ => ?_
  exact Does.here d2 Step.refl r2 (RepL.cons (Rep.step st2 r1 _ _ p1) p2)
theorem tL_nil {σ : L2.St} {H : Hp} {Q : List V → Hp → Prop} (t : tL Pg T X W I .nil σ H Q) : Q [] H := by
  obtain ⟨w, h, ρ, r, en, d⟩ := t
  exact Does.here d Step.refl r rfl
theorem f_pairs {pos : Pos} {es : L} {vals : List Expr} (ps : PEs Pg T X W I es vals) : ∀ {ks : List Key} {keys : List (Option Expr)}, keysB ks keys = true → keys.length = vals.length → nonStar es = true →
    ∃ trs, L2.PPs X pos keys vals trs ∧ keys.all (·.isSome) = true ∧ ks.length = keys.length ∧ ∀ σ H Q, tL Pg T X W I es σ H (fun us H2 => us.length = ks.length → Q ((ks.zip us).map fun kv => (L2.kV kv.1, kv.2)) H2) → L2.tPairs trs σ H Q := by
  induction ps with
  | nil =>
    intro ks keys kb hl ns
    cases keys with
    | cons _ _ => cases hl
    | nil =>
      cases ks with
      | cons _ _ => cases kb
      | nil => exact ⟨[], L2.pps_nil, rfl, rfl, fun σ H Q t => tL_nil t rfl⟩
  | star _ _ _ => intro ks keys kb hl ns; cases ns
  | @cons e es x xs nx hx hr ih =>
    intro ks keys kb hl ns
    cases keys with
    | nil => cases hl
    | cons ke keys =>
      cases ks with
      | nil => cases kb
      | cons k ks =>
        obtain ⟨kb1, kb2⟩ := and2 kb
        obtain ⟨trs, h1, h2, h4, h3⟩ := ih (ks := ks) (keys := keys) kb2 (by simpa using hl) ns
        obtain ⟨ke', rfl, pk⟩ : ∃ e', ke = some e' ∧ PE X e' (L2.tC (L2.kV k)) := by
          cases ke with
          | none => cases k <;> cases kb1
          | some e' =>
            refine ⟨e', rfl, ?_⟩
            cases k with
            | inl i =>
              cases e' <;> first | exact Bool.noConfusion kb1 | skip
              rename_i c _ _
              cases c <;> first | exact Bool.noConfusion kb1 | skip
              rw [show i = _ from of_decide_eq_true kb1]
              exact L2.pe_int
            | inr i =>
              cases e' <;> first | exact Bool.noConfusion kb1 | skip
              rename_i c _ _
              cases c <;> first | exact Bool.noConfusion kb1 | skip
              rw [show i = _ from of_decide_eq_true kb1]
              exact L2.pe_str
        refine ⟨_ :: trs, L2.pps_cons pk hx h1, by rw [List.all_cons, h2]; rfl, by rw [List.length_cons, List.length_cons, h4], fun σ H Q t => ?_⟩
        obtain ⟨w, h, ρ, r, en, d⟩ := tL_cons t
        refine ⟨w, h, ρ, r, en, Does.imp d fun v H1 ⟨w1, h1, ρ1, r1, en1, d1⟩ => h3 σ H1 _ ⟨w1, h1, ρ1, r1, en1, Does.imp d1 fun us H2 q hl => q (by rw [List.length_cons, List.length_cons, hl])⟩⟩
theorem f_newd {pos : Pos} {es : L} {vals : List Expr} {ks : List Key} {keys : List (Option Expr)} (ps : PEs Pg T X W I es vals) (kb : keysB ks keys = true) (hl : keys.length = vals.length) (ns : nonStar es = true) (h0 : keys.isEmpty = false) (h15 : keys.length ≤ 15) :
    PE X (.Dict keys vals pos) (tI Pg T X W I (.newd ks es)) := by
  obtain ⟨trs, k1, k2, k4, k3⟩ := f_pairs (pos := pos) ps kb hl ns
  refine peImp (L2.pe_disp k1 k2 hl (by intro z; rw [z] at h0; cases h0) h15) fun σ H Q ⟨w, h, ρ, r, en, d⟩ => fun p hp => k3 σ _ _ ?_
  have st := Step.newC (o := HO.dK []) (u := O.dct []) r hp
  have r0 := r.newC (u := O.dct []) hp ⟨[], upd_same, rfl⟩
  have i0 : (w.cell h.length p).ι h.length = some p := if_pos rfl
  refine ⟨_, _, ρ, r0, en.step st r, Does.imp (Does.bind (rel := RepL X.K) (Does.from st d)) fun us H2 ⟨w2, h2, ds, st2, r2, p2, d2⟩ hlen => ?_⟩
  have d2 : Does X.K T (Rep X.K) (WxOf Pg X W σ) w2 h2 H2 (match h2[h.length]? with
    | some (.dct []) => okIf (ks.length = ds.length ∧ ks.length ≤ 15) (.ok (.ref h.length) (h2.set h.length (.dct ((ks.zip ds).foldl (fun acc kv => dPut kv.1 kv.2 acc) []))))
    | _ => .stuck) Q := d2
  have i2 : w2.ι h.length = some p := st2.ι _ _ i0
  cases z : h2[h.length]? with
  | none => rw [z] at d2; exact d2.elim
  | some o =>
    rw [z] at d2
    cases o <;> first | exact d2.elim | skip
    rename_i kvs
    cases kvs with
    | cons _ _ => exact d2.elim
    | nil =>
      obtain ⟨⟨hz, _⟩, W', g⟩ := Gives.if (gives d2)
      obtain ⟨b, vs, e1, e2, e3⟩ := r2.dct z
      rw [i2] at e1; cases e1
      have e3 : vs = [] := e3
      subst e3
      refine ⟨e2, ks.zip us, rfl, by rw [List.length_zip, hlen, Nat.min_self, k4]; exact h15, ?_⟩
      refine Does.here g (Step.put (v := .dK (L2.mergeK [] (ks.zip us))) (u := .dct ((ks.zip ds).foldl (fun acc kv => dPut kv.1 kv.2 acc) [])) r2 z rfl rfl i2) (r2.put z rfl rfl i2 ⟨_, upd_same, ?_⟩) ⟨p, rfl, i2⟩
      exact RepK.step (Step.put (v := .dK (L2.mergeK [] (ks.zip us))) (u := .dct ((ks.zip ds).foldl (fun acc kv => dPut kv.1 kv.2 acc) [])) r2 z rfl rfl i2) r2 _ _ (RepK.fold p2 (vs := []) (xs := []) rfl)
/-! ### dicts read -/
theorem dct_of {K : PySem.W.Frag} {w : Wd} {h : Hh} {H : Hp} {d : D} {v : V} {m : Nat} {kvs : List (Key × D)} (r : HRel K T w h H) (p : Rep K w H d v) (e : dctOf h d = some (m, kvs)) : ∃ a vs, v = .ref a ∧ H a = some (.dK vs) ∧ RepK K w H kvs vs := by
  cases d with
  | ref j =>
    obtain ⟨a, e1, e2⟩ := p
    have e : (match h[j]? with
      | some (.dct kvs) => some (j, kvs)
      | _ => none) = some (m, kvs) := e
    cases q : h[j]? with
    | none => rw [q] at e; cases e
    | some o =>
      rw [q] at e
      cases o with
      | dct _ =>
        cases e
        obtain ⟨b, vs, i, hb, p⟩ := r.dct q
        rw [i] at e2; cases e2
        exact ⟨_, vs, e1, hb, p⟩
      | _ => cases e
  | _ => cases e
theorem key_at {K : PySem.W.Frag} {w : Wd} {H : Hp} {d : D} {v : V} {k : Key} (p : Rep K w H d v) (e : keyOf d = some k) : v = L2.kV k := by
  cases d <;> (cases e <;> exact p)
theorem noSl {b : Expr} (h : notSlice b = true) : L2.NoSl b := slice_plain h
theorem f_dget (g : Gd Pg T n N S X) {o k : E} {a b : Expr} {pos : Pos} (po : PE X a (tI Pg T X W I o)) (pk : PE X b (tI Pg T X W I k)) (nb : notSlice b = true) : PE X (.Subscript a b pos) (tI Pg T X W I (.dget o k)) := by
  refine peImp (L2.pe_dget (by have := g.room.units; omega) po pk (noSl nb)) fun σ H Q ⟨w, h, ρ, r, en, d⟩ => ?_
  obtain ⟨w0, h0, ρ0, r0, en0, d0⟩ := up1 r en d
  refine ⟨w0, h0, ρ0, r0, en0, Does.imp d0 fun x H1 ⟨w1, h1, dx, r1, en1, p1, d1⟩ => ?_⟩
  refine ⟨w1, h1, ρ, r1, en1, Does.imp (Does.bind (rel := Rep X.K) d1) fun y H2 ⟨w2, h2, dy, st, r2, p2, d2⟩ => ?_⟩
  have d2 : Does X.K T (Rep X.K) (WxOf Pg X W σ) w2 h2 H2 (match dctOf h2 dx, keyOf dy with
    | some (_, kvs), some k => okD h2 (dLook k kvs)
    | _, _ => .stuck) Q := d2
  cases z1 : dctOf h2 dx with
  | none => rw [z1] at d2; exact d2.elim
  | some mk =>
    obtain ⟨m, kvs⟩ := mk
    cases z2 : keyOf dy with
    | none => rw [z1, z2] at d2; exact d2.elim
    | some k =>
      rw [z1, z2] at d2
      obtain ⟨c, vs, e1, e2, e3⟩ := dct_of r2 (Rep.step st r1 _ _ p1) z1
      rcases e3.look (k := k) with ⟨l1, _⟩ | ⟨dd, v, l1, l2, l3⟩
      · have d2 : Does X.K T (Rep X.K) (WxOf Pg X W σ) w2 h2 H2 (okD h2 (dLook k kvs)) Q := d2
        rw [l1] at d2; exact d2.elim
      · have d2 : Does X.K T (Rep X.K) (WxOf Pg X W σ) w2 h2 H2 (okD h2 (dLook k kvs)) Q := d2
        rw [l1] at d2
        refine ⟨c, v, e1, ?_, Does.here d2 Step.refl r2 l3⟩
        rw [key_at p2 z2, ← l2]
        exact .k e2
theorem f_dget2 (g : Gd Pg T n N S X) {o k z : E} {a b c : Expr} {apos cpos : Pos} (po : PE X a (tI Pg T X W I o)) (pk : PE X b (tI Pg T X W I k)) (pz : PE X c (tI Pg T X W I z)) (na : notSuper a = true) (nb : notStar b = true) (nc : notStar c = true) (hl : (apos.endLine == cpos.line) = true) :
    PE X (.Call (.Attribute a "get" apos) [b, c] [] cpos) (tI Pg T X W I (.dget2 o k z)) := by
  have tr : backTo cpos (starEach [b, c] X.env) = [(false, eval b X.env), (false, eval c X.env)] := by rw [star_plain nb, star_plain nc]; rfl
  refine peImp (L2.pe_dget2 (by have := g.room.units; omega) po pk pz ⟨super_plain na, by rw [tr]; rfl, hl, tr⟩) fun σ H Q ⟨w, h, ρ, r, en, d⟩ => ?_
  obtain ⟨w0, h0, ρ0, r0, en0, d0⟩ := up1 r en d
  refine ⟨w0, h0, ρ0, r0, en0, Does.imp d0 fun x H1 ⟨w1, h1, dx, r1, en1, p1, d1⟩ => ?_⟩
  have d1 : Does X.K T (Rep X.K) (WxOf Pg X W σ) w1 h1 H1 (match dctOf h1 dx with
    | some _ => (evalE I k ρ h1).bind fun y h2 => (evalE I z ρ h2).bind fun z h3 => match dctOf h3 dx, keyOf y with
      | some (_, kvs), some k => .ok ((dLook k kvs).getD z) h3
      | _, _ => .stuck
    | none => .stuck) Q := d1
  cases y0 : dctOf h1 dx with
  | none => rw [y0] at d1; exact d1.elim
  | some mk0 =>
    rw [y0] at d1
    obtain ⟨c0, vs0, e1, e2, e3⟩ := dct_of r1 p1 y0
    refine ⟨c0, e1, .inl ⟨vs0, .inl e2⟩, w1, h1, ρ, r1, en1, Does.imp (Does.bind (rel := Rep X.K) d1) fun y H2 ⟨w2, h2, dy, st, r2, p2, d2⟩ => ?_⟩
    refine ⟨w2, h2, ρ, r2, en1.step st r1, Does.imp (Does.bind (rel := Rep X.K) d2) fun z' H3 ⟨w3, h3, dz, st3, r3, p3, d3⟩ => ?_⟩
    have d3 : Does X.K T (Rep X.K) (WxOf Pg X W σ) w3 h3 H3 (match dctOf h3 dx, keyOf dy with
      | some (_, kvs), some k => .ok ((dLook k kvs).getD dz) h3
      | _, _ => .stuck) Q := d3
    cases z1 : dctOf h3 dx with
    | none => rw [z1] at d3; exact d3.elim
    | some mk =>
      obtain ⟨m, kvs⟩ := mk
      cases z2 : keyOf dy with
      | none => rw [z1, z2] at d3; exact d3.elim
      | some k =>
        rw [z1, z2] at d3
        obtain ⟨c, vs, f1, f2, f3⟩ := dct_of r3 (Rep.step st3 r2 _ _ (Rep.step st r1 _ _ p1)) z1
        rw [e1] at f1; cases f1
        have hy := key_at p2 z2
        rcases f3.look (k := k) with ⟨l1, l2⟩ | ⟨dd, v, l1, l2, l3⟩
        · have d3 : Does X.K T (Rep X.K) (WxOf Pg X W σ) w3 h3 H3 (.ok ((dLook k kvs).getD dz) h3) Q := d3
          rw [l1] at d3
          exact ⟨none, by rw [hy, ← l2]; exact .k f2, Does.here d3 Step.refl r3 p3⟩
        · have d3 : Does X.K T (Rep X.K) (WxOf Pg X W σ) w3 h3 H3 (.ok ((dLook k kvs).getD dz) h3) Q := d3
          rw [l1] at d3
          exact ⟨some v, by rw [hy, ← l2]; exact .k f2, Does.here d3 Step.refl r3 l3⟩
theorem din_in {neg : Bool} {k o : E} {σ : L2.St} {H : Hp} {Q : VK} (t : tI Pg T X W I (.din neg k o) σ H Q) : tI Pg T X W I k σ H fun y H1 => tI Pg T X W I o σ H1 fun x H2 => ∃ a ov, x = .ref a ∧ L2.DGet H2 a y ov ∧ Q (.bl (if neg then !ov.isSome else ov.isSome)) H2 := by
  obtain ⟨w, h, ρ, r, en, d⟩ := t
  obtain ⟨w0, h0, ρ0, r0, en0, d0⟩ := up1 r en d
  refine ⟨w0, h0, ρ0, r0, en0, Does.imp d0 fun y H1 ⟨w1, h1, dy, r1, en1, p1, d1⟩ => ?_⟩
  refine ⟨w1, h1, ρ, r1, en1, Does.imp (Does.bind (rel := Rep X.K) d1) fun x H2 ⟨w2, h2, dx, st, r2, p2, d2⟩ => ?_⟩
  have d2 : Does X.K T (Rep X.K) (WxOf Pg X W σ) w2 h2 H2 (match dctOf h2 dx, keyOf dy with
    | some (_, kvs), some k => .ok (.bl (if neg then !(dLook k kvs).isSome else (dLook k kvs).isSome)) h2
    | _, _ => .stuck) Q := d2
  cases z1 : dctOf h2 dx with
  | none => rw [z1] at d2; exact d2.elim
  | some mk =>
    obtain ⟨m, kvs⟩ := mk
    cases z2 : keyOf dy with
    | none => rw [z1, z2] at d2; exact d2.elim
    | some k =>
      rw [z1, z2] at d2
      obtain ⟨c, vs, e1, e2, e3⟩ := dct_of r2 p2 z1
      have hy := key_at (Rep.step st r1 _ _ p1) z2
      have d2 : Does X.K T (Rep X.K) (WxOf Pg X W σ) w2 h2 H2 (.ok (.bl (if neg then !(dLook k kvs).isSome else (dLook k kvs).isSome)) h2) Q := d2
      refine ⟨c, valV vs k, e1, by rw [hy]; exact .k e2, ?_⟩
      have hs : (valV vs k).isSome = (dLook k kvs).isSome := by
        rcases e3.look (k := k) with ⟨l1, l2⟩ | ⟨dd, v, l1, l2, l3⟩ <;> rw [l1, l2] <;> rfl
      rw [hs]
      exact Does.here d2 Step.refl r2 rfl
theorem f_din (g : Gd Pg T n N S X) {neg : Bool} {k o : E} {a b : Expr} {op : CmpOp} {pos : Pos} (hop : (match op with
      | .In => !neg
      | .NotIn => neg
      | _ => false) = true) (pk : PE X a (tI Pg T X W I k)) (po : PE X b (tI Pg T X W I o)) (nb : notSet b = true) :
    PE X (.Compare a [op] [b] pos) (tI Pg T X W I (.din neg k o)) ∧ PT X (.Compare a [op] [b] pos) (tB Pg T X W I (.din neg k o)) := by
  have hu : X.A.units + 1 < cLine := by have := g.room.units; omega
  have bl : ∀ {σ : L2.St} {H : Hp} {Q : Bool → Hp → Prop}, tB Pg T X W I (.din neg k o) σ H Q → tI Pg T X W I (.din neg k o) σ H fun x H1 => ∃ c, x = .bl c ∧ Q c H1 := fun {σ H Q} ⟨w, h, ρ, r, en, d⟩ => by
    refine ⟨w, h, ρ, r, en, b_bl (r := evalE I (.din neg k o) ρ h) (fun d h' e => ?_) d⟩
    have e : ((evalE I k ρ h).bind fun y h1 => (evalE I o ρ h1).bind fun x h2 => match dctOf h2 x, keyOf y with
      | some (_, kvs), some k => .ok (.bl (if neg then !(dLook k kvs).isSome else (dLook k kvs).isSome)) h2
      | _, _ => .stuck) = .ok d h' := e
    cases z1 : evalE I k ρ h with
    | exc _ _ => rw [z1] at e; cases e
    | stuck => rw [z1] at e; cases e
    | ok u h1 =>
      rw [z1, R.bind_ok] at e
      cases z2 : evalE I o ρ h1 with
      | exc _ _ => rw [z2] at e; cases e
      | stuck => rw [z2] at e; cases e
      | ok v h2 =>
        rw [z2, R.bind_ok] at e
        split at e
        · cases e; exact ⟨_, rfl⟩
        · cases e
  cases op <;> first | exact Bool.noConfusion hop | skip
  · obtain rfl : neg = false := by simpa using hop
    exact ⟨peImp (L2.pe_cmp (L2.pc_din hu pk po) (mark_plain nb)) fun σ H Q t => din_in t, ptImp (L2.pt_cmp (L2.pc_din hu pk po) (mark_plain nb)) fun σ H Q t => din_in (bl t)⟩
  · have hop : neg = true := hop
    subst hop
    exact ⟨peImp (L2.pe_cmp (L2.pc_dnotin hu pk po) (mark_plain nb)) fun σ H Q t => din_in t, ptImp (L2.pt_cmp (L2.pc_dnotin hu pk po) (mark_plain nb)) fun σ H Q t => din_in (bl t)⟩
end
end Ir

set_option Elab.async false
set_option linter.all false
set_option maxRecDepth 100000
set_option maxHeartbeats 4000000
/-! Ir14: methods, calls of defs, targets, what is walked. -/
namespace Ir
open PySem PySem.Spec PyProof.Rows
open L2 (V Hp HO TE TT TA TS VK SqL SqT Rd upd upd_same upd_ne ne_of ne_of_none valV Inv OpR UnR CallR MtR IxR SlR TruR R2 EP Vals RelV PE PT PA PW PC PO PG PGs PI thn AP It Itl Itt Itr Its Ite Itz)
def tyOfK : MK → String
  | .str => "str"
  | .lst => "list"
  | .tup => "tuple"
section
variable {X : L2.Cx} {Pg : Prog} {T : List (Addr × Str)} {W : L2.WX} {I : Cx} {n : Nat} {N : List Str} {S : Names}
theorem kind_is {pins : List (Addr × Obj)} {σ : L2.St} {H : Hp} {s : Shared} {w : Wd} {h : Hh} {d : D} {x : V} {v : Value} {k : MK} (J : Inv X pins σ H s) (r : HRel X.K T w h H) (p : Rep X.K w H d x) (rv : RelV x v) (e : kindOf h d = some k) :
    s.TypeIs v (tyOfK k) ∧ ∀ a, v = .ref a → ∃ ob, s.heap.get? a = some ob ∧ ob.dict = none := by
  cases k with
  | str =>
    cases d with
    | str a => cases (show x = .str a from p); exact L2.tyV_is J rv (T := "str") rfl
    | ref m => cases (kind_ref e).1
    | _ => cases e
  | lst =>
    obtain ⟨xs, z1, _⟩ := kind_lst e
    obtain ⟨a, us, f1, f2, f3⟩ := lst_of r p z1
    subst f1
    exact L2.tyV_is J rv (T := "list") (.inl ⟨rfl, us, f2⟩)
  | tup =>
    have kt : ∃ xs, d = .tup xs := by
      cases d with
      | tup xs => exact ⟨xs, rfl⟩
      | ref n => cases (kind_ref e).1
      | _ => cases e
    obtain ⟨xs, rfl⟩ := kt
    obtain ⟨a, us, f1, f2, f3⟩ := p
    subst f1
    cases rv
    have go : ∃ its m, s.heap.get? a = some (tupO its m) := by
      rcases f2 with ⟨its, m, q⟩ | ⟨its, m, q, _⟩
      · exact ⟨its, m, (J.hok a _ q).1⟩
      · exact ⟨its, m, J.kIn a _ q⟩
    obtain ⟨its, m, q⟩ := go
    exact ⟨⟨_, q, rfl⟩, fun b e => by cases e; exact ⟨_, q, rfl⟩⟩
theorem pm_pk {id : String} {p : P} {k : MK} (o : MtR X id (rPM X.K T p)) : MtR X id (rPK X.K T p k) := mtImp o fun x vs H Q ⟨w, h, d, ds, kd, r, a, b, g⟩ => ⟨w, h, d, ds, r, a, b, g⟩
theorem meth_rule {p : P} {k : MK} {m : Str} (ok : methOk p k = true) (hn : methN p = some m) : ∃ id, PlainAttrs (tyOfK k) ∧ Slot (tyOfK k) m id ∧ typeOf (.builtin id) = pure (.type "method_descriptor") ∧ MtR X id (rPK X.K T p k) := by
  cases p <;> first | cases hn | skip
  · cases k <;> first | cases ok | skip
    exact ⟨_, PySem.F.plainAttrs_str, PySem.F.slot_str_join, PySem.F.type_str_join, pm_pk m_join⟩
  · cases k with
    | str => exact ⟨_, PySem.F.plainAttrs_str, PySem.F.slot_str_index, PySem.F.type_str_index, m_index_s⟩
    | lst => exact ⟨_, PySem.F.plainAttrs_list, PySem.F.slot_list_index, PySem.F.type_list_index, m_index_l⟩
    | tup => exact ⟨_, PySem.F.plainAttrs_tuple, PySem.F.slot_tuple_index, PySem.F.type_tuple_index, m_index_t⟩
  · cases k <;> first | cases ok | skip
    exact ⟨_, PySem.F.plainAttrs_list, PySem.F.slot_list_append, PySem.F.type_list_append, pm_pk m_append⟩
  · cases k <;> first | cases ok | skip
    exact ⟨_, PySem.F.plainAttrs_list, PySem.F.slot_list_extend, PySem.F.type_list_extend, pm_pk m_extend⟩
/-- a list that is none any more answers nothing -/
theorem kind_stay {p : P} {k : MK} {d : D} {ds : List D} {h1 h2 : Hh} (ok : methOk p k = true) (e : kindOf h1 d = some k) : kindOf h2 d = some k ∨ prim p (d :: ds) h2 = .stuck := by
  cases d with
  | ref m =>
    obtain ⟨rfl, _⟩ := kind_ref e
    cases q : kindOf h2 (.ref m) with
    | some k' => obtain ⟨rfl, _⟩ := kind_ref q; exact .inl rfl
    | none =>
      right
      have qn : ∀ xs, h2[m]? ≠ some (.lst xs) := fun xs z => by simp only [kindOf, z] at q; cases q
      have qs : seqOf h2 (.ref m) = none := by
        show (match h2[m]? with
          | some (.lst xs) => some xs
          | _ => none) = none
        split
        · rename_i z; exact (qn _ z).elim
        · rfl
      cases p <;> first | cases ok | skip
      · match ds with
        | [] => rfl
        | [y] =>
          show (match seqOf h2 (.ref m) with
            | some xs => _
            | none => R.stuck) = _
          rw [qs]
        | _ :: _ :: _ => rfl
      · match ds with
        | [] => rfl
        | [y] =>
          show (match h2[m]? with
            | some (.lst xs) => _
            | _ => R.stuck) = _
          cases z : h2[m]? with
          | none => rfl
          | some o => cases o <;> first | exact (qn _ z).elim | rfl
        | _ :: _ :: _ => rfl
      · match ds with
        | [] => rfl
        | [y] =>
          show (match h2[m]? with
            | some (.lst xs) => _
            | _ => R.stuck) = _
          cases z : h2[m]? with
          | none => rfl
          | some o => cases o <;> first | exact (qn _ z).elim | rfl
        | _ :: _ :: _ => rfl
  | _ => exact .inl e
theorem PEs.few {es : L} {xs : List Expr} (p : PEs Pg T X W I es xs) (ns : nonStar es = true) {pos : Pos} : (backTo pos (starEach xs X.env)).all (fun x => !x.1) = true := by
  induction p with
  | nil => rfl
  | @cons e es x xs nx hx hr ih =>
    rw [star_plain nx]
    show (!false && (backTo pos (starEach xs X.env)).all (fun x => !x.1)) = true
    rw [ih ns]; rfl
  | star _ _ _ => cases ns
theorem f_meth {p : P} {o : E} {es : L} {a : Expr} {m : Str} {args : List Expr} {apos cpos : Pos} (hne : args.isEmpty = false) (hm : methN p = some m) (po : PE X a (tI Pg T X W I o)) (na : notSuper a = true) (ps : PEs Pg T X W I es args) (ns : nonStar es = true) (h30 : args.length < 30)
    (hl : (apos.endLine == cpos.line) = true) : PE X (.Call (.Attribute a m apos) args [] cpos) (tI Pg T X W I (.meth p o es)) := by
  refine ⟨fun pins s σ H Q J ⟨w, h, ρ, r, en, d⟩ => ?_⟩
  have hfew : ((backTo cpos (starEach args X.env)).all (fun x => !x.1) && (backToKw cpos (keywordEach [] X.env)).all (fun x => x.1.isSome) && decide (args.length + ([] : List Keyword).length + (if ([] : List Keyword).isEmpty then 0 else 1) < 30)) = true := by
    rw [ps.few ns, decide_eq_true (show args.length + ([] : List Keyword).length + (if ([] : List Keyword).isEmpty then 0 else 1) < 30 from h30)] <;> rfl
  refine wpAny_Call_method_late (super_plain na) hfew hl rfl (thn (po.run pins s σ H _ J (up1 r en d)) fun v s1 ⟨x, H1, J1, rx, w1, h1, dx, r1, en1, p1, d1⟩ => ?_)
  have d1 : Does X.K T (Rep X.K) (WxOf Pg X W σ) w1 h1 H1 (match kindOf h1 dx with
    | some k => if methOk p k then (evalL I es ρ h1).bind fun ds h2 => prim p (dx :: ds) h2 else .stuck
    | none => .stuck) Q := d1
  cases z : kindOf h1 dx with
  | none => rw [z] at d1; exact d1.elim
  | some k =>
    rw [z] at d1
    have d1 : Does X.K T (Rep X.K) (WxOf Pg X W σ) w1 h1 H1 (if methOk p k then (evalL I es ρ h1).bind fun ds h2 => prim p (dx :: ds) h2 else .stuck) Q := d1
    by_cases ok : methOk p k = true
    · rw [if_pos ok] at d1
      obtain ⟨id, pa, sl, ty, hr⟩ := meth_rule (X := X) (T := T) ok hm
      obtain ⟨t1, t2⟩ := kind_is J1 r1 p1 rx z
      refine ⟨tyOfK k, id, pa, sl, ty, t1, t2, ?_⟩
      have hA := ps.pa.run cpos pins s1 σ H1 _ J1 ⟨w1, h1, ρ, r1, en1, Does.bind (rel := RepL X.K) d1⟩
      have hpl := ps.plain ns (pos := cpos)
      cases args with
      | nil => cases hne
      | cons e0 as =>
      rw [(ps.args ns (pos := cpos)).1] at hA hpl ⊢
      refine Calls.callWith_builtin hpl (Calls.evalArgs_plain ?_)
      refine thn hA fun us s2 ⟨vs, H2, J2, rs, w2, h2, ds, st, r2, p2, d2⟩ => ?_
      rcases kind_stay (ds := ds) (h2 := h2) ok z with q | q
      · exact hr pins s2 σ H2 x vs v us Q J2 rx rs ⟨w2, h2, dx, ds, q, r2, Rep.step st r1 _ _ p1, p2, gives d2⟩
      · rw [q] at d2; exact d2.elim
    · rw [if_neg ok] at d1; exact d1.elim
/-! ### calls of defs -/
theorem f_fn (g : Gd Pg T n N S X) (io : IOk Pg n I) (tk : L2.Takes X W) {f : Nat} {es : L} {x : Str} {e : Expr} {as : List Expr} {q pos : Pos} (hf : (Pg.fns[f]?).map (·.name) = some x) (gl : isGlo S x = true) (ps : PEs Pg T X W I es (e :: as)) (ns : nonStar es = true) :
    PE X (.Call (.Name x q) (e :: as) [] pos) (tI Pg T X W I (.call f es)) := by
  cases z : Pg.fns[f]? with
  | none => rw [z] at hf; cases hf
  | some F =>
    rw [z] at hf
    obtain rfl : F.name = x := Option.some.inj hf
    obtain ⟨a, fd, h1, h2, h3, h4⟩ := g.fns 0 f F z
    refine peImp (L2.pe_callS (E := L2.WE W) h4 g.room (g.glo gl).1 h1 h2 h3 (L2.passAt tk) ps.pa (g.glo gl).2 (ps.args ns (pos := pos)).1 (ps.args ns).2) fun σ H Q ⟨w, h, ρ, r, en, d⟩ => ?_
    have d : Does X.K T (Rep X.K) (WxOf Pg X W σ) w h H ((evalL I es ρ h).bind fun ds h1 => I.C 0 f ds h1) Q := d
    refine ⟨w, h, ρ, r, en, Does.imp (Does.bind (rel := RepL X.K) d) fun vs H1 ⟨w1, h1, ds, st, r1, p1, d1⟩ => ?_⟩
    rw [io.C 0] at d1
    exact ⟨w1, h1, ds, r1, p1, d1⟩
/-! ### targets -/
mutual
def slotsT : Ir.T → List Nat
  | .name i => [i]
  | .pair ts => slotsTs ts
def slotsTs : Ts → List Nat
  | .nil => []
  | .cons t r => slotsT t ++ slotsTs r
end
/-- what a loop is given -/
def ItR (K : PySem.W.Frag) (w : Wd) (H : Hp) (x : Ir.It) (v : V) : Prop := match x with
  | .one d => Rep K w H d v
  | .many ds => ∃ a vs, v = .ref a ∧ SqT K H a vs ∧ RepL K w H ds vs
/-- bound: the names' slots alone change -/
def gT (Pg : Prog) (T : List (Addr × Str)) (X : L2.Cx) (t : Ir.T) : L2.TG := fun v σ H Q => ∃ w h ρ x ρ', HRel X.K T w h H ∧ EnvR X.K w H ρ σ ∧ ItR X.K w H x v ∧ bindI t x ρ = some ρ' ∧ ∀ σ', EnvR X.K w H ρ' σ' → (∀ vs, (∀ i ∈ slotsT t, i ∈ vs) → L2.wipe σ' vs = L2.wipe σ vs) → Q σ' H
def gTs (Pg : Prog) (T : List (Addr × Str)) (X : L2.Cx) (t : Ts) : L2.TGs := fun v σ H Q => ∃ w h ρ d ρ', HRel X.K T w h H ∧ EnvR X.K w H ρ σ ∧ RepL X.K w H d v ∧ bindTs t d ρ = some ρ' ∧ ∀ σ', EnvR X.K w H ρ' σ' → (∀ vs, (∀ i ∈ slotsTs t, i ∈ vs) → L2.wipe σ' vs = L2.wipe σ vs) → Q σ' H
theorem pgImp {e : Expr} {t t' : L2.TG} (p : PG X e t) (i : ∀ v σ H Q, t' v σ H Q → t v σ H Q) : PG X e t' := ⟨fun pins s σ H v u Q I r h => p.run pins s σ H v u Q I r (i _ _ _ _ h)⟩
theorem pgsImp {e : List Expr} {t t' : L2.TGs} (p : PGs X e t) (i : ∀ v σ H Q, t' v σ H Q → t v σ H Q) : PGs X e t' := ⟨fun pins s σ H v u Q I r h => p.run pins s σ H v u Q I r (i _ _ _ _ h)⟩
theorem wipe_get (σ : L2.St) (j : Nat) : ∀ vs : List Nat, (L2.wipe σ vs)[j]? = if j ∈ vs then (σ[j]?).map (fun _ => none) else σ[j]?
  | [] => by simp [L2.wipe]
  | v :: vs => by
    unfold L2.wipe
    by_cases hj : v = j
    · subst hj
      by_cases hl : v < (L2.wipe σ vs).length
      · rw [List.getElem?_set_self hl, if_pos (by simp)]
        rw [L2.wipe_length] at hl
        rw [List.getElem?_eq_getElem hl]; rfl
      · rw [List.getElem?_eq_none (by simpa using hl), if_pos (by simp)]
        rw [L2.wipe_length] at hl
        rw [List.getElem?_eq_none (by omega)]; rfl
    · rw [List.getElem?_set_ne hj, wipe_get σ j vs]
      have : (j ∈ v :: vs) ↔ j ∈ vs := by simp [Ne.symm hj]
      by_cases z : j ∈ vs
      · rw [if_pos z, if_pos (this.mpr z)]
      · rw [if_neg z, if_neg (fun q => z (this.mp q))]
theorem wipe_set {σ : L2.St} {i : Nat} {x : Option V} {vs : List Nat} (hi : i ∈ vs) : L2.wipe (σ.set i x) vs = L2.wipe σ vs := by
  apply List.ext_getElem?
  intro j
  rw [wipe_get, wipe_get]
  by_cases hj : j ∈ vs
  · rw [if_pos hj, if_pos hj]
    by_cases e : i = j
    · subst e
      by_cases hl : i < σ.length
      · rw [List.getElem?_set_self hl, List.getElem?_eq_getElem hl]; rfl
      · rw [List.getElem?_eq_none (by simpa using hl), List.getElem?_eq_none (by omega)]
    · rw [List.getElem?_set_ne e]
  · rw [if_neg hj, if_neg hj, List.getElem?_set_ne fun (z : i = j) => hj (z ▸ hi)]
theorem each_plain {e : Expr} {es : List Expr} {env : Env} (h : notStar e = true) : assignEach (e :: es) env = (false, assign e env) :: assignEach es env := by
  cases e <;> first | rfl | cases h
theorem bindTs_len : ∀ {ts : Ts} {es : List Expr} {xs : List D} {ρ ρ' : Rho}, okTs Pg N S ts es = true → bindTs ts xs ρ = some ρ' → xs.length = es.length
  | .nil, es, xs, ρ, ρ', ok, b => by
    cases es with
    | cons _ _ => cases ok
    | nil =>
      cases xs with
      | nil => rfl
      | cons _ _ => cases b
  | .cons t ts, es, xs, ρ, ρ', ok, b => by
    cases es with
    | nil => cases ok
    | cons e es =>
      cases xs with
      | nil => cases b
      | cons x xs =>
        have b : (bindT t x ρ).bind (fun ρ' => bindTs ts xs ρ') = some ρ' := b
        cases z : bindT t x ρ with
        | none => rw [z] at b; cases b
        | some ρ1 =>
          rw [z] at b
          have b : bindTs ts xs ρ1 = some ρ' := b
          rw [List.length_cons, List.length_cons, bindTs_len (and2 ok).2 b]
mutual
theorem s_T (g : Gd Pg T n N S X) : ∀ (t : Ir.T) (e : Expr), okT Pg N S t e = true → PG X e (gT Pg T X t)
  | .name i, e, ok => by
    cases e <;> first | cases ok | skip
    rename_i x p
    obtain ⟨o1, o2⟩ := and2 ok
    obtain ⟨l1, l2⟩ := g.loc o2
    refine pgImp (L2.pg_name (i := i) (g.hN ▸ g.nd) (by rw [g.hN]; exact of_decide_eq_true o1) l1 l2) fun v σ H Q ⟨w, h, ρ, d, ρ', r, en, rp, b, q⟩ => ?_
    cases d <;> cases b
    exact q _ (en.set rp) fun vs hv => wipe_set (hv i (by simp [slotsT]))
  | .pair ts, e, ok => by
    cases e <;> first | cases ok | skip
    rename_i es k p
    obtain ⟨p1, p2, p3⟩ := s_Ts g ts es ok
    refine pgImp (L2.pg_tup g.calm p1 p3 p2) fun v σ H Q ⟨w, h, ρ, d, ρ', r, en, rp, b, q⟩ => ?_
    cases d with
    | one d =>
      cases d with
      | tup xs =>
        have b : bindTs ts xs ρ = some ρ' := b
        obtain ⟨a, vs, e1, e2, e3⟩ := rp
        refine ⟨a, vs, e1, e2.sq, ?_, w, h, ρ, xs, ρ', r, en, e3, b, q⟩
        rw [e3.length]
        exact bindTs_len ok b
      | _ => cases b
    | many xs =>
      have b : bindTs ts xs ρ = some ρ' := b
      obtain ⟨a, vs, e1, e2, e3⟩ := rp
      refine ⟨a, vs, e1, e2, ?_, w, h, ρ, xs, ρ', r, en, e3, b, q⟩
      rw [e3.length]
      exact bindTs_len ok b
theorem s_Ts (g : Gd Pg T n N S X) : ∀ (t : Ts) (es : List Expr), okTs Pg N S t es = true → PGs X es (gTs Pg T X t) ∧ (assignEach es X.env).findIdx? (·.1) = none ∧ (assignEach es X.env).length = es.length
  | .nil, es, ok => by
    cases es with
    | cons _ _ => cases ok
    | nil =>
      refine ⟨pgsImp L2.pgs_nil fun vs σ H Q ⟨w, h, ρ, d, ρ', r, en, rp, b, q⟩ => ?_, rfl, rfl⟩
      cases d with
      | cons _ _ => cases b
      | nil =>
        cases b
        have rp : vs = [] := rp
        exact ⟨rp, q σ en fun _ _ => rfl⟩
  | .cons t ts, es, ok => by
    cases es with
    | nil => cases ok
    | cons e es =>
      obtain ⟨o1, o2⟩ := and2 ok
      obtain ⟨o0, o1⟩ := and2 o1
      have q1 := s_T g t e o1
      obtain ⟨q2, q3, q4⟩ := s_Ts g ts es o2
      have hs := each_plain (es := es) (env := X.env) o0
      refine ⟨pgsImp (L2.pgs_cons q1 q2 (by rw [hs]; rfl)) fun vs σ H Q ⟨w, h, ρ, d, ρ', r, en, rp, b, q⟩ => ?_, by rw [hs, List.findIdx?_cons, q3]; rfl, by rw [hs, List.length_cons, q4, List.length_cons]⟩
      cases d with
      | nil => cases b
      | cons x xs =>
        obtain ⟨v, us, rfl, r1, r2⟩ := rp
        have b : (bindT t x ρ).bind (fun ρ' => bindTs ts xs ρ') = some ρ' := b
        cases z : bindT t x ρ with
        | none => rw [z] at b; cases b
        | some ρ1 =>
          rw [z] at b
          refine ⟨v, us, rfl, w, h, ρ, .one x, ρ1, r, en, r1, z, fun σ1 en1 w1 => ⟨w, h, ρ1, xs, ρ', r, en1, r2, b, fun σ2 en2 w2 => q σ2 en2 fun vs hv => ?_⟩⟩
          rw [w2 vs fun i hi => hv i (by simp [slotsTs, hi]), w1 vs fun i hi => hv i (by simp [slotsTs, hi])]
end
end
end Ir

set_option Elab.async false
set_option linter.all false
set_option maxRecDepth 100000
set_option maxHeartbeats 4000000
/-! Ir15: what is walked. -/
namespace Ir
open PySem PySem.Spec PyProof.Rows
open L2 (V Hp HO TE TT TA TS VK SqL SqT Rd upd upd_same upd_ne ne_of ne_of_none valV Inv OpR UnR CallR MtR IxR SlR TruR R2 EP Vals RelV PE PT PA PW PC PO PG PGs PI thn AP Itl Itt Itr Its Ite Itz)
/-- a walk as the interpreter sees it -/
def Walks1 (K : PySem.W.Frag) (T : List (Addr × Str)) (rd : Ir.Rd) (J : L2.It) (w : Wd) (h : Hh) (H : Hp) : Prop := ∀ i,
  (rd i h = some none → J.stop i H) ∧ ∀ x, rd i h = some (some x) → J.go i H ∧ ∀ v H', J.yld i H v H' → Step w h H w h H' ∧ HRel K T w h H' ∧ ItR K w H' x v
def relG (K : PySem.W.Frag) (T : List (Addr × Str)) (w : Wd) (H : Hp) (s : Nat × Ir.Rd) (J : L2.It) : Prop := ∃ P : Wd → Hp → Prop, P w H ∧
  (∀ w h H w' h' H', P w H → HRel K T w h H → Step w h H w' h' H' → P w' H') ∧ ∀ w h H, P w H → HRel K T w h H → Walks1 K T s.2 J w h H
def tG (Pg : Prog) (T : List (Addr × Str)) (X : L2.Cx) (W : L2.WX) (I : Cx) (g : G) : L2.TI := fun σ H R => ∃ w h ρ, HRel X.K T w h H ∧ EnvR X.K w H ρ σ ∧ Does X.K T (relG X.K T) (WxOf Pg X W σ) w h H (evalG I g ρ h) R
theorem piImp {X : L2.Cx} {tg e : Expr} {t t' : L2.TI} (p : PI X tg e t) (i : ∀ σ H R, t' σ H R → t σ H R) : PI X tg e t' := ⟨fun pins s σ H R I h => p.run pins s σ H R I (i _ _ _ h)⟩
/-- a list, a tuple, a text, by what it is -/
def iSeq (K : PySem.W.Frag) (te : TE) : L2.TI := fun σ H R => te σ H fun x H1 => ∃ J, ((∃ a xs, x = .ref a ∧ SqL K H1 a xs ∧ J = Itl K a) ∨ (∃ a xs, x = .ref a ∧ SqT K H1 a xs ∧ J = Itt K a) ∨ ∃ z, x = .str z ∧ J = Its z) ∧ R J H1
theorem pi_seq {X : L2.Cx} {tg e : Expr} {te : TE} (he : PE X e te) : PI X tg e (iSeq X.K te) := ⟨fun pins s σ H R J0 h0 => thn (he.run pins s σ H _ J0 h0) fun v s1 ⟨x, H1, J1, r1, J, q1, q⟩ => by
  rcases q1 with ⟨a, xs, rfl, hq, rfl⟩ | ⟨a, xs, rfl, hq, rfl⟩ | ⟨z, rfl, rfl⟩
  · cases r1
    obtain ⟨its, _, p, _⟩ := J1.list hq
    exact wpAny_pyIter_list p.isList (L2.pi_one (tk := s1.toks) J1 _ (L2.turn_list a _) ⟨_, Heap.get?_push_size _ rfl, rfl, rfl⟩ q)
  · cases r1
    obtain ⟨its, _, p, _⟩ := J1.tuple hq
    exact wpAny_pyIter_tuple (show s1.heap.IsTuple a its.toArray from p) (L2.pi_one (tk := s1.toks) J1 _ (L2.turn_tuple a _) ⟨_, Heap.get?_push_size _ rfl, rfl, rfl⟩ q)
  · obtain ⟨t, rfl⟩ := r1
    cases ha : z.cps.all (· < 128) with
    | false => exact wpAny_pyIter_wide ha (L2.pi_one (tk := s1.toks) J1 _ (L2.turn_str _ z t _ (.inr rfl)) ⟨_, Heap.get?_push_size _ rfl, rfl, rfl⟩ q)
    | true => exact wpAny_pyIter_ascii ha (L2.pi_one (tk := s1.toks) J1 _ (L2.turn_str _ z t _ (.inl rfl)) ⟨_, Heap.get?_push_size _ rfl, rfl, rfl⟩ q)⟩
section
variable {K : PySem.W.Frag} {T : List (Addr × Str)} {w w' : Wd} {h h' : Hh} {H H' : Hp}
/-- a reader of a value, item by item -/
def Rv1 (K : PySem.W.Frag) (w : Wd) (h : Hh) (H : Hp) (rv : Rv) (S : List V → Prop) : Prop := ∃ xs vs, RepL K w H xs vs ∧ S vs ∧ ∀ i, rv i h = some xs[i]?
theorem fixed_at (xs : List D) (i : Nat) (h : Hh) : fixed xs i h = some xs[i]? := rfl
theorem live_at {n : Nat} {xs : List D} (e : h[n]? = some (.lst xs)) (i : Nat) : live n i h = some xs[i]? := by unfold live; rw [e]
/-- a list or a tuple and its reader -/
theorem rd_at {d : D} {v : V} {k : Nat} {rv : Rv} {h0 : Hh} (r : HRel K T w h H) (p : Rep K w H d v) (e : rdOf h0 d = some (k, rv)) (ne : ∃ i, rv i h ≠ none) : ∃ a, v = .ref a ∧ Rv1 K w h H rv (fun vs => (isTup d = true ∧ SqT K H a vs) ∨ (isTup d = false ∧ SqL K H a vs)) := by
  cases d with
  | tup xs =>
    cases e
    obtain ⟨a, vs, e1, e2, e3⟩ := p
    exact ⟨a, e1, xs, vs, e3, .inl ⟨rfl, e2.sq⟩, fun i => rfl⟩
  | lst xs =>
    cases e
    obtain ⟨a, vs, e1, e2, e3, e4⟩ := p
    exact ⟨a, e1, xs, vs, e4, .inr ⟨rfl, .inl (.inl e3)⟩, fun i => rfl⟩
  | scr xs =>
    cases e
    obtain ⟨a, e1, e3⟩ := p
    refine ⟨a, e1, xs.map .int, xs.map V.int, ?_, .inr ⟨rfl, r.scr e3⟩, fun i => rfl⟩
    clear e3 ne
    induction xs with
    | nil => exact RepL.nil
    | cons y r ih => exact RepL.cons rfl ih
  | ref n =>
    have e : (match h0[n]? with
      | some (.lst xs) => some (xs.length, live n)
      | _ => none) = some (k, rv) := e
    have el : rv = live n := by
      cases q : h0[n]? with
      | none => rw [q] at e; cases e
      | some o =>
        rw [q] at e
        cases o <;> cases e
        rfl
    subst el
    obtain ⟨a, e1, e2⟩ := p
    obtain ⟨i0, ne⟩ := ne
    cases q : h[n]? with
    | none => exact (ne (by unfold live; rw [q])).elim
    | some o =>
      cases o with
      | lst xs =>
        obtain ⟨b, vs, i, hb, p⟩ := r.lst q
        rw [i] at e2; cases e2
        exact ⟨_, e1, xs, vs, p, .inr ⟨rfl, .inl (.inl hb)⟩, fun i => live_at q i⟩
      | _ => exact (ne (by unfold live; rw [q])).elim
  | _ => cases e
theorem rd_ref {d : D} {v : V} {k : Nat} {rv : Rv} (p : Rep K w H d v) (e : rdOf h d = some (k, rv)) : ∃ a, v = .ref a := by
  cases d with
  | tup xs => obtain ⟨a, vs, e1, _⟩ := p; exact ⟨a, e1⟩
  | lst xs => obtain ⟨a, vs, e1, _⟩ := p; exact ⟨a, e1⟩
  | scr xs => obtain ⟨a, e1, _⟩ := p; exact ⟨a, e1⟩
  | ref n => obtain ⟨a, e1, _⟩ := p; exact ⟨a, e1⟩
  | _ => cases e
theorem rd_now {d : D} {k : Nat} {rv : Rv} (e : rdOf h d = some (k, rv)) : ∃ i, rv i h ≠ none := by
  refine ⟨0, fun z => ?_⟩
  cases d with
  | tup xs => cases e; cases z
  | lst xs => cases e; cases z
  | scr xs => cases e; cases z
  | ref n =>
    have e : (match h[n]? with
      | some (.lst xs) => some (xs.length, live n)
      | _ => none) = some (k, rv) := e
    cases q : h[n]? with
    | none => rw [q] at e; cases e
    | some o =>
      rw [q] at e
      cases o <;> cases e
      rw [live_at q] at z; cases z
  | _ => cases e
theorem nx_at {rv : Rv} {xs : List D} {i : Nat} {h : Hh} {o : Option D} (f : ∀ i, rv i h = some xs[i]?) (e : rv i h = some o) : xs[i]? = o := by
  rw [f i] at e; exact Option.some.inj e
theorem w_seq {d : D} {a : Addr} {k : Nat} {rv : Rv} {J : L2.It} (r : HRel K T w h H) (p : Rep K w H d (.ref a)) (e : rdOf h d = some (k, rv)) (j1 : isTup d = true → J = Itt K a) (j2 : isTup d = false → J = Itl K a) : relG K T w H (k, ones rv) J := by
  refine ⟨fun w H => Rep K w H d (.ref a), p, fun w h H w' h' H' q r s => Rep.step s r _ _ q, fun w h1 H q r1 i => ?_⟩
  have get : ∀ o, ones rv i h1 = some o → ∃ xs vs, RepL K w H xs vs ∧ ((isTup d = true ∧ SqT K H a vs) ∨ (isTup d = false ∧ SqL K H a vs)) ∧ o = (xs[i]?).map Ir.It.one := fun o eo => by
    have eo : (rv i h1).map (fun o => o.map Ir.It.one) = some o := eo
    cases z : rv i h1 with
    | none => rw [z] at eo; cases eo
    | some o' =>
      obtain ⟨a', e1, xs, vs, q1, q2, q3⟩ := rd_at r1 q e ⟨i, by rw [z]; simp⟩
      cases e1
      rw [z] at eo
      refine ⟨xs, vs, q1, q2, ?_⟩
      rw [nx_at q3 z]
      exact (Option.some.inj eo).symm
  refine ⟨fun eo => ?_, fun x eo => ?_⟩
  · obtain ⟨xs, vs, q1, q2, q3⟩ := get _ eo
    have hl : vs.length ≤ i := by
      rw [q1.length]
      cases z : xs[i]? with
      | none => exact List.getElem?_eq_none_iff.mp z
      | some _ => rw [z] at q3; cases q3
    rcases q2 with ⟨t, q2⟩ | ⟨t, q2⟩
    · rw [j1 t]; exact ⟨vs, q2, hl⟩
    · rw [j2 t]; exact ⟨vs, q2, hl⟩
  · obtain ⟨xs, vs, q1, q2, q3⟩ := get _ eo
    cases z : xs[i]? with
    | none => rw [z] at q3; cases q3
    | some y =>
      rw [z] at q3
      obtain rfl : x = .one y := Option.some.inj q3
      obtain ⟨u, hu, ru⟩ := q1.get z
      rcases q2 with ⟨t, q2⟩ | ⟨t, q2⟩
      · rw [j1 t]
        refine ⟨⟨vs, u, q2, hu⟩, fun v H' ⟨e1, e2⟩ => ?_⟩
        subst e1
        have := e2 vs q2
        rw [hu] at this; cases this
        exact ⟨Step.refl, r1, ru⟩
      · rw [j2 t]
        refine ⟨⟨vs, u, q2, hu⟩, fun v H' ⟨e1, e2⟩ => ?_⟩
        subst e1
        have := e2 vs q2
        rw [hu] at this; cases this
        exact ⟨Step.refl, r1, ru⟩
theorem w_str {z : Str} : relG K T w H (z.cps.size, ones (fixed (signs z))) (Its z) := by
  refine ⟨fun _ _ => True, trivial, fun _ _ _ _ _ _ _ _ _ => trivial, fun w h1 H _ r1 i => ⟨fun eo => ?_, fun x eo => ?_⟩⟩
  · have eo : some ((signs z)[i]?.map Ir.It.one) = some none := eo
    have e2 : (signs z)[i]? = none := by
      cases q : (signs z)[i]? with
      | none => rfl
      | some _ => rw [q] at eo; cases eo
    have := List.getElem?_eq_none_iff.mp e2
    show z.cps.size ≤ i
    simpa [signs] using this
  · have eo : some ((signs z)[i]?.map Ir.It.one) = some (some x) := eo
    cases q : (signs z)[i]? with
    | none => rw [q] at eo; cases eo
    | some y =>
      rw [q] at eo
      cases eo
      have hi : i < z.cps.size := by
        have := (List.getElem?_eq_some_iff.mp q).1
        simpa [signs] using this
      refine ⟨hi, fun v H' ⟨e1, c, e2, e3⟩ => ?_⟩
      subst e1
      refine ⟨Step.refl, r1, ?_⟩
      have q' : (z.cps[i]?).map (fun c => D.str ⟨#[c]⟩) = some y := by simpa [signs] using q
      rw [e2] at q'
      cases q'
      exact e3
theorem w_range {lo : Int} {m : Nat} : relG K T w H (m, ones (rgInts lo m)) (Itr lo m) := by
  refine ⟨fun _ _ => True, trivial, fun _ _ _ _ _ _ _ _ _ => trivial, fun w h1 H _ r1 i => ⟨fun eo => ?_, fun x eo => ?_⟩⟩
  · have eo : some ((if i < m then some (D.int (lo + i)) else none).map Ir.It.one) = some none := eo
    by_cases q : i < m
    · rw [if_pos q] at eo; cases eo
    · exact Nat.le_of_not_lt q
  · have eo : some ((if i < m then some (D.int (lo + i)) else none).map Ir.It.one) = some (some x) := eo
    by_cases q : i < m
    · rw [if_pos q] at eo
      cases eo
      exact ⟨q, fun v H' ⟨e1, e2⟩ => by subst e1; exact ⟨Step.refl, r1, e2⟩⟩
    · rw [if_neg q] at eo; cases eo
/-- a pair just made -/
theorem pair_new {x y : D} {u v : V} {p : Addr} (r : HRel K T w h H) (rx : Rep K w H x u) (ry : Rep K w H y v) (hp : H p = none) : Step w h H w h (upd H p (.tup [u, v])) ∧ HRel K T w h (upd H p (.tup [u, v])) ∧ ItR K w (upd H p (.tup [u, v])) (.many [x, y]) (.ref p) :=
  ⟨Step.new hp, r.new hp, p, [u, v], rfl, .inl (.inl upd_same), RepL.cons (Rep.step (Step.new hp) r _ _ rx) (RepL.cons (Rep.step (Step.new hp) r _ _ ry) RepL.nil)⟩
theorem w_zip {d e : D} {a b : Addr} {k k' : Nat} {rv rv' : Rv} {J : L2.It} (r : HRel K T w h H) (p : Rep K w H d (.ref a)) (p' : Rep K w H e (.ref b)) (ed : rdOf h d = some (k, rv)) (ee : rdOf h e = some (k', rv')) (te : isTup d = isTup e)
    (j1 : isTup d = true → J = RZ.ItzT K a b) (j2 : isTup d = false → J = Itz K a b) : relG K T w H (k, zipRd rv rv') J := by
  refine ⟨fun w H => Rep K w H d (.ref a) ∧ Rep K w H e (.ref b), ⟨p, p'⟩, fun w h H w' h' H' q r s => ⟨Rep.step s r _ _ q.1, Rep.step s r _ _ q.2⟩, fun w h1 H ⟨q, q'⟩ r1 i => ?_⟩
  have get : ∀ o, zipRd rv rv' i h1 = some o → ∃ xs vs ys us, RepL K w H xs vs ∧ RepL K w H ys us ∧ ((isTup d = true ∧ SqT K H a vs ∧ SqT K H b us) ∨ (isTup d = false ∧ SqL K H a vs ∧ SqL K H b us)) ∧
      ((o = none ∧ (xs[i]? = none ∨ ys[i]? = none)) ∨ ∃ x y, o = some (.many [x, y]) ∧ xs[i]? = some x ∧ ys[i]? = some y) := fun o eo => by
    unfold zipRd at eo
    cases z : rv i h1 with
    | none => rw [z] at eo; cases eo
    | some o1 =>
      cases z' : rv' i h1 with
      | none => rw [z, z'] at eo; cases o1 <;> cases eo
      | some o2 =>
        obtain ⟨a', e1, xs, vs, q1, q2, q3⟩ := rd_at r1 q ed ⟨i, by rw [z]; simp⟩
        obtain ⟨b', e1', ys, us, q1', q2', q3'⟩ := rd_at r1 q' ee ⟨i, by rw [z']; simp⟩
        cases e1; cases e1'
        refine ⟨xs, vs, ys, us, q1, q1', ?_, ?_⟩
        · rcases q2 with ⟨t, q2⟩ | ⟨t, q2⟩ <;> rcases q2' with ⟨t', q2'⟩ | ⟨t', q2'⟩
          · exact .inl ⟨t, q2, q2'⟩
          · rw [te, t'] at t; cases t
          · rw [te, t'] at t; cases t
          · exact .inr ⟨t, q2, q2'⟩
        · have w1 := nx_at q3 z
          have w2 := nx_at q3' z'
          rw [z, z'] at eo
          cases o1 with
          | none => cases eo; exact .inl ⟨rfl, .inl w1⟩
          | some x =>
            cases o2 with
            | none => cases eo; exact .inl ⟨rfl, .inr w2⟩
            | some y => cases eo; exact .inr ⟨x, y, rfl, w1, w2⟩
  refine ⟨fun eo => ?_, fun x eo => ?_⟩
  · obtain ⟨xs, vs, ys, us, q1, q1', q2, q3⟩ := get _ eo
    have hl : vs.length ≤ i ∨ us.length ≤ i := by
      rcases q3 with ⟨_, q3 | q3⟩ | ⟨_, _, q3, _⟩
      · exact .inl (by rw [q1.length]; exact List.getElem?_eq_none_iff.mp q3)
      · exact .inr (by rw [q1'.length]; exact List.getElem?_eq_none_iff.mp q3)
      · cases q3
    rcases q2 with ⟨t, q2, q2'⟩ | ⟨t, q2, q2'⟩
    · rw [j1 t]; exact ⟨vs, us, q2, q2', hl⟩
    · rw [j2 t]; exact ⟨vs, us, q2, q2', hl⟩
  · obtain ⟨xs, vs, ys, us, q1, q1', q2, q3⟩ := get _ eo
    rcases q3 with ⟨q3, _⟩ | ⟨x1, y1, q3, z1, z2⟩
    · cases q3
    · obtain rfl : x = .many [x1, y1] := Option.some.inj q3
      obtain ⟨u, hu, ru⟩ := q1.get z1
      obtain ⟨u', hu', ru'⟩ := q1'.get z2
      rcases q2 with ⟨t, q2, q2'⟩ | ⟨t, q2, q2'⟩
      · rw [j1 t]
        refine ⟨⟨vs, us, u, u', q2, q2', hu, hu'⟩, fun v H' ⟨p0, f1, f2, e1, e2, e3, e4, e5⟩ => ?_⟩
        have g1 := e4 vs q2
        have g2 := e5 us q2'
        rw [hu] at g1; cases g1
        rw [hu'] at g2; cases g2
        subst e1; subst e3
        exact pair_new r1 ru ru' e2
      · rw [j2 t]
        refine ⟨⟨vs, us, u, u', q2, q2', hu, hu'⟩, fun v H' ⟨p0, f1, f2, e1, e2, e3, e4, e5⟩ => ?_⟩
        have g1 := e4 vs q2
        have g2 := e5 us q2'
        rw [hu] at g1; cases g1
        rw [hu'] at g2; cases g2
        subst e1; subst e3
        exact pair_new r1 ru ru' e2
theorem w_enum {d : D} {a : Addr} {k : Nat} {rv : Rv} (r : HRel K T w h H) (p : Rep K w H d (.ref a)) (e : rdOf h d = some (k, rv)) (nt : isTup d = false) : relG K T w H (k, enumRd rv) (Ite K a) := by
  refine ⟨fun w H => Rep K w H d (.ref a), p, fun w h H w' h' H' q r s => Rep.step s r _ _ q, fun w h1 H q r1 i => ?_⟩
  have get : ∀ o, enumRd rv i h1 = some o → ∃ xs vs, RepL K w H xs vs ∧ SqL K H a vs ∧ o = (xs[i]?).map fun x => Ir.It.many [.int i, x] := fun o eo => by
    unfold enumRd at eo
    cases z : rv i h1 with
    | none => rw [z] at eo; cases eo
    | some o' =>
      obtain ⟨a', e1, xs, vs, q1, q2, q3⟩ := rd_at r1 q e ⟨i, by rw [z]; simp⟩
      cases e1
      rw [z] at eo
      refine ⟨xs, vs, q1, ?_, ?_⟩
      · rcases q2 with ⟨t, _⟩ | ⟨_, q2⟩
        · rw [nt] at t; cases t
        · exact q2
      · rw [nx_at q3 z]
        cases o' <;> cases eo <;> rfl
  refine ⟨fun eo => ?_, fun x eo => ?_⟩
  · obtain ⟨xs, vs, q1, q2, q3⟩ := get _ eo
    refine ⟨vs, q2, ?_⟩
    rw [q1.length]
    cases z : xs[i]? with
    | none => exact List.getElem?_eq_none_iff.mp z
    | some _ => rw [z] at q3; cases q3
  · obtain ⟨xs, vs, q1, q2, q3⟩ := get _ eo
    cases z : xs[i]? with
    | none => rw [z] at q3; cases q3
    | some y =>
      rw [z] at q3
      obtain rfl : x = .many [.int i, y] := Option.some.inj q3
      obtain ⟨u, hu, ru⟩ := q1.get z
      refine ⟨⟨vs, u, q2, hu⟩, fun v H' ⟨p0, f1, e1, e2, e3, e4⟩ => ?_⟩
      have g1 := e4 vs q2
      rw [hu] at g1; cases g1
      subst e1; subst e3
      exact pair_new r1 (x := .int i) rfl ru e2
end
section
variable {X : L2.Cx} {Pg : Prog} {T : List (Addr × Str)} {W : L2.WX} {I : Cx} {n : Nat} {N : List Str} {S : Names}
theorem g_seq {tg x : Expr} {e : E} (pe : PE X x (tI Pg T X W I e)) : PI X tg x (tG Pg T X W I (.seq e)) := by
  refine piImp (pi_seq pe) fun σ H R ⟨w, h, ρ, r, en, d⟩ => ?_
  obtain ⟨w0, h0, ρ0, r0, en0, d0⟩ := up1B (rel := relG X.K T) r en d
  refine ⟨w0, h0, ρ0, r0, en0, Does.imp d0 fun v H1 ⟨w1, h1, dx, r1, en1, p1, d1⟩ => ?_⟩
  have rest : (∀ s, dx ≠ .str s) → Does X.K T (relG X.K T) (WxOf Pg X W σ) w1 h1 H1 (match rdOf h1 dx with
      | some s => .ok (s.1, ones s.2) h1
      | none => .stuck) R := fun ns => by
    cases dx <;> first | exact (ns _ rfl).elim | exact d1
  cases dx with
  | str z =>
    cases (show v = .str z from p1)
    exact ⟨Its z, .inr (.inr ⟨z, rfl, rfl⟩), Does.here (rel := relG X.K T) (a := (z.cps.size, ones (fixed (signs z)))) d1 Step.refl r1 w_str⟩
  | _ =>
    all_goals
      have d2 := rest (fun s z => by cases z)
      generalize hd : rdOf h1 _ = o at d2
      cases o with
      | none => exact d2.elim
      | some s =>
        obtain ⟨k, rv⟩ := s
        obtain ⟨a, rfl⟩ := rd_ref p1 hd
        obtain ⟨a', e1, xs, vs, q1, q2, q3⟩ := rd_at r1 p1 hd (rd_now hd)
        cases e1
        rcases q2 with ⟨t, q2⟩ | ⟨t, q2⟩
        · exact ⟨Itt X.K a, .inr (.inl ⟨a, vs, rfl, q2, rfl⟩), Does.here d2 Step.refl r1 (w_seq r1 p1 hd (fun _ => rfl) fun z => by rw [t] at z; cases z)⟩
        · exact ⟨Itl X.K a, .inl ⟨a, vs, rfl, q2, rfl⟩, Does.here d2 Step.refl r1 (w_seq r1 p1 hd (fun z => by rw [t] at z; cases z) fun _ => rfl)⟩
theorem g_range1 (g : Gd Pg T n N S X) {tg a : Expr} {x : Str} {p pos : Pos} {e : E} (hx : x = ("range" : Str)) (gl : isGlo S x = true) (fr : Pg.free.contains x = true) (pe : PE X a (tI Pg T X W I e)) (na : notStar a = true) : PI X tg (.Call (.Name x p) [a] [] pos) (tG Pg T X W I (.range1 e)) := by
  subst hx
  refine piImp (L2.pi_range1 (g.glo gl).1 (g.free _ fr) (L2.pa_cons pe L2.pa_nil (star_plain na)) (star_plain na)) fun σ H R ⟨w, h, ρ, r, en, d⟩ => ?_
  obtain ⟨w0, h0, ρ0, r0, en0, d0⟩ := up1B (rel := relG X.K T) r en d
  refine ⟨w0, h0, ρ0, r0, en0, Does.imp d0 fun v H1 ⟨w1, h1, dx, r1, en1, p1, d1⟩ => ?_⟩
  cases dx <;> first | exact d1.elim | skip
  rename_i j
  have d1 : Does X.K T (relG X.K T) (WxOf Pg X W σ) w1 h1 H1 (if -(2 ^ 62) ≤ j ∧ j < 2 ^ 62 then .ok (j.toNat, ones (rgInts 0 j.toNat)) h1 else .stuck) R := d1
  by_cases hj : -(2 ^ 62) ≤ j ∧ j < 2 ^ 62
  · rw [if_pos hj] at d1
    exact ⟨j, by rw [show v = .int j from p1], hj.1, hj.2, Does.here d1 Step.refl r1 w_range⟩
  · rw [if_neg hj] at d1; exact d1.elim
theorem two_in {α : Type} {β : Type} {rel : Wd → Hp → α → β → Prop} {a b : E} {f : D → D → Hh → R α} {σ : L2.St} {H : Hp} {Q : β → Hp → Prop} {w : Wd} {h : Hh} {ρ : Rho} (r : HRel X.K T w h H) (en : EnvR X.K w H ρ σ) (d : Does X.K T rel (WxOf Pg X W σ) w h H ((evalE I a ρ h).bind fun x h1 => (evalE I b ρ h1).bind fun y h2 => f x y h2) Q) :
    tI Pg T X W I a σ H fun u H1 => tI Pg T X W I b σ H1 fun v H2 => ∃ w2 h2 x y, HRel X.K T w2 h2 H2 ∧ Rep X.K w2 H2 x u ∧ Rep X.K w2 H2 y v ∧ Does X.K T rel (WxOf Pg X W σ) w2 h2 H2 (f x y h2) Q := by
  obtain ⟨w0, h0, ρ0, r0, en0, d0⟩ := up1B (rel := rel) r en d
  refine ⟨w0, h0, ρ0, r0, en0, Does.imp d0 fun u H1 ⟨w1, h1, x, r1, en1, p1, d1⟩ => ?_⟩
  refine ⟨w1, h1, ρ, r1, en1, Does.imp (Does.bind (rel := Rep X.K) d1) fun v H2 ⟨w2, h2, y, st, r2, p2, d2⟩ => ?_⟩
  exact ⟨w2, h2, x, y, r2, Rep.step st r1 _ _ p1, p2, d2⟩
theorem g_range2 (g : Gd Pg T n N S X) {tg a b : Expr} {x : Str} {p pos : Pos} {e f : E} (hx : x = ("range" : Str)) (gl : isGlo S x = true) (fr : Pg.free.contains x = true) (pe : PE X a (tI Pg T X W I e)) (pf : PE X b (tI Pg T X W I f)) (na : notStar a = true) (nb : notStar b = true) :
    PI X tg (.Call (.Name x p) [a, b] [] pos) (tG Pg T X W I (.range2 e f)) := by
  subst hx
  have hs2 : starEach [b] X.env = [(false, eval b X.env)] := star_plain nb
  refine piImp (L2.pi_range2 (g.glo gl).1 (g.free _ fr) (L2.pa_cons pe (L2.pa_cons pf L2.pa_nil hs2) (star_plain na)) (by rw [star_plain na, hs2]) hs2) fun σ H R ⟨w, h, ρ, r, en, d⟩ => ?_
  obtain ⟨w0, h0, ρ0, r0, en0, d0⟩ := two_in (rel := relG X.K T) r en d
  refine ⟨w0, h0, ρ0, r0, en0, Does.imp d0 fun u H1 ⟨w1, h1, ρ1, r1, en1, d1⟩ => ⟨w1, h1, ρ1, r1, en1, Does.imp d1 fun v H2 ⟨w2, h2, x, y, r2, p1, p2, d2⟩ => ?_⟩⟩
  cases x <;> first | exact d2.elim | skip
  cases y <;> first | exact d2.elim | skip
  rename_i i j
  have d2 : Does X.K T (relG X.K T) (WxOf Pg X W σ) w2 h2 H2 (if -(2 ^ 62) ≤ i ∧ i < 2 ^ 62 ∧ -(2 ^ 62) ≤ j ∧ j < 2 ^ 62 then .ok ((j - i).toNat, ones (rgInts i (j - i).toNat)) h2 else .stuck) R := d2
  by_cases hj : -(2 ^ 62) ≤ i ∧ i < 2 ^ 62 ∧ -(2 ^ 62) ≤ j ∧ j < 2 ^ 62
  · rw [if_pos hj] at d2
    exact ⟨i, j, by rw [show u = .int i from p1, show v = .int j from p2], hj, Does.here d2 Step.refl r2 w_range⟩
  · rw [if_neg hj] at d2; exact d2.elim
theorem g_zip (g : Gd Pg T n N S X) {a b : Expr} {ts : List Expr} {k : Nat} {tp : Pos} {x : Str} {p pos : Pos} {e f : E} (hx : x = ("zip" : Str)) (gl : isGlo S x = true) (fr : Pg.free.contains x = true) (pe : PE X a (tI Pg T X W I e)) (pf : PE X b (tI Pg T X W I f)) (na : notStar a = true) (nb : notStar b = true) :
    PI X (.Tuple ts k tp) (.Call (.Name x p) [a, b] [] pos) (tG Pg T X W I (.zip e f)) := by
  subst hx
  have hs2 : starEach [b] X.env = [(false, eval b X.env)] := star_plain nb
  refine piImp (RZ.pi_zipA (g.glo gl).1 (g.free _ fr) (L2.pa_cons pe (L2.pa_cons pf L2.pa_nil hs2) (star_plain na)) (star_plain na) (by rw [hs2]; rfl)) fun σ H R ⟨w, h, ρ, r, en, d⟩ => ?_
  obtain ⟨w0, h0, ρ0, r0, en0, d0⟩ := two_in (rel := relG X.K T) r en d
  refine ⟨w0, h0, ρ0, r0, en0, Does.imp d0 fun u H1 ⟨w1, h1, ρ1, r1, en1, d1⟩ => ⟨w1, h1, ρ1, r1, en1, Does.imp d1 fun v H2 ⟨w2, h2, x, y, r2, p1, p2, d2⟩ => ?_⟩⟩
  have d2 : Does X.K T (relG X.K T) (WxOf Pg X W σ) w2 h2 H2 (match rdOf h2 x, rdOf h2 y with
    | some s, some t => if isTup x = isTup y then .ok (s.1, zipRd s.2 t.2) h2 else .stuck
    | _, _ => .stuck) R := d2
  cases z1 : rdOf h2 x with
  | none => rw [z1] at d2; exact d2.elim
  | some s =>
    cases z2 : rdOf h2 y with
    | none => rw [z1, z2] at d2; exact d2.elim
    | some t =>
      rw [z1, z2] at d2
      have d2 : Does X.K T (relG X.K T) (WxOf Pg X W σ) w2 h2 H2 (if isTup x = isTup y then .ok (s.1, zipRd s.2 t.2) h2 else .stuck) R := d2
      by_cases te : isTup x = isTup y
      · rw [if_pos te] at d2
        obtain ⟨k1, rv1⟩ := s
        obtain ⟨k2, rv2⟩ := t
        obtain ⟨a1, rfl⟩ := rd_ref p1 z1
        obtain ⟨b1, rfl⟩ := rd_ref p2 z2
        obtain ⟨_, e1, xs, vs, _, q2, _⟩ := rd_at r2 p1 z1 (rd_now z1)
        obtain ⟨_, e2, ys, us, _, q2', _⟩ := rd_at r2 p2 z2 (rd_now z2)
        cases e1; cases e2
        refine ⟨a1, b1, vs, us, rfl, ?_⟩
        rcases q2 with ⟨t1, q2⟩ | ⟨t1, q2⟩ <;> rcases q2' with ⟨t2, q2'⟩ | ⟨t2, q2'⟩
        · exact .inr ⟨q2, q2', Does.here d2 Step.refl r2 (w_zip r2 p1 p2 z1 z2 te (fun _ => rfl) fun z => by rw [t1] at z; cases z)⟩
        · rw [te, t2] at t1; cases t1
        · rw [te, t2] at t1; cases t1
        · exact .inl ⟨q2, q2', Does.here d2 Step.refl r2 (w_zip r2 p1 p2 z1 z2 te (fun z => by rw [t1] at z; cases z) fun _ => rfl)⟩
      · rw [if_neg te] at d2; exact d2.elim
theorem g_enum (g : Gd Pg T n N S X) {a : Expr} {ts : List Expr} {k : Nat} {tp : Pos} {x : Str} {p pos : Pos} {e : E} (hx : x = ("enumerate" : Str)) (gl : isGlo S x = true) (fr : Pg.free.contains x = true) (pe : PE X a (tI Pg T X W I e)) (na : notStar a = true) :
    PI X (.Tuple ts k tp) (.Call (.Name x p) [a] [] pos) (tG Pg T X W I (.enum e)) := by
  subst hx
  refine piImp (L2.pi_enum (g.glo gl).1 (g.free _ fr) (L2.pa_cons pe L2.pa_nil (star_plain na)) (star_plain na)) fun σ H R ⟨w, h, ρ, r, en, d⟩ => ?_
  obtain ⟨w0, h0, ρ0, r0, en0, d0⟩ := up1B (rel := relG X.K T) r en d
  refine ⟨w0, h0, ρ0, r0, en0, Does.imp d0 fun v H1 ⟨w1, h1, dx, r1, en1, p1, d1⟩ => ?_⟩
  have d1 : Does X.K T (relG X.K T) (WxOf Pg X W σ) w1 h1 H1 (match rdOf h1 dx with
    | some s => if isTup dx = false then .ok (s.1, enumRd s.2) h1 else .stuck
    | none => .stuck) R := d1
  cases z : rdOf h1 dx with
  | none => rw [z] at d1; exact d1.elim
  | some s =>
    rw [z] at d1
    have d1 : Does X.K T (relG X.K T) (WxOf Pg X W σ) w1 h1 H1 (if isTup dx = false then .ok (s.1, enumRd s.2) h1 else .stuck) R := d1
    by_cases nt : isTup dx = false
    · rw [if_pos nt] at d1
      obtain ⟨k1, rv1⟩ := s
      obtain ⟨a1, rfl⟩ := rd_ref p1 z
      obtain ⟨_, e1, xs, vs, _, q2, _⟩ := rd_at r1 p1 z (rd_now z)
      cases e1
      rcases q2 with ⟨t, q2⟩ | ⟨t, q2⟩
      · rw [nt] at t; cases t
      · exact ⟨a1, vs, rfl, q2, Does.here d1 Step.refl r1 (w_enum r1 p1 z nt)⟩
    · rw [if_neg nt] at d1; exact d1.elim
end
end Ir

set_option Elab.async false
set_option linter.all false
set_option maxRecDepth 100000
set_option maxHeartbeats 4000000
/-! Ir16: lists from a walk. -/
namespace Ir
open PySem PySem.Spec PyProof.Rows
open L2 (V Hp HO TE TT TA TS VK SqL SqT Rd upd upd_same upd_ne ne_of ne_of_none valV Inv OpR UnR CallR MtR IxR SlR TruR R2 EP Vals RelV PE PT PA PW PC PO PG PGs PI thn AP Itl Itt Itr Its Ite Itz)
section
variable {K : PySem.W.Frag} {T : List (Addr × Str)} {w w' w1 : Wd} {h h' h1 : Hh} {H H' H1 : Hp}
/-- a list at p that is of no cell -/
structure Apart (w : Wd) (h : Hh) (H : Hp) (p : Addr) (vs : List V) : Prop where
  at_ : H p = some (.lst vs)
  own : ¬ Own w h p
  fz : ¬ w.fz p
  kp : w.kp p = none
theorem Apart.step {p : Addr} {vs : List V} (a : Apart w h H p vs) (s : Step w h H w' h' H') : Apart w' h' H' p vs :=
  ⟨s.frame p _ a.at_ (fun _ z => by cases z) a.own, fun z => (s.own p z).elim a.own fun z => (by rw [a.at_] at z; cases z), fun z => (s.nfz p z).elim a.fz fun z => (by rw [a.at_] at z; cases z), (s.kp p).trans a.kp⟩
theorem Apart.new (r : HRel K T w h H) {p : Addr} {vs : List V} (hp : H p = none) : Apart w h (upd H p (.lst vs)) p vs :=
  ⟨upd_same, fun z => (by rcases r.ownK z with ⟨_, q⟩ | ⟨_, q⟩ <;> (rw [hp] at q; cases q)), fun z => (by obtain ⟨_, q⟩ := r.fzt p z; rw [hp] at q; cases q), by
    cases z : w.kp p with
    | none => rfl
    | some o => have := (r.kp p o z).1; rw [hp] at this; cases this⟩
mutual
theorem Rep.over {p : Addr} {vs us : List V} (a : Apart w h H p vs) : ∀ (d : D) (v : V), Rep K w H d v → Rep K w (upd H p (.lst us)) d v
  | .non, _, q => q
  | .bl _, _, q => q
  | .int _, _, q => q
  | .str _, _, q => q
  | .tup xs, v, ⟨b, ws, e, q, r⟩ => ⟨b, ws, e, by
      rcases q with ⟨its, n, q⟩ | q
      · refine .inl ⟨its, n, ?_⟩
        have : b ≠ p := fun z => by rw [z, a.at_] at q; cases q
        rw [upd_ne this]; exact q
      · exact .inr q, RepL.over a xs ws r⟩
  | .lst xs, v, ⟨b, ws, e, f, q, r⟩ => ⟨b, ws, e, f, by
      have : b ≠ p := fun z => a.fz (z ▸ f)
      rw [upd_ne this]; exact q, RepL.over a xs ws r⟩
  | .ref n, v, q => q
  | .scr xs, v, q => q
theorem RepL.over {p : Addr} {vs us : List V} (a : Apart w h H p vs) : ∀ (d : List D) (v : List V), RepL K w H d v → RepL K w (upd H p (.lst us)) d v
  | [], _, q => q
  | x :: xs, _, ⟨v, ws, e, q, r⟩ => ⟨v, ws, e, Rep.over a x v q, RepL.over a xs ws r⟩
end
theorem RepK.over {p : Addr} {vs us : List V} (a : Apart w h H p vs) : ∀ (d : List (Key × D)) (v : List (Key × V)), RepK K w H d v → RepK K w (upd H p (.lst us)) d v
  | [], _, q => q
  | x :: xs, _, ⟨v, ws, e, q, r⟩ => ⟨v, ws, e, Rep.over a x.2 v q, RepK.over a xs ws r⟩
theorem CellR.over {p : Addr} {vs us : List V} (a : Apart w h H p vs) {b : Addr} {o : O} (hb : real o = true → b ≠ p) (c : CellR K w H b o) : CellR K w (upd H p (.lst us)) b o := by
  cases o with
  | lst xs => obtain ⟨ws, e, q⟩ := c; exact ⟨ws, by rw [upd_ne (hb rfl)]; exact e, RepL.over a _ _ q⟩
  | dct xs => obtain ⟨ws, e, q⟩ := c; exact ⟨ws, by rw [upd_ne (hb rfl)]; exact e, RepK.over a _ _ q⟩
  | ins _ _ => exact c.elim
  | opq => trivial
theorem HRel.over (r : HRel K T w h H) {p : Addr} {vs us : List V} (a : Apart w h H p vs) : HRel K T w h (upd H p (.lst us)) where
  cell := fun n o e => let ⟨b, i, c⟩ := r.cell n o e; ⟨b, i, c.over a fun ro z => a.own ⟨n, o, e, ro, z ▸ i⟩⟩
  dom := r.dom
  inj := r.inj
  nofz := r.nofz
  fzt := fun b f => by
    obtain ⟨ws, q⟩ := r.fzt b f
    have : b ≠ p := fun z => a.fz (z ▸ f)
    exact ⟨ws, by rw [upd_ne this]; exact q⟩
  kp := fun b o e => by
    obtain ⟨k1, k2, k3⟩ := r.kp b o e
    have : b ≠ p := fun z => by rw [z, a.kp] at e; cases e
    exact ⟨by rw [upd_ne this]; exact k1, k2, k3⟩
  tabs := tabs_upd r.tabs (.inl ⟨vs, a.at_⟩)
theorem Step.over (s : Step w1 h1 H1 w h H) {p : Addr} {us : List V} (hp : H1 p = none) (a : ∃ o, H p = some o) : Step w1 h1 H1 w h (upd H p (.lst us)) :=
  ⟨s.ι, s.fz, s.nfz, s.kp, fun b o e nt no => by rw [upd_ne (ne_of_none e hp)]; exact s.frame b o e nt no, fun b o e => by rw [upd_ne (ne_of_none e hp)]; exact s.there b o e, s.own⟩
theorem Apart.over {p : Addr} {vs us : List V} (a : Apart w h H p vs) : Apart w h (upd H p (.lst us)) p us := ⟨upd_same, a.own, a.fz, a.kp⟩
end
section
variable {X : L2.Cx} {Pg : Prog} {T : List (Addr × Str)} {W : L2.WX} {I : Cx} {n : Nat} {N : List Str} {S : Names}
/-! ### the block's context -/
theorem relS_free {sc : Scope} : ∀ {names : List (Str × NameKind)} {x : Str}, names.lookup x = some .free →
    (names.map fun (n, k) => if (k == NameKind.free && sc.kind == .function && sc.names.lookup n == some .cell) then (n, NameKind.cell) else (n, k)).lookup x = some .free ∨
    (names.map fun (n, k) => if (k == NameKind.free && sc.kind == .function && sc.names.lookup n == some .cell) then (n, NameKind.cell) else (n, k)).lookup x = some .cell
  | [], _, e => by cases e
  | (y, k) :: r, x, e => by
    rw [List.lookup_cons] at e
    rw [List.map_cons]
    cases q : x == y with
    | true =>
      rw [q] at e
      obtain rfl : k = .free := Option.some.inj e
      by_cases c : (NameKind.free == NameKind.free && sc.kind == .function && sc.names.lookup y == some .cell) = true
      · right
        show List.lookup x ((if (NameKind.free == NameKind.free && sc.kind == .function && sc.names.lookup y == some .cell) = true then (y, NameKind.cell) else (y, NameKind.free)) :: _) = _
        rw [if_pos c, List.lookup_cons, q]
      · left
        show List.lookup x ((if (NameKind.free == NameKind.free && sc.kind == .function && sc.names.lookup y == some .cell) = true then (y, NameKind.cell) else (y, NameKind.free)) :: _) = _
        rw [if_neg c, List.lookup_cons, q]
    | false =>
      rw [q] at e
      have ih := relS_free (sc := sc) (names := r) e
      have key : ∀ m : List (Str × NameKind), List.lookup x ((if (k == NameKind.free && sc.kind == .function && sc.names.lookup y == some .cell) = true then (y, NameKind.cell) else (y, k)) :: m) = List.lookup x m := fun m => by
        split <;> rw [List.lookup_cons, q]
      show List.lookup x ((if (k == NameKind.free && sc.kind == .function && sc.names.lookup y == some .cell) = true then (y, NameKind.cell) else (y, k)) :: _) = _ ∨ List.lookup x ((if (k == NameKind.free && sc.kind == .function && sc.names.lookup y == some .cell) = true then (y, NameKind.cell) else (y, k)) :: _) = _
      rw [key]
      exact ih
theorem Gd.blk (g : Gd Pg T n N S X) {scope : Scope} (nl : scope.names ≠ Pg.lamS) (s : Shared) (H : Hp) (C : Addr) (cl : List (Str × Addr)) (fp : List Addr) : Gd Pg T n N scope.names (X.blk s H scope (compEnvC scope cl C X.env) fp) where
  hN := g.hN
  nd := g.nd
  nm := fun x k e => by
    by_cases hk : k = .free
    · subst hk
      rcases relS_free (sc := X.env.scope) e with q | q
      · exact .inl q
      · exact .inr ⟨rfl, q⟩
    · exact .inl (L2.lookup_relS_keep (sc := X.env.scope) hk e)
  fnl := fun x e => by
    show (scope.names.lookup x == some NameKind.cell) = true
    rw [e]; rfl
  calm := g.calm
  room := g.room
  free := g.free
  con := g.con
  fns := g.fns
  exs := g.exs
  sub := g.sub
  told := fun f x h => ⟨(g.told f x h).ex⟩
  lam := fun e => (nl e.symm).elim
theorem blk_ok (g : Gd Pg T n N S X) {scope : Scope} {own : List (Str × Nat)} (b : blkB N S scope own = true) : L2.BlkOk X.N X.env.scope scope own := by
  unfold blkB at b
  obtain ⟨b, b4⟩ := and2 b
  obtain ⟨b, b3⟩ := and2 b
  obtain ⟨b1, b2⟩ := and2 b
  refine ⟨of_decide_eq_true b1, fun y hy => of_decide_eq_true (List.all_eq_true.mp b2 y hy), fun p hp => by rw [g.hN]; exact of_decide_eq_true (List.all_eq_true.mp b3 p hp), fun y hy e => ?_, fun y hy e => ?_⟩
  · have q := List.all_eq_true.mp b4 y hy
    rw [e] at q
    have q : (decide (S.lookup y.1 = some .cell) || decide (S.lookup y.1 = some .free)) = true := q
    rcases Bool.or_eq_true_iff.mp q with q | q
    · rcases g.nm _ _ (of_decide_eq_true q) with z | ⟨z, _⟩
      · exact .inl z
      · cases z
    · rcases g.nm _ _ (of_decide_eq_true q) with z | ⟨_, z⟩
      · exact .inr z
      · exact .inl z
  · have q := List.all_eq_true.mp b4 y hy
    have q : (decide (y.1 ∈ own.map (·.1)) || decide (y.1 ∉ N)) = true := by
      rcases e with e | e <;> rw [e] at q <;> exact q
    rw [g.hN]
    rcases Bool.or_eq_true_iff.mp q with q | q
    · exact .inl (of_decide_eq_true q)
    · exact .inr (of_decide_eq_true q)
/-- the targets of a block are its own -/
theorem loc_own {scope : Scope} {own : List (Str × Nat)} (b : blkB N S scope own = true) (nd : N.Nodup) {x : Str} {i : Nat} (hi : N[i]? = some x) (hx : isLoc scope.names x = true) : i ∈ own.map (·.2) := by
  unfold blkB at b
  obtain ⟨b, b4⟩ := and2 b
  obtain ⟨b, b3⟩ := and2 b
  unfold isLoc at hx
  cases z : scope.names.lookup x with
  | none => rw [z] at hx; cases hx
  | some k =>
    have hm : (x, k) ∈ scope.names := PySem.mem_of_lookup z
    have q := List.all_eq_true.mp b4 _ hm
    have q : (decide (x ∈ own.map (·.1)) || decide (x ∉ N)) = true := by
      rw [z] at hx
      cases k <;> first | exact q | cases hx
    rcases Bool.or_eq_true_iff.mp q with q | q
    · have q := of_decide_eq_true q
      obtain ⟨p, hp, e⟩ := List.mem_map.mp q
      have e2 : N[p.2]? = some p.1 := of_decide_eq_true (List.all_eq_true.mp b3 p hp)
      rw [e] at e2
      have : p.2 = i := L2.nodup_ix nd e2 hi
      exact List.mem_map.mpr ⟨p, hp, this⟩
    · exact (of_decide_eq_true q (List.mem_iff_getElem?.mpr ⟨i, hi⟩)).elim
mutual
theorem slots_own {scope : Scope} {own : List (Str × Nat)} (b : blkB N S scope own = true) (nd : N.Nodup) : ∀ (t : Ir.T) (e : Expr), okT Pg N scope.names t e = true → ∀ i ∈ slotsT t, i ∈ own.map (·.2)
  | .name j, e, ok, i, hi => by
    cases e <;> first | cases ok | skip
    obtain ⟨o1, o2⟩ := and2 ok
    obtain rfl : i = j := by simpa [slotsT] using hi
    exact loc_own b nd (of_decide_eq_true o1) o2
  | .pair ts, e, ok, i, hi => by
    cases e <;> first | cases ok | skip
    exact slots_owns b nd ts _ ok i hi
theorem slots_owns {scope : Scope} {own : List (Str × Nat)} (b : blkB N S scope own = true) (nd : N.Nodup) : ∀ (t : Ts) (e : List Expr), okTs Pg N scope.names t e = true → ∀ i ∈ slotsTs t, i ∈ own.map (·.2)
  | .nil, e, ok, i, hi => by cases hi
  | .cons t ts, e, ok, i, hi => by
    cases e with
    | nil => cases ok
    | cons e es =>
      obtain ⟨o1, o2⟩ := and2 ok
      obtain ⟨o0, o1⟩ := and2 o1
      rcases List.mem_append.mp hi with q | q
      · exact slots_own b nd t e o1 i q
      · exact slots_owns b nd ts es o2 i q
end
theorem wipe2 (σ : L2.St) (vs : List Nat) : L2.wipe (L2.wipe σ vs) vs = L2.wipe σ vs := by
  apply List.ext_getElem?
  intro j
  rw [wipe_get, wipe_get]
  by_cases hj : j ∈ vs
  · rw [if_pos hj, if_pos hj]
    cases σ[j]? <;> rfl
  · rw [if_neg hj, if_neg hj]
/-! ### the turns -/
abbrev W0 : L2.WX := fun _ _ _ _ => False
/-- one turn -/
def lcF (I : Cx) (own : List (Str × Nat)) (tg : Ir.T) (hasIf : Bool) (c elt : E) (ρ : Rho) : Ir.It → Hh → R (Option D) := fun x h2 => match bindI tg x (wipe ρ (own.map (·.2))) with
  | some ρ2 => match (if hasIf then evalB I c ρ2 h2 else .ok true h2) with
    | .ok true h3 => (evalE I elt ρ2 h3).bind fun y h4 => .ok (some y) h4
    | .ok false h3 => .ok none h3
    | _ => .stuck
  | none => .stuck
def lcEnd (mt : Bool) : List D → Hh → R D := fun ds h2 => if mt then .ok (.ref h2.length) (h2 ++ [.lst ds]) else .ok (.lst ds) h2
/-- the block's tests -/
def ttOf (Pg : Prog) (T : List (Addr × Str)) (X : L2.Cx) (I : Cx) (hasIf : Bool) (c : E) : TT := fun σ H Q => if hasIf = true then tB Pg T X W0 I c σ H Q else Q true H
theorem lc_in {mt : Bool} {own : List (Str × Nat)} {tg : Ir.T} {src : G} {hasIf : Bool} {c elt : E} (hs : ∀ i ∈ slotsT tg, i ∈ own.map (·.2)) {σ : L2.St} {H : Hp} {Q : VK} (t : tI Pg T X W I (.lc mt own tg src hasIf c elt) σ H Q) :
    L2.tLc (tG Pg T X W I src) (gT Pg T X tg) (ttOf Pg T X I hasIf c) (tI Pg T X W0 I elt) (own.map (·.2)) σ H Q := by
  obtain ⟨w, h, ρ, r, en, d⟩ := t
  have d : Does X.K T (Rep X.K) (WxOf Pg X W σ) w h H ((evalG I src ρ h).bind fun s h1 => (lcLoop s.2 (lcF I own tg hasIf c elt ρ) s.1 0 [] h1).bind (lcEnd mt)) Q := d
  refine ⟨w, h, ρ, r, en, Does.imp (Does.bind (rel := relG X.K T) d) fun J H1 ⟨w1, h1, s, st0, r1, ⟨P, p1, pst, pw⟩, d1⟩ => ?_⟩
  have en1 := en.step st0 r
  obtain ⟨k, rd⟩ := s
  intro D0 hD
  let WI : Nat → Nat → Hp → Prop := fun i m H => ∃ w h acc vs, Step w1 h1 H1 w h H ∧ HRel X.K T w h H ∧ Apart w h H D0 vs ∧ RepL X.K w H acc vs ∧ Does X.K T (Rep X.K) (WxOf Pg X W σ) w1 h1 H1 ((lcLoop rd (lcF I own tg hasIf c elt ρ) m i acc h).bind (lcEnd mt)) Q
  refine ⟨WI, ⟨k, w1, h1, [], [], Step.new hD, r1.new hD, Apart.new r1 hD, rfl, d1⟩, ?_⟩
  rintro i m H2 ⟨w2, h2, acc, vs, st, r2, ap, ra, d2⟩
  have p2 : P w2 H2 := pst _ _ _ _ _ _ p1 r1 st
  obtain ⟨stop, go⟩ := pw w2 h2 H2 p2 r2 i
  have stopped : rd i h2 = some none → Does X.K T (Rep X.K) (WxOf Pg X W σ) w1 h1 H1 (lcEnd mt acc h2) Q → J.stop i H2 ∧ Q (.ref D0) H2 := fun e d3 => by
    refine ⟨stop e, ?_⟩
    cases mt with
    | true => exact Does.here d3 (Step.adoptC st r2 hD) (r2.adoptC ap.at_ ap.own ap.fz ap.kp ra) ⟨D0, rfl, if_pos rfl⟩
    | false => exact Does.here d3 (Step.adoptF st hD) (r2.adoptF ap.at_ ap.own) ⟨D0, vs, rfl, .inr rfl, ap.at_, RepL.mono Wd.le_frz _ _ ra⟩
  cases z : rd i h2 with
  | none =>
    cases m with
    | zero =>
      have d3 : Does X.K T (Rep X.K) (WxOf Pg X W σ) w1 h1 H1 ((match rd i h2 with
        | some none => R.ok acc h2
        | _ => .stuck).bind (lcEnd mt)) Q := d2
      rw [z] at d3; exact d3.elim
    | succ m =>
      unfold lcLoop at d2
      rw [z] at d2; exact d2.elim
  | some o =>
    cases o with
    | none =>
      left
      refine stopped z ?_
      cases m with
      | zero => unfold lcLoop at d2; rw [z] at d2; exact d2
      | succ m => unfold lcLoop at d2; rw [z] at d2; exact d2
    | some x =>
      right
      cases m with
      | zero => unfold lcLoop at d2; rw [z] at d2; exact d2.elim
      | succ m =>
        unfold lcLoop at d2
        rw [z] at d2
        have d2 : Does X.K T (Rep X.K) (WxOf Pg X W σ) w1 h1 H1 ((match lcF I own tg hasIf c elt ρ x h2 with
          | .ok (some y) h1 => if acc.length < sizeLine then lcLoop rd (lcF I own tg hasIf c elt ρ) m (i + 1) (acc ++ [y]) h1 else .stuck
          | .ok none h1 => lcLoop rd (lcF I own tg hasIf c elt ρ) m (i + 1) acc h1
          | _ => .stuck).bind (lcEnd mt)) Q := d2
        obtain ⟨g1, g2⟩ := go x z
        refine ⟨g1, fun H' => ∃ m', m' < m + 1 ∧ WI (i + 1) m' H', fun H' q => q, fun v H3 y => ?_⟩
        obtain ⟨s3, r3, i3⟩ := g2 v H3 y
        have st3 := st.trans s3
        have ap3 := ap.step s3
        have ra3 := RepL.step s3 r2 _ _ ra
        have en3 := (en1.step st3 r1).wipe (own.map (·.2))
        cases zb : bindI tg x (wipe ρ (own.map (·.2))) with
        | none => simp only [lcF, zb] at d2; exact d2.elim
        | some ρ2 =>
          refine ⟨w2, h2, _, x, ρ2, r3, en3, i3, zb, fun σ2 en4 wp => ⟨(wp _ hs).trans (wipe2 σ _), ?_⟩⟩
          have goOn : ∀ h4, lcF I own tg hasIf c elt ρ x h2 = .ok none h4 → ∀ w4 H4, Step w2 h2 H3 w4 h4 H4 → HRel X.K T w4 h4 H4 → ∃ m', m' < m + 1 ∧ WI (i + 1) m' H4 := fun h4 e w4 H4 s4 r4 => by
            rw [e] at d2
            exact ⟨m, Nat.lt_succ_self m, w4, h4, acc, vs, st3.trans s4, r4, ap3.step s4, RepL.step s4 r3 _ _ ra3, d2⟩
          have goY : ∀ y h4, lcF I own tg hasIf c elt ρ x h2 = .ok (some y) h4 → ∀ w4 H4 u, Step w2 h2 H3 w4 h4 H4 → HRel X.K T w4 h4 H4 → Rep X.K w4 H4 y u →
              ∃ acc, H4 D0 = some (.lst acc) ∧ acc.length < sizeLine ∧ ∃ m', m' < m + 1 ∧ WI (i + 1) m' (upd H4 D0 (.lst (acc ++ [u]))) := fun y h4 e w4 H4 u s4 r4 ru => by
            rw [e] at d2
            have d2 : Does X.K T (Rep X.K) (WxOf Pg X W σ) w1 h1 H1 ((if acc.length < sizeLine then lcLoop rd (lcF I own tg hasIf c elt ρ) m (i + 1) (acc ++ [y]) h4 else .stuck).bind (lcEnd mt)) Q := d2
            have ap4 := ap3.step s4
            have ra4 := RepL.step s4 r3 _ _ ra3
            by_cases hz : acc.length < sizeLine
            · rw [if_pos hz] at d2
              refine ⟨vs, ap4.at_, by rw [ra.length]; exact hz, m, Nat.lt_succ_self m, w4, h4, acc ++ [y], vs ++ [u], (st3.trans s4).over hD ⟨_, ap4.at_⟩, r4.over ap4, ap4.over, ?_, d2⟩
              exact RepL.append (RepL.over ap4 _ _ ra4) (RepL.cons (Rep.over ap4 _ _ ru) RepL.nil)
            · rw [if_neg hz] at d2; exact d2.elim
          have bad : lcF I own tg hasIf c elt ρ x h2 = .stuck → False := fun e => by rw [e] at d2; exact d2.elim
          have bad2 : ∀ q h4, lcF I own tg hasIf c elt ρ x h2 = .exc q h4 → False := fun q h4 e => by rw [e] at d2; exact d2.elim
          have elem : ∀ h4 w4 H4, lcF I own tg hasIf c elt ρ x h2 = ((evalE I elt ρ2 h4).bind fun y h5 => .ok (some y) h5) → Step w2 h2 H3 w4 h4 H4 → HRel X.K T w4 h4 H4 →
              tI Pg T X W0 I elt σ2 H4 fun y H5 => ∃ acc, H5 D0 = some (.lst acc) ∧ acc.length < sizeLine ∧ ∃ m', m' < m + 1 ∧ WI (i + 1) m' (upd H5 D0 (.lst (acc ++ [y]))) := fun h4 w4 H4 e s4 r4 => by
            refine ⟨w4, h4, ρ2, r4, en4.step s4 r3, ?_⟩
            cases ze : evalE I elt ρ2 h4 with
            | stuck => rw [ze] at e; exact (bad e).elim
            | exc q h5 => rw [ze] at e; exact (bad2 q h5 e).elim
            | ok y h5 =>
              rw [ze] at e
              exact fun w5 H5 u s5 r5 ru => goY y h5 e w5 H5 u (s4.trans s5) r5 ru
          have ef : lcF I own tg hasIf c elt ρ x h2 = match (if hasIf then evalB I c ρ2 h2 else .ok true h2) with
            | .ok true h3 => (evalE I elt ρ2 h3).bind fun y h4 => .ok (some y) h4
            | .ok false h3 => .ok none h3
            | _ => .stuck := by
            simp only [lcF, zb]
          cases hasIf with
          | false => exact elem h2 w2 H3 ef Step.refl r3
          | true =>
            refine ⟨w2, h2, ρ2, r3, en4, ?_⟩
            have ef : lcF I own tg true c elt ρ x h2 = match evalB I c ρ2 h2 with
              | .ok true h3 => (evalE I elt ρ2 h3).bind fun y h4 => .ok (some y) h4
              | .ok false h3 => .ok none h3
              | _ => .stuck := ef
            cases zc : evalB I c ρ2 h2 with
            | stuck => rw [zc] at ef; exact (bad ef).elim
            | exc q h5 => rw [zc] at ef; exact (bad ef).elim
            | ok b h5 =>
              rw [zc] at ef
              intro w5 H5 b' s5 r5 eb
              subst eb
              cases b with
              | true => rw [if_pos rfl]; exact elem h5 w5 H5 ef s5 r5
              | false => rw [if_neg (by simp)]; exact goOn h5 ef w5 H5 s5 r5
theorem ptsImp {ifs : List Expr} {t t' : TT} (p : L2.PTs X ifs t) (i : ∀ σ H Q, t' σ H Q → t σ H Q) : L2.PTs X ifs t' := ⟨fun pins s σ H Q I h => p.run pins s σ H Q I (i _ _ _ h)⟩
/-- what the block's parts are in its context -/
structure LcOk (Pg : Prog) (T : List (Addr × Str)) (X : L2.Cx) (I : Cx) (own : List (Str × Nat)) (tg : Ir.T) (hasIf : Bool) (c elt : E) (y t : Expr) (ifs : List Expr) (scope : Scope) : Prop where
  blk : L2.BlkOk X.N X.env.scope scope own
  sl : ∀ i ∈ slotsT tg, i ∈ own.map (·.2)
  tg : ∀ (s : Shared) (H : Hp) (C : Addr) (cl : List (Str × Addr)) (fp : List Addr), PG (X.blk s H scope (compEnvC scope cl C X.env) fp) t (gT Pg T X tg)
  tt : ∀ (s : Shared) (H : Hp) (C : Addr) (cl : List (Str × Addr)) (fp : List Addr), L2.PTs (X.blk s H scope (compEnvC scope cl C X.env) fp) ifs (ttOf Pg T X I hasIf c)
  te : ∀ (s : Shared) (H : Hp) (C : Addr) (cl : List (Str × Addr)) (fp : List Addr), PE (X.blk s H scope (compEnvC scope cl C X.env) fp) y (tI Pg T X W0 I elt)
theorem lc_ok (g : Gd Pg T n N S X) {own : List (Str × Nat)} {tg : Ir.T} {hasIf : Bool} {c elt : E} {y t : Expr} {ifs : List Expr} {scope : Scope} (nl : scope.names ≠ Pg.lamS) (hb : blkB N S scope own = true) (ht : okT Pg N scope.names tg t = true)
    (hc : match ifs with
      | [] => hasIf = false
      | [x] => hasIf = true ∧ ∀ X', Gd Pg T n N scope.names X' → L2.Takes X' W0 → PT X' x (tB Pg T X' W0 I c)
      | _ => False)
    (he : ∀ X', Gd Pg T n N scope.names X' → L2.Takes X' W0 → PE X' y (tI Pg T X' W0 I elt)) : LcOk Pg T X I own tg hasIf c elt y t ifs scope where
  blk := blk_ok g hb
  sl := slots_own hb g.nd tg t ht
  tg := fun s H C cl fp => s_T (g.blk nl s H C cl fp) tg t ht
  tt := fun s H C cl fp => by
    cases ifs with
    | nil =>
      have hc : hasIf = false := hc
      subst hc
      exact ptsImp L2.pts_nil fun σ H Q q => q
    | cons x r =>
      cases r with
      | cons _ _ => exact hc.elim
      | nil =>
        obtain ⟨rfl, hc⟩ := hc
        exact ptsImp (L2.pts_one (hc _ (g.blk nl s H C cl fp) L2.takes0)) fun σ H Q q => q
  te := fun s H C cl fp => he _ (g.blk nl s H C cl fp) L2.takes0
theorem f_lc (g : Gd Pg T n N S X) {mt : Bool} {own : List (Str × Nat)} {tg : Ir.T} {src : G} {hasIf : Bool} {c elt : E} {y t iter : Expr} {ifs : List Expr} {scope : Scope} {pos : Pos} (k : LcOk Pg T X I own tg hasIf c elt y t ifs scope) (hi : PI X t iter (tG Pg T X W I src)) (ns : notSet iter = true) :
    PE X (.ListComp y [⟨t, iter, ifs, 0⟩] scope pos) (tI Pg T X W I (.lc mt own tg src hasIf c elt)) :=
  peImp (L2.pe_lc g.calm (g.hN ▸ g.nd) hi k.blk k.tg k.tt k.te fun x => set_plain' ns) fun σ H Q q => lc_in k.sl q
end
end Ir

set_option Elab.async false
set_option linter.all false
set_option maxRecDepth 100000
set_option maxHeartbeats 4000000
/-! Ir17: lambdas: made, with or without one default, called by the def that got them. -/
namespace Ir
open PySem PySem.Spec PyProof.Rows
open L2 (V Hp HO TE TT TA TS VK SqL SqT Rd upd upd_same upd_ne ne_of ne_of_none valV Inv OpR UnR CallR MtR IxR SlR TruR R2 EP Vals RelV PE PT PA PW PC PO PG PGs PI PS PSs thn AP Itl Itt Itr Its Ite Itz Un)
open LamX (CodeO Tabs TabS TabB ExtN)
/-- the defaults of a lambda -/
def DvAt (H : Hp) (dV : Value) : List Int → Prop
  | [] => dV = .none
  | i :: is => ∃ t, dV = .ref t ∧ H t = some (.tup ((i :: is).map V.int))
abbrev lamQ (X : L2.Cx) : Str := X.env.qual ++ "<lambda>"
abbrev lamO (X : L2.Cx) (params : Arguments) (body : Expr) (scope : Scope) (dV doc pm : Value) (c' : Addr) (ctv : Value) : Obj := PySem.W.kdv_obj "<lambda>" (lamQ X) params (.expr body) scope (L2.cloFrom X.env.cells scope.names []) dV doc pm c' ctv
section
variable {X : L2.Cx} {pins : List (Addr × Obj)} {σ : L2.St} {H : Hp} {s : Shared}
/-- what making a lambda leaves -/
structure Made (X : L2.Cx) (pins : List (Addr × Obj)) (σ : L2.St) (T : List (Addr × Str)) (H : Hp) (params : Arguments) (body : Expr) (scope : Scope) (dV : Value) (f c' : Addr) (H1 : Hp) (s' : Shared) : Prop where
  inv : Inv X pins σ H1 s'
  ext : ExtN H H1
  there : ∀ b o, H b = some o → ∃ o', H1 b = some o'
  tabs : Tabs T H1
  obj : ∃ doc pm ctv, s'.heap.get? f = some (lamO X params body scope dV doc pm c' ctv)
  free : H1 f = none
  nofr : f ∉ L2.frs X.stack
  code : H1 c' = some (CodeO c' (lamQ X))
theorem lam_core {T : List (Addr × Str)} {c P : Addr} {params : Arguments} {body : Expr} {scope : Scope} {pos : Pos} {l : Nat} {dV : Value} {E : Value → Shared → Prop} {Q : Value → Shared → Prop} (J : Inv X pins σ H s) (TB : TabB X.base X.mg c P) (hcode : X.env.code = .ref c)
    (hm : (P, lamQ X) ∈ T) (hu : ∀ p ∈ T, p.1 = P → p.2 = lamQ X) (hT : Tabs T H) (hfree : ∀ y ∈ scope.names, y.2 = .free → ∃ c, X.env.cells.lookup y.1 = some c)
    (h : ∀ f c' H1 s', Made X pins σ T H params body scope dV f c' H1 s' → Q (.ref f) s') : wpAny (model X.prog X.w) X.A (makeTail "<lambda>" (lamQ X) params (.expr body) scope X.env dV .none none pos l) Q E s := by
  obtain ⟨ps, tP, tr, am⟩ := hT _ hm
  have bP : s.heap.BuiltinsAt X.mg P := TB.bm.keeps J.bk
  have tP' : s.heap.get? P = some { cls := .none, data := .fields ps } := J.hok P _ tP
  have nf : ∀ f, s.heap.objs.size ≤ f → f ∉ L2.frs X.stack := fun f hf z => by
    rcases List.mem_cons.mp (J.stkSub _ z) with e | e
    · have lt := J.lt
      rw [← e] at lt
      exact absurd (Nat.lt_of_lt_of_le lt hf) (Nat.lt_irrefl _)
    · exact J.nofs hf e
  cases hc : codeAmong pos ps.toList with
  | some cv =>
    obtain ⟨c', e, hco⟩ := am pos cv hc
    subst e
    refine PySem.W.kdv_makeTailHit (mg := X.mg) (L2.closure_ok hfree) J.ok.glob (J.mod.glob.keeps J.bk) hcode (TB.code.keeps J.bk) tP' tr hc bP fun ctv doc h' tk hx hsz => ?_
    exact h h'.objs.size c' H _ ⟨J.kept fun b o e => Heap.get?_push_of_some _ (hx b o e), ExtN.refl H, fun b o e => ⟨o, e⟩, hT, ⟨doc, _, ctv, Heap.get?_push_size _ rfl⟩, J.hok.fresh hsz, nf _ hsz, hco⟩
  | none =>
    refine PySem.W.kdv_makeTail (mg := X.mg) (L2.closure_ok hfree) J.ok.glob (J.mod.glob.keeps J.bk) hcode (TB.code.keeps J.bk) tP' tr hc TB.gP bP fun c' ctv doc h' tk hx hge hlt hrec htb => ?_
    obtain ⟨c2, oc, vs, t, e2, hoc, hd, hv⟩ := hrec
    cases e2
    have hsz : s.heap.objs.size ≤ h'.objs.size := by omega
    have nC : H c' = none := J.hok.fresh hge
    have J1 := LamX.inv_table (t' := tk) (more := #[rawInt pos.line, rawInt pos.col, .ref c']) (h' := h'.push (lamO X params body scope dV doc ((X.mg "__name__").getD .none) c' ctv)) J tP
      (fun b o hb e => Heap.get?_push_of_some _ (hx b o hb e)) (Heap.get?_push_of_some _ htb) hge ⟨oc, vs, t, Heap.get?_push_of_some _ hoc, hd, hv⟩
    have atP : ∀ {b : Addr} {o : HO}, H b = some o → (∀ qs, o ≠ .tbl qs) → b ≠ P := fun {b o} e n z => n ps (Option.some.inj (e.symm.trans (by rw [z]; exact tP)))
    have nPc : P ≠ c' := ne_of_none tP nC
    have ex : ExtN H (upd (upd H P (.tbl (ps ++ #[rawInt pos.line, rawInt pos.col, .ref c']))) c' (CodeO c' (lamQ X))) := fun b o e n => by
      rw [upd_ne (ne_of_none e nC), upd_ne (atP e n)]; exact e
    have eL : (ps ++ #[rawInt pos.line, rawInt pos.col, .ref c']).toList = ps.toList ++ [rawInt pos.line, rawInt pos.col, .ref c'] := by simp
    refine h h'.objs.size c' _ _ ⟨J1, ex, fun b o e => ?_, fun p hp => ?_, ⟨doc, _, ctv, Heap.get?_push_size _ rfl⟩, ?_, nf _ hsz, upd_same⟩
    · by_cases hb : b = P
      · subst hb; exact ⟨_, by rw [upd_ne nPc, upd_same]⟩
      · exact ⟨o, by rw [upd_ne (ne_of_none e nC), upd_ne hb]; exact e⟩
    · by_cases hb : p.1 = P
      · rw [hu p hp hb, hb]
        refine ⟨_, by rw [upd_ne nPc, upd_same], by rw [eL]; exact PySem.TriplesOk_snoc _ _ _ _ tr, fun p' cv hcv => ?_⟩
        rw [eL] at hcv
        rcases LamX.among_app _ tr hcv with z | z
        · obtain ⟨c0, e1, e2⟩ := am p' cv z
          exact ⟨c0, e1, ex _ _ e2 LamX.codeO_ne⟩
        · exact ⟨c', z, upd_same⟩
      · obtain ⟨qs, a1, a2, a3⟩ := hT p hp
        refine ⟨qs, by rw [upd_ne (ne_of_none a1 nC), upd_ne hb]; exact a1, a2, fun p' cv hcv => ?_⟩
        obtain ⟨c0, e1, e2⟩ := a3 p' cv hcv
        exact ⟨c0, e1, ex _ _ e2 LamX.codeO_ne⟩
    · have n1 : h'.objs.size ≠ c' := by omega
      have n2 : h'.objs.size ≠ P := Nat.ne_of_gt (Nat.lt_of_lt_of_le (Heap.lt_size tP') hsz)
      rw [upd_ne n1, upd_ne n2]
      exact J.hok.fresh hsz
theorem lamPar_at {p : Arguments} {ps : List (Str × Int)} (h : lamPar p = some ps) : (p = ⟨[], [], none, [], [], none, []⟩ ∧ ps = []) ∨ ∃ a an ap i k cp, p = ⟨[], [⟨a, an, ap⟩], none, [], [], none, [.Constant (.int i) k cp]⟩ ∧ ps = [(a, i)] := by
  unfold lamPar at h
  split at h
  · cases h; exact .inl ⟨rfl, rfl⟩
  · cases h; exact .inr ⟨_, _, _, _, _, _, rfl, rfl⟩
  · cases h
theorem lam_mk {T : List (Addr × Str)} {c P : Addr} {params : Arguments} {body : Expr} {scope : Scope} {pos : Pos} {ps : List (Str × Int)} {E : Value → Shared → Prop} {Q : Value → Shared → Prop} (J : Inv X pins σ H s) (TB : TabB X.base X.mg c P) (hcode : X.env.code = .ref c)
    (hm : (P, lamQ X) ∈ T) (hu : ∀ p ∈ T, p.1 = P → p.2 = lamQ X) (hT : Tabs T H) (hp : lamPar params = some ps) (hfree : ∀ y ∈ scope.names, y.2 = .free → ∃ c, X.env.cells.lookup y.1 = some c)
    (h : ∀ f c' dV H1 s', Made X pins σ T H params body scope dV f c' H1 s' → DvAt H1 dV (ps.map (·.2)) → Q (.ref f) s') : wpAny (model X.prog X.w) X.A (eval (.Lambda params body scope pos) X.env) Q E s := by
  rcases lamPar_at hp with ⟨rfl, rfl⟩ | ⟨a, an, ap, i, k, cp, rfl, rfl⟩
  · refine PySem.W.kla_eval rfl ?_
    rw [makeFunction_eq]
    simp only [List.zip_nil_right, List.filterMap_nil, List.isEmpty_nil, if_true, pure_bind]
    exact lam_core J TB hcode hm hu hT hfree fun f c' H1 s' m => h f c' _ H1 s' m rfl
  · refine PySem.W.kdv_lam rfl rfl (PySem.W.kdv_all1 ?_)
    refine wpAny_Constant_int (PySem.W.kdv_all0 ?_)
    rw [makeFunction_eq]
    simp only [List.zip_nil_right, List.filterMap_nil, List.isEmpty_nil, List.isEmpty_cons, if_true, pure_bind, Bool.false_eq_true, if_false]
    refine wpAny_bind (wpAny_newTextTuple ?_)
    have hn : H s.heap.objs.size = none := J.hok.fresh (Nat.le_refl _)
    have J1 : Inv X pins σ (upd H s.heap.objs.size (.tup [.int i])) { s with heap := s.heap.push { cls := .type "tuple", data := .seq [Value.int i s.toks].toArray }, toks := s.toks + 1 } :=
      J.laid (fun b u e => Heap.get?_push_of_some _ e) (Nat.le_refl _) ⟨by show 1 ≤ sizeLine; decide, [.int i s.toks], .cons ⟨_, rfl⟩ .nil, ⟨_, Heap.get?_push_size _ rfl, rfl, _, rfl⟩⟩
    have e1 : ∀ b o, H b = some o → upd H s.heap.objs.size (.tup [.int i]) b = some o := fun b o e => by rw [upd_ne (ne_of_none e hn)]; exact e
    refine lam_core J1 TB hcode hm hu (hT.ext e1) hfree fun f c' H1 s' m => h f c' _ H1 s' ⟨m.inv, (ExtN.of e1).trans m.ext, fun b o e => m.there b o (e1 b o e), m.tabs, m.obj, m.free, m.nofr, m.code⟩ ⟨_, rfl, m.ext _ _ upd_same fun _ z => by cases z⟩
end
end Ir

set_option Elab.async false
set_option linter.all false
set_option maxRecDepth 100000
set_option maxHeartbeats 4000000
/-! Ir18: a lambda run; the def that tells whether a lambda raises. -/
namespace Ir
open PySem PySem.Spec PyProof.Rows
open L2 (V Hp HO TE TT TA TS VK SqL SqT Rd upd upd_same upd_ne ne_of ne_of_none valV Inv OpR UnR CallR MtR IxR SlR TruR R2 EP Vals RelV PE PT PA PW PC PO PG PGs PI PS PSs thn AP Itl Itt Itr Its Ite Itz Un Vis Room XK frs)
open LamX (CodeO Tabs TabS TabB ExtN lamEnv lamCx)
/-- the names of a lambda -/
structure LamW (N : List Str) (sc scope : Scope) (ps : List (Str × Int)) : Prop where
  kind : scope.kind = .function
  co : scope.isCoroutine = false
  gen : scope.isGenerator = false
  own : ∀ y ∈ scope.names, y.2 ≠ .cell ∧ (y.2 = .local → y.1 ∉ N)
  free : ∀ y ∈ scope.names, y.2 = .free → sc.names.lookup y.1 = some .cell ∨ sc.names.lookup y.1 = some .free
  par : ∀ p ∈ ps, scope.names.lookup p.1 = some .local
section
variable {X : L2.Cx} {pins : List (Addr × Obj)} {σ : L2.St} {H HZ : Hp} {s s1 : Shared}
theorem LamW.has {scope : Scope} {ps : List (Str × Int)} (l : LamW X.N X.env.scope scope ps) (ok : X.Ok) : ∀ y ∈ scope.names, y.2 = .free → ∃ c, X.env.cells.lookup y.1 = some c := fun y hy e => (l.free y hy e).elim (fun k => ok.has _ (.inl k)) fun k => ok.has _ (.inr k)
theorem lam_in {A : Around} {outer : List Env} {E : XK} {scope : Scope} {ps : List (Str × Int)} {f c' : Addr} {g : Heap} {tk : Nat} {m : Str → Option Value} (J : Inv X pins σ H s) (l : LamW X.N X.env.scope scope ps) (e0 : L2.Env0 X.prog X.w X.K X.mg X.base A outer s1 HZ) (hd : A.handled = none)
    (un : Un (frs X.stack) [] H HZ s.heap s1.heap) (hns : g.Ns s1.heap.objs.size m) (kp : ∀ b o, s1.heap.get? b = some o → g.get? b = some o) : Inv (lamCx X A outer s1 HZ E scope f c') [] σ HZ { s1 with heap := g, toks := tk } := by
  have has := l.has J.ok
  have look : ∀ {y c}, (L2.cloFrom X.env.cells scope.names []).lookup y = some c → X.env.cells.lookup y = some c := fun {y c} e => by
    rcases L2.cloFrom_mem (PySem.mem_of_lookup e) with q | ⟨q1, q2⟩
    · cases q
    · obtain ⟨c1, hc⟩ := has _ q1 rfl
      have hc : X.env.cells.lookup y = some c1 := hc
      rw [hc] at q2
      have e2 : c = c1 := q2
      rw [e2]; exact hc
  have there : ∀ {y}, scope.names.lookup y = some .free → ∃ c, (L2.cloFrom X.env.cells scope.names []).lookup y = some c := fun {y} hl =>
    L2.mem_lookup (L2.cloFrom_has (cells := X.env.cells) (acc := []) (PySem.mem_of_lookup hl))
  have cellK : ∀ {c : Addr} {v : Option Value}, H c = none → s.heap.IsCell c v → g.IsCell c v := fun {c v} n ⟨o, ho, hd⟩ => by
    obtain ⟨sl, q⟩ := un.any ho n (by simp)
    exact ⟨_, kp _ _ q, hd⟩
  have noA : ∀ b : Addr, b ∉ (lamCx X A outer s1 HZ E scope f c').ex := fun b z => (nomatch (show b ∈ ([] : List Addr) from z))
  have ok : (lamCx X A outer s1 HZ E scope f c').Ok := by
    refine ⟨e0.mod, l.kind, rfl, rfl, Nat.le_refl _, fun y z c e1 e2 => J.ok.inj y z c (look e1) (look e2), fun y hy => ?_, fun y c z _ => (nomatch (show false = true from z)), fun _ => hd, Around.frames_deeper e0.frames, .inr ⟨rfl, rfl⟩, fun b z => (noA b z).elim, e0.bs, e0.bsz, fun b _ _ => noA b, fun b z => (noA b z).elim, e0.funs, e0.frf⟩
    rcases (show scope.names.lookup y = some .cell ∨ scope.names.lookup y = some .free from hy) with hy | hy
    · exact ((l.own _ (PySem.mem_of_lookup hy)).1 rfl).elim
    · exact there hy
  refine ⟨ok, rfl, e0.bare, Un.kept kp, ⟨_, hns, fun i y v e1 e2 e3 => ?_⟩, fun y c e => ?_, e0.hok.fresh (Nat.le_refl _), fun y c e => ?_, fun q hq => (nomatch (show q ∈ ([] : List (Addr × Obj)) ++ [] from hq)), e0.hok.kept kp, J.len⟩
  · have e1 : X.N[i]? = some y := e1
    rcases (show Vis scope y from e3) with k | k | k
    · exact ((l.own _ (PySem.mem_of_lookup k)).2 rfl (List.mem_iff_getElem?.mpr ⟨i, e1⟩)).elim
    · exact ((l.own _ (PySem.mem_of_lookup k)).1 rfl).elim
    · obtain ⟨m0, _, hl⟩ := J.loc
      have vis : Vis X.env.scope y := (l.free _ (PySem.mem_of_lookup k) rfl).elim (fun k => .inr (.inl k)) fun k => .inr (.inr k)
      obtain ⟨u, r, q⟩ := hl i y v e1 e2 vis
      obtain ⟨c2, q2⟩ := there k
      refine ⟨u, r, .inr ⟨.inr k, c2, q2, ?_⟩⟩
      have q1 := look q2
      rcases q with ⟨k1, _⟩ | ⟨_, c3, e', z⟩
      · have k1 : X.env.scope.names.lookup y = some .local := k1
        rcases l.free _ (PySem.mem_of_lookup k) rfl with k2 | k2 <;> rw [show X.env.scope.names.lookup y = _ from k2] at k1 <;> cases k1
      · rw [q1] at e'; cases e'
        exact cellK (J.freeC y _ q1) z
  · obtain ⟨u, z⟩ := J.cell y c (look e)
    exact ⟨u, cellK (J.freeC y c (look e)) z⟩
  · obtain ⟨v, o, ho, _⟩ := J.cell y c (look e)
    exact un.free c o ho (J.freeC y c (look e)) (by simp)
/-- its arguments bind: none, or the default -/
theorem lam_binds {params : Arguments} {ps : List (Str × Int)} {body : Expr} {scope : Scope} {cl : List (Str × Addr)} {q : Str} {dV doc pm cd ct : Value} {P : Program} {w : World} {H : Hp} {s : Shared} (hp : lamPar params = some ps) (dv : DvAt H dV (ps.map (·.2))) (hok : L2.HOk P w H s.heap) :
    ∃ bs : List (Str × Value), BindsTo s (PySem.W.kdv_fn "<lambda>" q params (.expr body) scope cl dV doc pm cd ct) ⟨[], []⟩ bs ∧ ∀ y ∈ bs, ∃ p ∈ ps, p.1 = y.1 := by
  rcases lamPar_at hp with ⟨rfl, rfl⟩ | ⟨a, an, ap, i, k, cp, rfl, rfl⟩
  · have dv : dV = .none := dv
    subst dv
    exact ⟨[], .of_eq rfl, fun y hy => (nomatch hy)⟩
  · obtain ⟨t, rfl, ht⟩ := dv
    obtain ⟨_, its, rv, ⟨o, ho, _, n, hd⟩⟩ := hok t _ ht
    have rv : Vals [.int i] its := rv
    cases rv with
    | cons r rr =>
      cases rr
      obtain ⟨t', rfl⟩ := r
      exact ⟨[(a, .int i t')], BindsTo.of_defaults rfl ho hd rfl (by simp [List.lookup]), fun y hy => ⟨(a, i), by simp, by
        have : y = (a, .int i t') := List.mem_singleton.mp hy
        rw [this]⟩⟩
/-- x(), in the def that got the lambda -/
theorem pe_run {T : List (Addr × Str)} {Eg : XK} {Ng : List Str} {qg : Str} {sg : Scope} {g f c' : Addr} {cdg dV : Value} {params : Arguments} {ps : List (Str × Int)} {body : Expr} {scope : Scope} {k i : Nat} {a : Str} {pn : List (Addr × Obj)} {xe : Value → Shared → Prop} {W : L2.WX} {E : XK} {tb : TE} {p1 p2 : Pos} {H0 : Hp}
    (M : Made X pins σ T H0 params body scope dV f c' H s) (l : LamW X.N X.env.scope scope ps) (hp : lamPar params = some ps) {CXg : L2.CXT}
    (tk : L2.Takes ((L2.cxOf CXg X.prog X.w X.K X.mg X.base Ng qg sg g cdg X.A X.stack s H Eg).tr pn xe) W) (hW : ∀ cls d σ' H', E cls d H' → W cls d σ' H') (hr : Room (k + 1) (X.A.deeper (envOfC qg sg s.heap.objs.size g cdg)))
    (hb : ∀ (A : Around) (outer : List Env) (s : Shared) (H : Hp), Room k (A.deeper (lamEnv X scope s.heap.objs.size f c')) → PE (lamCx X A outer s H E scope f c') body tb)
    (hN : Ng[i]? = some a) (hv : Vis sg a) (hd : (a == ("__debug__" : Str)) = false) (hcd : (a == ("__classdict__" : Str)) = false) :
    PE ((L2.cxOf CXg X.prog X.w X.K X.mg X.base Ng qg sg g cdg X.A X.stack s H Eg).tr pn xe) (.Call (.Name a p1) [] [] p2)
      (fun σZ HZ Q => σZ[i]? = some (some (.ref f)) ∧ HZ c' = some (CodeO c' (lamQ X)) ∧ DvAt HZ dV (ps.map (·.2)) ∧ tb σ HZ Q) := by
  refine ⟨fun pinsZ sZ σZ HZ Q JZ ⟨hs, hc, hdv, ht⟩ => ?_⟩
  refine wpAny_Call_Name_kw (thn ((L2.pe_var (pos := p1) (i := i) hN hv hd hcd).run pinsZ sZ σZ HZ (fun v H1 => v = .ref f ∧ H1 = HZ) JZ ⟨.ref f, hs, rfl, rfl⟩) fun u s1 ⟨v, H1, J1, r1, ev, eH⟩ => ?_)
  subst ev
  rw [eH] at J1
  obtain rfl : u = Value.ref f := r1
  obtain ⟨doc, pm, ctv, hf⟩ := M.obj
  have of1 : s1.heap.get? f = some (lamO X params body scope dV doc pm c' ctv) := J1.base.keep f _ hf M.free M.nofr fun z => nomatch (show f ∈ ([] : List Addr) from z)
  refine PySem.W.callWith_F0 ⟨_, _, _, _, of1⟩ ?_
  have un : Un (frs X.stack) [] H HZ s.heap s1.heap := J1.base
  obtain ⟨⟨oc, vs, t, hoc, hdc, hvc⟩, _, _⟩ := J1.hok c' _ hc
  obtain ⟨bs, hbind, hloc⟩ := lam_binds (body := body) (scope := scope) (cl := L2.cloFrom X.env.cells scope.names []) (q := lamQ X) (doc := doc) (pm := pm) (cd := .ref c') (ct := ctv) hp hdv J1.hok
  have rc : codeAny (model X.prog X.w) (X.A.deeper (envOfC qg sg s.heap.objs.size g cdg)) (.call (.ref f) ⟨[], []⟩) (L2.CR (L2.CX X.prog X.w) (envOfC qg sg s.heap.objs.size g cdg :: X.stack) X.prog X.w HZ s1 Q E) s1 := by
    refine PySem.W.kla_callFunE hr.depth of1 rfl l.co l.gen rfl ⟨c', oc, vs, t, rfl, hoc, hdc, hvc⟩ (hbind _ _ _ _ ?_)
    refine wpAny_newFunctionEnv (fun y hy => (l.own y hy).1) (fun y hy => by
      obtain ⟨p, hp1, hp2⟩ := hloc y hy
      rw [← hp2]; exact l.par p hp1) (fun g1 hns hsb => ⟨J1.nolimit.fresh _ hsb, ?_⟩) l.kind
    show codeAny _ _ (.expr body (lamEnv X scope s1.heap.objs.size f c')) _ _
    have kp : ∀ b o, s1.heap.get? b = some o → g1.get? b = some o := fun b o e => hsb.extBut b o (Nat.ne_of_lt (Heap.lt_size e)) (Heap.get?_push_of_some _ e)
    have K1 : Inv (lamCx X (X.A.deeper (envOfC qg sg s.heap.objs.size g cdg)) (envOfC qg sg s.heap.objs.size g cdg :: X.stack) s1 HZ E scope f c') [] σ HZ { s1 with heap := g1, toks := s1.toks + bs.length } :=
      lam_in M.inv l J1.env0 hr.hd un hns kp
    refine PySem.W.kla_codeExpr (wpAny_mono ((hb _ _ s1 HZ (hr.deeper _)).run [] _ _ HZ Q K1 ht) (fun v s' ⟨w', H', J', rv, q⟩ => ⟨w', H', J'.os, J'.bare, J'.base, J'.hok, rv, q⟩) fun e s' hq => hq)
  have hx : L2.Passes (L2.CX X.prog X.w) ((L2.cxOf CXg X.prog X.w X.K X.mg X.base Ng qg sg g cdg X.A X.stack s H Eg).tr pn xe) E := L2.passes_call tk hW
  refine wpAny_call (codeAny_mono rc fun r s' hq => ?_)
  cases r with
  | error e => exact hx pinsZ σZ HZ s1 e s' J1 hq
  | ok fl =>
    cases fl with
    | ret u => exact J1.after hq
    | _ => exact False.elim hq
end
section
variable {X : L2.Cx} {Pg : Prog} {T : List (Addr × Str)} {W : L2.WX} {I : Cx} {n : Nat} {N : List Str} {S : Names}
theorem Step.ext {w : Wd} {h : Hh} {H H1 : Hp} (e : ExtN H H1) (th : ∀ b o, H b = some o → ∃ o', H1 b = some o') : Step w h H w h H1 :=
  ⟨fun _ _ q => q, fun _ q => q, fun _ q => .inl q, fun _ => rfl, fun b o q nt _ => e b o q nt, th, fun _ q => .inl q⟩
theorem HRel.ext {w : Wd} {h : Hh} {H H1 : Hp} (r : HRel X.K T w h H) (e : ExtN H H1) (th : ∀ b o, H b = some o → ∃ o', H1 b = some o') (t : Tabs T H1) : HRel X.K T w h H1 where
  cell := fun m o q => by
    obtain ⟨a, i, c⟩ := r.cell m o q
    by_cases hr : real o = true
    · refine ⟨a, i, c.step (Step.ext e th) r ?_⟩
      rcases r.ownK ⟨m, o, q, hr, i⟩ with ⟨_, z⟩ | ⟨_, z⟩ <;> (rw [z]; exact e _ _ z fun _ y => by cases y)
    · cases o with
      | opq => exact ⟨a, i, trivial⟩
      | _ => exact (hr rfl).elim
  dom := r.dom
  inj := r.inj
  nofz := r.nofz
  fzt := fun a f => let ⟨vs, q⟩ := r.fzt a f; ⟨vs, e _ _ q fun _ z => by cases z⟩
  kp := fun b o q => let ⟨k1, k2, k3⟩ := r.kp b o q; ⟨e _ _ k1 k2, k2, k3⟩
  tabs := t
theorem lamW_of (g : Gd Pg T n N S X) {scope : Scope} {params : Arguments} (hb : lamB N S scope params = true) : ∃ ps, lamPar params = some ps ∧ LamW X.N X.env.scope scope ps := by
  unfold lamB at hb
  obtain ⟨hb, o5⟩ := and2 hb
  obtain ⟨hb, o4⟩ := and2 hb
  obtain ⟨hb, o3⟩ := and2 hb
  obtain ⟨o1, o2⟩ := and2 hb
  cases z : lamPar params with
  | none => rw [z] at o5; cases o5
  | some ps =>
    rw [z] at o5
    have key : ∀ y ∈ scope.names, (¬ y.2 = .cell ∧ (¬ y.2 = .local ∨ y.1 ∉ N)) ∧ ((¬ y.2 = .free ∨ S.lookup y.1 = some .cell) ∨ S.lookup y.1 = some .free) := fun y hy => by
      have q := List.all_eq_true.mp o4 y hy
      simpa only [Bool.and_eq_true, Bool.or_eq_true, Bool.not_eq_true', decide_eq_true_eq, decide_eq_false_iff_not] using q
    refine ⟨ps, rfl, of_decide_eq_true o1, by simpa using o2, by simpa using o3, fun y hy => ⟨(key y hy).1.1, fun e => by rw [g.hN]; exact (key y hy).1.2.resolve_left fun q => q e⟩, fun y hy e => ?_, fun p hp => of_decide_eq_true (List.all_eq_true.mp o5 p hp)⟩
    rcases (key y hy).2 with (q | q) | q
    · exact (q e).elim
    · rcases g.nm _ _ q with z | ⟨z, _⟩
      · exact .inl z
      · cases z
    · rcases g.nm _ _ q with z | ⟨_, z⟩
      · exact .inr z
      · exact .inl z
theorem run_deep {Pg : Prog} {n j : Nat} (h : 2 ≤ n) : run Pg n (j + 2) = run Pg (n - 2) j := by
  rw [run_at Pg n (j + 2), run_at Pg (n - 2) j]
  congr 1
  omega
theorem Gd.lamb (g : Gd Pg T n N S X) {scope : Scope} {params : Arguments} (nl : scope.names ≠ Pg.lamS) (hb : lamB N S scope params = true) (h2 : 2 ≤ n) {A : Around} {outer : List Env} {s : Shared} {H : Hp} {E : XK} {f c' : Addr} (hr : Room (n - 2) (A.deeper (lamEnv X scope s.heap.objs.size f c'))) :
    Gd Pg T (n - 2) N scope.names (lamCx X A outer s H E scope f c') where
  hN := g.hN
  nd := g.nd
  nm := fun x k e => .inl e
  fnl := fun x e => by
    obtain ⟨ps, _, l⟩ := lamW_of g hb
    exact ((l.own _ (PySem.mem_of_lookup e)).1 rfl).elim
  calm := rfl
  room := hr
  free := g.free
  con := g.con
  fns := fun j f F e => by
    have := g.fns (j + 2) f F e
    have e2 : n - 2 - j = n - (j + 2) := by omega
    rw [e2]; exact this
  exs := g.exs
  sub := g.sub
  told := fun f x h => ⟨(g.told f x h).ex⟩
  lam := fun e => (nl e.symm).elim
theorem f_told (g : Gd Pg T n N S X) (io : IOk Pg n I) {t x : Nat} {body : E} {f : Str} {params : Arguments} {b : Expr} {scope : Scope} {p lpos pos : Pos} (ht : Pg.told[t]? = some (f, x)) (gl : isGlo S f = true) (hS : Pg.lamS = S) (nl : scope.names ≠ Pg.lamS) (hb : lamB N S scope params = true)
    (hx : ∀ {m : Nat} {X' : L2.Cx} {W' : L2.WX} {I' : Cx}, Gd Pg T m N scope.names X' → IOk Pg m I' → L2.Takes X' W' → PE X' b (tI Pg T X' W' I' body)) : PE X (.Call (.Name f p) [.Lambda params b scope lpos] [] pos) (tI Pg T X W I (.told t x body)) := by
  obtain ⟨gA, oc, od, pg, sg, dV, kV, doc, pm, an, cdv, ct, osl, a, e, nm, j, j2, q1, q2, q3, q4, q5, q6, q7, q8, q9, q10, k1, k2, k3, k4, k5, k6, k7, k8, k9, k10, k11, k12, k13⟩ := (g.told f x (List.mem_iff_getElem?.mpr ⟨t, ht⟩)).ex
  obtain ⟨c, P, hcode, TB, hm, hu⟩ := g.lam hS
  obtain ⟨ps, hp, l⟩ := lamW_of g hb
  obtain ⟨C, x1, x2, _⟩ := g.exs x nm k10
  refine ⟨fun pins s σ H Q J ⟨w, h, ρ, r, en, d⟩ => ?_⟩
  have d : Does X.K T (Rep X.K) (WxOf Pg X W σ) w h H (if 2 ≤ I.n then toldR I.sub x (evalE { I with n := I.n - 2, C := fun j => I.C (j + 2) } body ρ h) else .stuck) Q := d
  by_cases hn : ¬ 2 ≤ I.n
  · rw [if_neg hn] at d; exact d.elim
  have h2 := Decidable.not_not.mp hn
  rw [if_pos h2] at d
  rw [io.nn] at h2
  have io2 : IOk Pg (n - 2) { I with n := I.n - 2, C := fun j => I.C (j + 2) } := ⟨by show I.n - 2 = n - 2; rw [io.nn], io.con, fun j => by
    show I.C (j + 2) = _
    rw [io.C, run_deep h2], io.sub⟩
  refine wpAny_Call_Name_kw (L2.ld_glob J (g.glo gl).1 k1 ?_ (g.glo gl).2)
  refine PySem.W.callWith_K (h₀ := X.base) J.ok.mod.kin k2 ?_ (by rfl) (by rfl)
  show wpAny _ _ (spliced ((false, eval (.Lambda params b scope lpos) X.env) :: backTo pos (starEach [] X.env))) _ _ s
  refine Calls.spliced_cons (lam_mk J TB hcode hm hu r.tabs hp (l.has J.ok) fun fA c' dv H1 s' M hdv => ?_)
  refine Calls.spliced_nil ⟨M.inv.kIn, ?_⟩
  have st := Step.ext (w := w) (h := h) M.ext M.there
  have r1 := r.ext M.ext M.there M.tabs
  have en1 := en.step st r
  have hr2 : Room (n - 2 + 2) X.A := by
    have : n - 2 + 2 = n := by omega
    rw [this]; exact g.room
  have rc : codeAny (model X.prog X.w) X.A (.call (.ref gA) ⟨[.ref fA], []⟩) (L2.CR C8.CX0 X.stack X.prog X.w H1 s' Q C8.E0) s' := by
    refine LamX.run_ofS (N := [a, e]) (ps := [a]) (us := [.ref fA]) (vs := [.ref fA]) k3 k4 k6 hr2 M.inv.env0 (k5 s' [.ref fA] M.inv.kIn rfl) (.cons rfl .nil) rfl fun hr' => ?_
    have gle : L2.Gl (L2.cxOf C8.CX0 X.prog X.w X.K X.mg X.base [a, e] f sg gA cdv X.A X.stack s' H1 C8.E0).nox nm := k9
    refine ⟨_, (L2.pss_cons (L2.ps_try_as (X := (L2.cxOf C8.CX0 X.prog X.w X.K X.mg X.base [a, e] f sg gA cdv X.A X.stack s' H1 C8.E0).nox) (i := 1) (c := .ref C) (Wout := W0)
      (tb := fun W' D σ' H' => ∃ Ech : XK, (∀ cls d σ' H', Ech cls d H' → W' cls d σ' H') ∧ σ'[0]? = some (some (.ref fA)) ∧ H' c' = some (CodeO c' (lamQ X)) ∧ DvAt H' dv (ps.map (·.2)) ∧ tI Pg T X (fun cls d _ H => Ech cls d H) { I with n := I.n - 2, C := fun j => I.C (j + 2) } body σ H' fun _ H2 => D.nx σ' H2)
      (ts := fun _ _ _ => L2.tRet (L2.tC (.bl true))) rfl rfl k6.nd rfl k8 ⟨gle, k13, .inl x1⟩ L2.takes0 (fun W' pn xe tk' po => ?_) fun a oe cls d pn _ _ => L2.pss_one (L2.ps_ret L2.pe_bl)) (L2.pss_one (L2.ps_ret L2.pe_bl))).nox, ?_⟩
    · refine ⟨fun pinsZ sZ σZ HZ DZ JZ ⟨Ech, hW, z1, z2, z3, z4⟩ => ?_⟩
      have hp2 := pe_run (tb := tI Pg T X (fun cls d _ H => Ech cls d H) { I with n := I.n - 2, C := fun j => I.C (j + 2) } body) (CXg := C8.CX0) (Eg := C8.E0) (Ng := [a, e]) (p1 := q1) (p2 := q2) (i := 0) (E := Ech) (k := n - 2) M l hp tk' hW hr' (fun A outer s2 H2 hr3 => hx (W' := fun cls d _ H => Ech cls d H) (I' := { I with n := I.n - 2, C := fun j => I.C (j + 2) }) (g.lamb nl hb h2 (A := A) (outer := outer) (s := s2) (H := H2) (E := Ech) (f := fA) (c' := c') hr3) io2 (L2.takes_of (X := lamCx X A outer s2 H2 Ech scope fA c') rfl rfl rfl rfl)) (show ([a, e] : List Str)[0]? = some a from rfl) k7 k11 k12
      exact (L2.pss_one (L2.ps_expr (pos := q3) hp2 rfl)).run pinsZ sZ σZ HZ DZ JZ ⟨z1, z2, z3, z4⟩
    · refine ⟨fun cls d H' => L2.wAs X.K (.ref C) 1 (fun _ _ _ => L2.tRet (L2.tC (.bl true))) W0 { nx := fun σ1 H1 => L2.tRet (L2.tC (.bl false)) { nx := fun _ H' => Q .non H', rt := Q } σ1 H1, rt := Q } cls d (L2.start [a, e] [.ref fA]) H', ?_, rfl, M.code, hdv, w, h, ρ, r1, en1, ?_⟩
      · intro cls d σ' H' ⟨b', w1, w2, w3⟩
        exact ⟨b', w1, fun tb aa ha => w2 tb aa ha, fun fb => w3 fb⟩
      · cases z : evalE { I with n := I.n - 2, C := fun j => I.C (j + 2) } body ρ h with
        | stuck => rw [z] at d; exact d.elim
        | ok v h3 => rw [z] at d; exact fun w' H' u s3 r3 _ => d w' H' (.bl false) (st.trans s3) r3 rfl
        | exc y h3 =>
          rw [z] at d
          have d : Does X.K T (Rep X.K) (WxOf Pg X W σ) w h H (if I.sub y.cls x then .ok (.bl true) h3 else .stuck) Q := d
          intro w' H' s3 r3 cls dd ⟨y1, y2, nm', C', y3, y4, y5⟩
          subst y5
          refine ⟨_, g.sub _ _ _ _ _ _ y3 k10 y4 x1, fun tt aa ha => ?_, fun ff => ?_⟩
          · rw [io.sub, if_pos tt] at d
            exact d w' H' (.bl true) (st.trans s3) r3 rfl
          · rw [io.sub, if_neg (by rw [ff]; simp)] at d
            exact d.elim
  refine wpAny_call (codeAny_mono rc fun r' s2 hq => ?_)
  cases r' with
  | error e => exact (show False from hq).elim
  | ok fl =>
    cases fl with
    | ret u => exact M.inv.after hq
    | _ => exact False.elim hq
end
end Ir

set_option Elab.async false
set_option linter.all false
set_option maxRecDepth 100000
set_option maxHeartbeats 4000000
/-! Ir19: an expression that the check takes does what the interpreter says. -/
namespace Ir
open PySem PySem.Spec PyProof.Rows
open L2 (V Hp HO TE TT TA TS VK SqL SqT Rd upd upd_same upd_ne ne_of ne_of_none valV Inv OpR UnR CallR MtR IxR SlR TruR R2 EP Vals RelV PE PT PA PW PC PO PG PGs PI thn AP Itl Itt Itr Its Ite Itz)
def isBool : Expr → Bool
  | .BoolOp .. => true
  | _ => false
/-- an expression: as a value, as a test -/
structure SE (Pg : Prog) (T : List (Addr × Str)) (X : L2.Cx) (W : L2.WX) (I : Cx) (e : E) (x : Expr) : Prop where
  pe : PE X x (tI Pg T X W I e)
  pt : PT X x (tB Pg T X W I e)
  pw : isBool x = true → PW X x (tB Pg T X W I e)
section
variable {X : L2.Cx} {Pg : Prog} {T : List (Addr × Str)} {W : L2.WX} {I : Cx} {n : Nat} {N : List Str} {S : Names}
/-- no test -/
theorem SE.val {e : E} {x : Expr} (p : PE X x (tI Pg T X W I e)) (hb : ∀ ρ h, evalB I e ρ h = .stuck) : SE Pg T X W I e x :=
  have no : ∀ {σ H Q}, ¬ tB Pg T X W I e σ H Q := fun ⟨w, h, ρ, r, en, d⟩ => by rw [hb] at d; exact d
  ⟨p, ⟨fun _ _ _ _ _ _ q => (no q).elim⟩, fun _ => ⟨fun _ _ _ _ _ _ _ q => (no q).elim⟩⟩
/-- tested by its truth -/
theorem SE.tru {e : E} {x : Expr} (p : PE X x (tI Pg T X W I e)) (bt : byTruth x = true) (nb : isBool x = false) (hb : ∀ ρ h, evalB I e ρ h = truR (evalE I e ρ h)) : SE Pg T X W I e x :=
  ⟨p, b_plain p bt hb, fun z => by rw [nb] at z; cases z⟩
theorem SE.cmp {e : E} {x : Expr} (p : PE X x (tI Pg T X W I e)) (q : PT X x (tB Pg T X W I e)) (nb : isBool x = false) : SE Pg T X W I e x := ⟨p, q, fun z => by rw [nb] at z; cases z⟩
theorem SE.and {a b : E} {x y : Expr} {r : List Expr} {pos : Pos} (pa : SE Pg T X W I a x) (pb : match r with
    | [] => SE Pg T X W I b y
    | _ => SE Pg T X W I b (.BoolOp .And (y :: r) pos)) : SE Pg T X W I (.and_ a b) (.BoolOp .And (x :: y :: r) pos) := by
  have q : PE X (.BoolOp .And (y :: r) pos) (tI Pg T X W I b) ∧ PW X (.BoolOp .And (y :: r) pos) (tB Pg T X W I b) := by
    cases r with
    | nil => exact ⟨L2.pe_one pb.pe, L2.pw_and1 pb.pt⟩
    | cons z r => exact ⟨pb.pe, pb.pw rfl⟩
  have w := b_and pa.pt q.2
  exact ⟨f_and pa.pe q.1, w.pt, fun _ => w⟩
theorem SE.or {a b : E} {x y : Expr} {r : List Expr} {pos : Pos} (pa : SE Pg T X W I a x) (pb : match r with
    | [] => SE Pg T X W I b y
    | _ => SE Pg T X W I b (.BoolOp .Or (y :: r) pos)) : SE Pg T X W I (.or_ a b) (.BoolOp .Or (x :: y :: r) pos) := by
  have q : PE X (.BoolOp .Or (y :: r) pos) (tI Pg T X W I b) ∧ PW X (.BoolOp .Or (y :: r) pos) (tB Pg T X W I b) := by
    cases r with
    | nil => exact ⟨L2.pe_one pb.pe, L2.pw_or1 pb.pt⟩
    | cons z r => exact ⟨pb.pe, pb.pw rfl⟩
  have w := b_or pa.pt q.2
  exact ⟨f_or pa.pe q.1, w.pt, fun _ => w⟩
/-- an operation, by the form of its text -/
theorem SE.prim (g : Gd Pg T n N S X) {p : P} {es : L} {x : Expr} (ih : ∀ xs, okL Pg N S es xs = true → PEs Pg T X W I es xs) (ok : okE Pg N S (.prim p es) x = true) : SE Pg T X W I (.prim p es) x := by
  unfold okE at ok
  obtain ⟨ns, ok⟩ := and2 ok
  have hb : ∀ ρ h, evalB I (.prim p es) ρ h = truR (evalE I (.prim p es) ρ h) := fun _ _ => rfl
  split at ok
  · obtain ⟨o1, o2⟩ := and2 ok
    exact .tru (f_bin o1 (ih _ o2) ns) rfl rfl hb
  · obtain ⟨o1, o2⟩ := and2 ok
    have o1 : p = .neg := of_decide_eq_true o1
    subst o1
    exact .tru (f_neg (ih _ o2) ns) rfl rfl hb
  · obtain ⟨o1, o3⟩ := and2 ok
    obtain ⟨o1, o2⟩ := and2 o1
    have o1 : p = .isN := of_decide_eq_true o1
    exact .cmp ((f_none o2 (ih _ o3) ns).1 o1) ((b_none o2 (ih _ o3) ns).1 o1) rfl
  · obtain ⟨o1, o3⟩ := and2 ok
    obtain ⟨o1, o2⟩ := and2 o1
    have o1 : p = .notN := of_decide_eq_true o1
    exact .cmp ((f_none o2 (ih _ o3) ns).2 o1) ((b_none o2 (ih _ o3) ns).2 o1) rfl
  · obtain ⟨o1, o3⟩ := and2 ok
    obtain ⟨o1, o2⟩ := and2 o1
    exact .cmp (f_cmp g o1 o2 (ih _ o3) ns) (b_cmp g o1 o2 (ih _ o3) ns) rfl
  · obtain ⟨o1, o3⟩ := and2 ok
    obtain ⟨o1, o2⟩ := and2 o1
    have o1 : p = .idx := of_decide_eq_true o1
    subst o1
    exact .tru (f_ix o2 (ih _ o3) ns) rfl rfl hb
  · obtain ⟨o1, o3⟩ := and2 ok
    obtain ⟨o1, o2⟩ := and2 o1
    split at o3
    · obtain ⟨k3, o4⟩ := and2 o3
      split at o4
      · obtain ⟨o4, o5⟩ := and2 o4
        exact .tru (f_isa g (of_decide_eq_true k3) o1 o2 o4 (ih _ o5) ns) rfl rfl hb
      · cases o4
    · obtain ⟨k3, o4⟩ := and2 o3
      split at o4
      · obtain ⟨o4, o5⟩ := and2 o4
        obtain ⟨o4, o6⟩ := and2 o4
        obtain ⟨o4, o7⟩ := and2 o4
        refine .tru (f_isas g (of_decide_eq_true k3) o1 o2 ?_ (of_decide_eq_true o7) o6 (ih _ o5) ns) rfl rfl hb
        intro z; rw [z] at o4; cases o4
      · cases o4
    · split at o3
      · rename_i q
        obtain ⟨o3, o5⟩ := and2 o3
        obtain ⟨o3, o4⟩ := and2 o3
        have o3 : _ = _ := of_decide_eq_true o3
        subst o3
        exact .tru (f_blt g q (of_decide_eq_true o4) o1 o2 (ih _ o5) ns) rfl rfl hb
      · cases o3
  · cases ok
theorem cut_part {f : Bool} {e : E} {l : Option Expr} (ih : ∀ x, okE Pg N S e x = true → PE X x (tI Pg T X W I e)) : (match l with
    | none => !f
    | some l => f && okE Pg N S e l) = true → match l with
    | none => f = false
    | some x => f = true ∧ PE X x (tI Pg T X W I e) := by
  intro o
  cases l with
  | none => simpa using o
  | some l => exact ⟨(and2 o).1, ih _ (and2 o).2⟩
theorem f_fn' (g : Gd Pg T n N S X) (io : IOk Pg n I) (tk : L2.Takes X W) {f : Nat} {es : L} {x : Str} {as : List Expr} {q pos : Pos} (ne : as.isEmpty = false) (hf : (Pg.fns[f]?).map (·.name) = some x) (gl : isGlo S x = true) (ps : PEs Pg T X W I es as) (ns : nonStar es = true) :
    PE X (.Call (.Name x q) as [] pos) (tI Pg T X W I (.call f es)) := by
  cases as with
  | nil => cases ne
  | cons _ _ => exact f_fn g io tk hf gl ps ns
mutual
theorem s_E (e : E) {n : Nat} {S : Names} {X : L2.Cx} {W : L2.WX} {I : Cx} (g : Gd Pg T n N S X) (io : IOk Pg n I) (tk : L2.Takes X W) (x : Expr) (ok : okE Pg N S e x = true) : SE Pg T X W I e x := by
  cases e with
  | var i =>
    unfold okE at ok
    split at ok
    · obtain ⟨o1, o3⟩ := and2 ok
      obtain ⟨o1, o2⟩ := and2 o1
      exact .tru (f_var g (of_decide_eq_true o1) o2 o3) rfl rfl fun _ _ => rfl
    · cases ok
  | cst d =>
    unfold okE at ok
    split at ok
    · exact .val (f_cst ok) fun _ _ => rfl
    · cases ok
  | con k =>
    unfold okE at ok
    split at ok
    · obtain ⟨o1, o2⟩ := and2 ok
      exact .val (f_con g io (of_decide_eq_true o1) o2) fun _ _ => rfl
    · cases ok
  | prim p es => exact .prim g (fun xs o => s_L es g io tk xs o) ok
  | meth p o es =>
    unfold okE at ok
    split at ok
    · obtain ⟨ok, o8⟩ := and2 ok
      obtain ⟨ok, o7⟩ := and2 ok
      obtain ⟨ok, o6⟩ := and2 ok
      obtain ⟨ok, o5⟩ := and2 ok
      obtain ⟨ok, o4⟩ := and2 ok
      obtain ⟨ok, o3⟩ := and2 ok
      obtain ⟨o1, o2⟩ := and2 ok
      exact .tru (f_meth (by simpa using o6) (of_decide_eq_true o1) (s_E o g io tk _ o2).pe o3 (s_L es g io tk _ o4) o5 (of_decide_eq_true o7) o8) rfl rfl fun _ _ => rfl
    · cases ok
  | cut fl fh o lo hi =>
    unfold okE at ok
    split at ok
    · obtain ⟨ok, o3⟩ := and2 ok
      obtain ⟨o1, o2⟩ := and2 ok
      exact .tru (f_cut (s_E o g io tk _ o1).pe (cut_part (fun x q => (s_E lo g io tk x q).pe) o2) (cut_part (fun x q => (s_E hi g io tk x q).pe) o3)) rfl rfl fun _ _ => rfl
    · cases ok
  | and_ a b =>
    unfold okE at ok
    split at ok
    · obtain ⟨o1, o2⟩ := and2 ok
      refine .and (s_E a g io tk _ o1) ?_
      split at o2
      · exact s_E b g io tk _ o2
      · rename_i nn
        rename_i r _ _
        cases r with
        | nil => exact (nn rfl).elim
        | cons _ _ => exact s_E b g io tk _ o2
    · cases ok
  | or_ a b =>
    unfold okE at ok
    split at ok
    · obtain ⟨o1, o2⟩ := and2 ok
      refine .or (s_E a g io tk _ o1) ?_
      split at o2
      · exact s_E b g io tk _ o2
      · rename_i nn
        rename_i r _ _
        cases r with
        | nil => exact (nn rfl).elim
        | cons _ _ => exact s_E b g io tk _ o2
    · cases ok
  | not_ a =>
    unfold okE at ok
    split at ok
    · have q := s_E a g io tk _ ok
      exact .cmp (f_not q.pe) (b_not q.pt) rfl
    · cases ok
  | ite c a b =>
    unfold okE at ok
    split at ok
    · obtain ⟨ok, o3⟩ := and2 ok
      obtain ⟨o1, o2⟩ := and2 ok
      exact .val (f_ite (s_E c g io tk _ o1).pt (s_E a g io tk _ o2).pe (s_E b g io tk _ o3).pe) fun _ _ => rfl
    · cases ok
  | chain p q a b c =>
    unfold okE at ok
    split at ok
    · obtain ⟨ok, o6⟩ := and2 ok
      obtain ⟨ok, o5⟩ := and2 ok
      obtain ⟨ok, o4⟩ := and2 ok
      obtain ⟨ok, o3⟩ := and2 ok
      obtain ⟨o1, o2⟩ := and2 ok
      have z := f_chain (pos := by assumption) g o1 o2 o3 (s_E a g io tk _ o4).pe (s_E b g io tk _ o5).pe (s_E c g io tk _ o6).pe
      exact .cmp z.1 z.2 rfl
    · cases ok
  | tup es =>
    unfold okE at ok
    split at ok
    · exact .val (f_tup (s_L es g io tk _ ok)) fun _ _ => rfl
    · cases ok
  | lst es =>
    unfold okE at ok
    split at ok
    · exact .val (f_lst (s_L es g io tk _ ok)) fun _ _ => rfl
    · cases ok
  | newl es =>
    unfold okE at ok
    split at ok
    · exact .val (f_newl (s_L es g io tk _ ok)) fun _ _ => rfl
    · cases ok
  | newd ks es =>
    unfold okE at ok
    split at ok
    · obtain ⟨ok, o6⟩ := and2 ok
      obtain ⟨ok, o5⟩ := and2 ok
      obtain ⟨ok, o4⟩ := and2 ok
      obtain ⟨ok, o3⟩ := and2 ok
      obtain ⟨o1, o2⟩ := and2 ok
      exact .val (f_newd (s_L es g io tk _ o2) o1 (of_decide_eq_true o5) o3 (by simpa using o4) (of_decide_eq_true o6)) fun _ _ => rfl
    · cases ok
  | dget o k =>
    unfold okE at ok
    split at ok
    · obtain ⟨ok, o3⟩ := and2 ok
      obtain ⟨o1, o2⟩ := and2 ok
      exact .val (f_dget g (s_E o g io tk _ o1).pe (s_E k g io tk _ o2).pe o3) fun _ _ => rfl
    · cases ok
  | dget2 o k z =>
    unfold okE at ok
    split at ok
    · obtain ⟨ok, o8⟩ := and2 ok
      obtain ⟨ok, o7⟩ := and2 ok
      obtain ⟨ok, o6⟩ := and2 ok
      obtain ⟨ok, o5⟩ := and2 ok
      obtain ⟨ok, o4⟩ := and2 ok
      obtain ⟨ok, o3⟩ := and2 ok
      obtain ⟨o1, o2⟩ := and2 ok
      have o1 : _ = _ := of_decide_eq_true o1
      subst o1
      exact .val (f_dget2 g (s_E o g io tk _ o2).pe (s_E k g io tk _ o3).pe (s_E z g io tk _ o4).pe o5 o6 o7 o8) fun _ _ => rfl
    · cases ok
  | din neg k o =>
    unfold okE at ok
    split at ok
    · obtain ⟨ok, o4⟩ := and2 ok
      obtain ⟨ok, o3⟩ := and2 ok
      obtain ⟨o1, o2⟩ := and2 ok
      have z := f_din (pos := by assumption) g o1 (s_E k g io tk _ o3).pe (s_E o g io tk _ o4).pe o2
      exact .cmp z.1 z.2 rfl
    · cases ok
  | call f es =>
    unfold okE at ok
    split at ok
    · obtain ⟨ok, o5⟩ := and2 ok
      obtain ⟨ok, o4⟩ := and2 ok
      obtain ⟨ok, o3⟩ := and2 ok
      obtain ⟨o1, o2⟩ := and2 ok
      exact .tru (f_fn' g io tk (by simpa using o5) (of_decide_eq_true o1) o2 (s_L es g io tk _ o3) o4) rfl rfl fun _ _ => rfl
    · cases ok
  | lc mt own tg src hasIf c elt =>
    unfold okE at ok
    split at ok
    · obtain ⟨ok, o7⟩ := and2 ok
      obtain ⟨ok, o6⟩ := and2 ok
      obtain ⟨ok, o5⟩ := and2 ok
      obtain ⟨ok, o4⟩ := and2 ok
      obtain ⟨ok, o3⟩ := and2 ok
      obtain ⟨ok, o2⟩ := and2 ok
      obtain ⟨o1, o0⟩ := and2 ok
      refine .val (f_lc g (lc_ok g (of_decide_eq_true o0) o2 o3 ?_ fun X' g' tk' => (s_E elt g' io tk' _ o6).pe) (s_G src g io tk _ o4 _ o1) o5) fun _ _ => rfl
      split at o7
      · simpa using o7
      · exact ⟨(and2 o7).1, fun X' g' tk' => (s_E c g' io tk' _ (and2 o7).2).pt⟩
      · cases o7
    · cases ok
  | told t x body =>
    unfold okE at ok
    split at ok
    · obtain ⟨ok, o6⟩ := and2 ok
      obtain ⟨ok, o5⟩ := and2 ok
      obtain ⟨ok, o4⟩ := and2 ok
      obtain ⟨ok, o3⟩ := and2 ok
      obtain ⟨o1, o2⟩ := and2 ok
      exact .tru (f_told g io (of_decide_eq_true o1) o2 (of_decide_eq_true o3) (of_decide_eq_true o4) o5 fun {m X' W' I'} g' io' tk' => (s_E body g' io' tk' _ o6).pe) rfl rfl fun _ _ => rfl
    · cases ok
theorem s_L (e : L) {n : Nat} {S : Names} {X : L2.Cx} {W : L2.WX} {I : Cx} (g : Gd Pg T n N S X) (io : IOk Pg n I) (tk : L2.Takes X W) (xs : List Expr) (ok : okL Pg N S e xs = true) : PEs Pg T X W I e xs := by
  cases e with
  | nil =>
    cases xs with
    | nil => exact .nil
    | cons _ _ => cases ok
  | cons e r =>
    unfold okL at ok
    split at ok
    · obtain ⟨ok, o3⟩ := and2 ok
      obtain ⟨o1, o2⟩ := and2 ok
      exact .cons o1 (s_E e g io tk _ o2).pe (s_L r g io tk _ o3)
    · cases ok
  | star e r =>
    unfold okL at ok
    split at ok
    · obtain ⟨o1, o2⟩ := and2 ok
      exact .star (s_E e g io tk _ o1).pe (s_L r g io tk _ o2)
    · cases ok
theorem s_G (e : G) {n : Nat} {S : Names} {X : L2.Cx} {W : L2.WX} {I : Cx} (g : Gd Pg T n N S X) (io : IOk Pg n I) (tk : L2.Takes X W) (x : Expr) (ok : okG Pg N S e x = true) (t : Expr) (pb : pairB e t = true) : PI X t x (tG Pg T X W I e) := by
  cases e with
  | seq e => exact g_seq (s_E e g io tk _ ok).pe
  | range1 e =>
    unfold okG at ok
    split at ok
    · obtain ⟨ok, o5⟩ := and2 ok
      obtain ⟨ok, o4⟩ := and2 ok
      obtain ⟨ok, o3⟩ := and2 ok
      obtain ⟨o1, o2⟩ := and2 ok
      exact g_range1 g (of_decide_eq_true o1) o2 o3 (s_E e g io tk _ o4).pe o5
    · cases ok
  | range2 a b =>
    unfold okG at ok
    split at ok
    · obtain ⟨ok, o7⟩ := and2 ok
      obtain ⟨ok, o6⟩ := and2 ok
      obtain ⟨ok, o5⟩ := and2 ok
      obtain ⟨ok, o4⟩ := and2 ok
      obtain ⟨ok, o3⟩ := and2 ok
      obtain ⟨o1, o2⟩ := and2 ok
      exact g_range2 g (of_decide_eq_true o1) o2 o3 (s_E a g io tk _ o4).pe (s_E b g io tk _ o5).pe o6 o7
    · cases ok
  | zip a b =>
    cases t <;> first | cases pb | skip
    unfold okG at ok
    split at ok
    · obtain ⟨ok, o7⟩ := and2 ok
      obtain ⟨ok, o6⟩ := and2 ok
      obtain ⟨ok, o5⟩ := and2 ok
      obtain ⟨ok, o4⟩ := and2 ok
      obtain ⟨ok, o3⟩ := and2 ok
      obtain ⟨o1, o2⟩ := and2 ok
      exact g_zip g (of_decide_eq_true o1) o2 o3 (s_E a g io tk _ o4).pe (s_E b g io tk _ o5).pe o6 o7
    · cases ok
  | enum a =>
    cases t <;> first | cases pb | skip
    unfold okG at ok
    split at ok
    · obtain ⟨ok, o5⟩ := and2 ok
      obtain ⟨ok, o4⟩ := and2 ok
      obtain ⟨ok, o3⟩ := and2 ok
      obtain ⟨o1, o2⟩ := and2 ok
      exact g_enum g (of_decide_eq_true o1) o2 o3 (s_E a g io tk _ o4).pe o5
    · cases ok
end
end
end Ir

set_option Elab.async false
set_option linter.all false
set_option maxRecDepth 100000
set_option maxHeartbeats 4000000
/-! Ir20: statements: the check, the plain forms. -/
namespace Ir
open PySem PySem.Spec PyProof.Rows
open L2 (V Hp HO TE TT TA TS VK SqL SqT Rd upd upd_same upd_ne ne_of ne_of_none valV Inv OpR UnR CallR MtR IxR SlR TruR R2 EP Vals RelV PE PT PA PW PC PO PG PGs PI PS PSs thn AP Itl Itt Itr Its Ite Itz)
def notComp : Expr → Bool
  | .ListComp .. => false
  | .SetComp .. => false
  | .DictComp .. => false
  | _ => true
/-- no swapped stores, no comprehension that is used at once -/
def noSwap (S : Names) (tg x : Expr) : Bool := match x with
  | .ListComp _ _ _ _ => (match tg with
    | .Name y _ => decide (S.lookup y = some .cell)
    | .Subscript .. => true
    | _ => false)
  | .SetComp .. => false
  | .DictComp .. => false
  | .Tuple .. => (match tg with
    | .Tuple .. => false
    | .List .. => false
    | _ => true)
  | _ => true
def swapB (S : Names) (tg x : Expr) : Bool := match tg, x with
  | .Name y q, .ListComp _ _ scope p => decide (S.lookup y = some .local) && (q.line == p.line) && !(scope.names.any fun (n, k) => n == y && (k == .local || k == .cell))
  | _, _ => false
def parB (S : Names) (x y : Str) (p q : Pos) (u v : Expr) : Bool := decide (S.lookup x = some .local) && decide (S.lookup y = some .local) && !(x == y) && (q.line == p.line) && notStar u && notStar v && ![u, v].all (foldedForSure 8) && ![u, v].all (constantsAlone 8)
def cstRet : SS → List Stmt → Bool
  | .cons (.ret (.cst d)) .nil, [.Return (some (.Constant c _ _)) _] => cstB d c
  | _, _ => false
section
variable (Pg : Prog) (N : List Str) (S : Names)
mutual
def okS : Ir.S → Stmt → Bool
  | .expr e, st => match st with
    | .Expr x _ => notComp x && okE Pg N S e x
    | _ => false
  | .asg t e, st => match st with
    | .Assign [tg] x _ => okT Pg N S t tg && okE Pg N S e x && (noSwap S tg x || swapB S tg x)
    | _ => false
  | .par i j a b, st => match st with
    | .Assign [.Tuple [.Name x p, .Name y q] _ _] (.Tuple [u, v] _ _) _ => decide (N[i]? = some x) && decide (N[j]? = some y) && parB S x y p q u v && okE Pg N S a u && okE Pg N S b v
    | _ => false
  | .aug i p e, st => match st with
    | .AugAssign (.Name x _) op y _ => decide (N[i]? = some x) && isLoc S x && okE Pg N S e y && (match op with
      | .Add => decide (p = .add)
      | .Sub => decide (p = .sub)
      | _ => false)
    | _ => false
  | .setIx o i e, st => match st with
    | .Assign [.Subscript a b _] x _ => okE Pg N S o a && okE Pg N S i b && notSlice b && okE Pg N S e x && notComp x
    | _ => false
  | .ret e, st => match st with
    | .Return (some x) _ => okE Pg N S e x
    | _ => false
  | .retN, st => match st with
    | .Return none _ => true
    | _ => false
  | .if_ c a b, st => match st with
    | .If x p q _ => okE Pg N S c x && okSS a p && okSS b q
    | _ => false
  | .for_ tg src b, st => match st with
    | .For t iter p [] _ => pairB src t && okT Pg N S tg t && okG Pg N S src iter && notSet iter && okSS b p
    | _ => false
  | .while_ c b, st => match st with
    | .While x p [] _ => okE Pg N S c x && okSS b p
    | _ => false
  | .raise_ x es, st => match st with
    | .Raise (some (.Call (.Name nm _) [.Constant (.str _) _ _] [] _)) none _ => decide (Pg.exs[x]? = some nm) && isGlo S nm
    | _ => false
  | .try_ b x i hd, st => match st with
    | .Try p [.ExceptHandler (some (.Name nm _)) (some v) q _] [] [] _ => okSS b p && decide (Pg.exs[x]? = some nm) && isGlo S nm && decide (N[i]? = some v) && decide (S.lookup v = some .local) && cstRet hd q
    | _ => false
  | .pass_, st => match st with
    | .Pass _ => true
    | _ => false
  | .brk, st => match st with
    | .Break _ => true
    | _ => false
  | .cnt, st => match st with
    | .Continue _ => true
    | _ => false
def okSS : SS → List Stmt → Bool
  | .nil, sts => sts.isEmpty
  | .cons s r, sts => match sts with
    | st :: rest => okS s st && okSS r rest
    | [] => false
end
end
/-! ### readings -/
def DoesS (Pg : Prog) (T : List (Addr × Str)) (X : L2.Cx) (W : L2.WX) (w : Wd) (h : Hh) (H : Hp) (r : SR) (D : L2.Ends) : Prop := match r with
  | .next ρ h' => ∀ w' H' σ', Step w h H w' h' H' → HRel X.K T w' h' H' → EnvR X.K w' H' ρ σ' → D.nx σ' H'
  | .brk ρ h' => ∀ w' H' σ', Step w h H w' h' H' → HRel X.K T w' h' H' → EnvR X.K w' H' ρ σ' → D.bk σ' H'
  | .cnt ρ h' => ∀ w' H' σ', Step w h H w' h' H' → HRel X.K T w' h' H' → EnvR X.K w' H' ρ σ' → D.ct σ' H'
  | .ret d h' => ∀ w' H' v, Step w h H w' h' H' → HRel X.K T w' h' H' → Rep X.K w' H' d v → D.rt v H'
  | .exc x ρ h' => ∀ w' H' σ', Step w h H w' h' H' → HRel X.K T w' h' H' → EnvR X.K w' H' ρ σ' → WxOf Pg X W σ' x w' H'
  | .stuck => False
def tS (Pg : Prog) (T : List (Addr × Str)) (X : L2.Cx) (W : L2.WX) (f : Rho → Hh → SR) : TS := fun D σ H => ∃ w h ρ, HRel X.K T w h H ∧ EnvR X.K w H ρ σ ∧ DoesS Pg T X W w h H (f ρ h) D
section
variable {X : L2.Cx} {Pg : Prog} {T : List (Addr × Str)} {W : L2.WX} {I : Cx} {n : Nat} {N : List Str} {S : Names}
theorem psImp {st : Stmt} {t t' : TS} (p : PS X st t) (i : ∀ D σ H, t' D σ H → t D σ H) : PS X st t' := ⟨fun pins s σ H D I h => p.run pins s σ H D I (i _ _ _ h)⟩
theorem pssImp {st : List Stmt} {t t' : TS} (p : PSs X st t) (i : ∀ D σ H, t' D σ H → t D σ H) : PSs X st t' := ⟨fun pins s σ H D I h => p.run pins s σ H D I (i _ _ _ h)⟩
theorem DoesS.from {w w1 : Wd} {h h1 : Hh} {H H1 : Hp} {r : SR} {D : L2.Ends} (s : Step w h H w1 h1 H1) (d : DoesS Pg T X W w h H r D) : DoesS Pg T X W w1 h1 H1 r D := by
  cases r with
  | next ρ h' => exact fun w' H' σ' st => d w' H' σ' (s.trans st)
  | brk ρ h' => exact fun w' H' σ' st => d w' H' σ' (s.trans st)
  | cnt ρ h' => exact fun w' H' σ' st => d w' H' σ' (s.trans st)
  | ret ρ h' => exact fun w' H' σ' st => d w' H' σ' (s.trans st)
  | exc x ρ h' => exact fun w' H' σ' st => d w' H' σ' (s.trans st)
  | stuck => exact d
/-- an expression ahead -/
theorem toS_up {α β : Type} {rel : Wd → Hp → α → β → Prop} {r : R α} {ρ : Rho} {f : α → Hh → SR} {σ : L2.St} {w : Wd} {h : Hh} {H : Hp} {D : L2.Ends} (hr : HRel X.K T w h H) (en : EnvR X.K w H ρ σ) (d : DoesS Pg T X W w h H (r.toS ρ f) D) :
    Does X.K T rel (WxOf Pg X W σ) w h H r fun x H1 => ∃ w1 h1 a, HRel X.K T w1 h1 H1 ∧ EnvR X.K w1 H1 ρ σ ∧ rel w1 H1 a x ∧ DoesS Pg T X W w1 h1 H1 (f a h1) D := by
  cases r with
  | ok a h' => exact fun w' H' v st r' p => ⟨w', h', a, r', en.step st hr, p, DoesS.from st d⟩
  | exc x h' => exact fun w' H' st r' => d w' H' σ st r' (en.step st hr)
  | stuck => exact d.elim
theorem swaps_plain {e : Expr} {t : Option Expr} {l : Nat} {env : Env} (h : notComp e = true) : swapsWith e t l env = pure false := by
  cases e <;> first | rfl | cases h
theorem noSwap_sw (g : Gd Pg T n N S X) {tg x : Expr} {l : Nat} (h : noSwap S tg x = true) : swapsWithSole [tg] x l X.env = pure false ∧ swappedStores [tg] x X.env = pure none := by
  refine ⟨?_, ?_⟩
  · show swapsWith x (some tg) l X.env = pure false
    by_cases hc : notComp x = true
    · exact swaps_plain hc
    · cases x <;> first | exact (hc rfl).elim | skip
      · cases tg <;> first | cases h | skip
        · rfl
        · rename_i y q
          have e : S.lookup y = some .cell := of_decide_eq_true h
          have k : X.env.kindOf y = some .cell := by
            rcases g.nm _ _ e with z | ⟨z, _⟩
            · exact z
            · cases z
          unfold swapsWith
          simp only [k]
          show (pure (X.env.blockKind == .function && (some NameKind.cell == some NameKind.local) && _ && _) : Sem Bool) = pure false
          have : (some NameKind.cell == some NameKind.local) = false := by decide
          rw [this, Bool.and_false, Bool.false_and, Bool.false_and]
      · cases h
      · cases h
  · cases x <;> first | rfl | skip
    · cases tg <;> first | rfl | cases h
    all_goals cases tg <;> first | rfl | cases h
end
end Ir

set_option Elab.async false
set_option linter.all false
set_option maxRecDepth 100000
set_option maxHeartbeats 4000000
/-! Ir21: the forms of statements. -/
namespace Ir
open PySem PySem.Spec PyProof.Rows
open L2 (V Hp HO TE TT TA TS VK SqL SqT Rd upd upd_same upd_ne ne_of ne_of_none valV Inv OpR UnR CallR MtR IxR SlR TruR R2 EP Vals RelV PE PT PA PW PC PO PG PGs PI PS PSs thn AP Itl Itt Itr Its Ite Itz)
section
variable {X : L2.Cx} {Pg : Prog} {T : List (Addr × Str)} {W : L2.WX} {I : Cx} {n F : Nat} {N : List Str} {S : Names}
theorem p_expr {e : E} {x : Expr} {pos : Pos} (nc : notComp x = true) (pe : PE X x (tI Pg T X W I e)) : PS X (.Expr x pos) (tS Pg T X W (execS I F (.expr e))) :=
  psImp (L2.ps_expr pe (swaps_plain nc)) fun D σ H ⟨w, h, ρ, r, en, d⟩ =>
    ⟨w, h, ρ, r, en, Does.imp (toS_up (rel := Rep X.K) r en d) fun v H1 ⟨w1, h1, a, r1, en1, p1, d1⟩ => d1 w1 H1 σ Step.refl r1 en1⟩
theorem asg_in {t : Ir.T} {e : E} {D : L2.Ends} {σ : L2.St} {H : Hp} (q : tS Pg T X W (execS I F (.asg t e)) D σ H) : tI Pg T X W I e σ H fun x H1 => gT Pg T X t x σ H1 D.nx := by
  obtain ⟨w, h, ρ, r, en, d⟩ := q
  refine ⟨w, h, ρ, r, en, Does.imp (toS_up (rel := Rep X.K) r en d) fun v H1 ⟨w1, h1, a, r1, en1, p1, d1⟩ => ?_⟩
  cases z : bindT t a ρ with
  | none => rw [z] at d1; exact d1.elim
  | some ρ1 =>
    rw [z] at d1
    exact ⟨w1, h1, ρ, .one a, ρ1, r1, en1, p1, z, fun σ' en' _ => d1 w1 H1 σ' Step.refl r1 en'⟩
theorem one_tg {tg : Expr} {env : Env} (h : notStar tg = true) : (assignEach [tg] env).map (·.2) = [assign tg env] := by rw [each_plain h]; rfl
theorem p_asg (g : Gd Pg T n N S X) {t : Ir.T} {e : E} {tg x : Expr} {pos : Pos} (ns : noSwap S tg x = true) (ht : okT Pg N S t tg = true) (pe : PE X x (tI Pg T X W I e)) : PS X (.Assign [tg] x pos) (tS Pg T X W (execS I F (.asg t e))) := by
  have nst : notStar tg = true := by
    cases tg <;> first | rfl | (cases t <;> cases ht)
  have sw := noSwap_sw g (l := pos.line) ns
  exact psImp (L2.ps_asg pe (s_T g t tg ht) sw.1 sw.2 (one_tg nst)) fun D σ H q => asg_in q
theorem p_setLc (g : Gd Pg T n N S X) {i : Nat} {y : Str} {py : Pos} {mt : Bool} {own : List (Str × Nat)} {tg : Ir.T} {src : G} {hasIf : Bool} {c elt : E} {z t iter : Expr} {ifs : List Expr} {scope : Scope} {pos spos : Pos}
    (k : LcOk Pg T X I own tg hasIf c elt z t ifs scope) (hi : PI X t iter (tG Pg T X W I src)) (ns : notSet iter = true) (hN : N[i]? = some y) (sw : swapB S (.Name y py) (.ListComp z [⟨t, iter, ifs, 0⟩] scope pos) = true) (kf : X.env.scope.kind = .function) :
    PS X (.Assign [.Name y py] (.ListComp z [⟨t, iter, ifs, 0⟩] scope pos) spos) (tS Pg T X W (execS I F (.asg (.name i) (.lc mt own tg src hasIf c elt)))) := by
  obtain ⟨s1, s3⟩ := and2 sw
  obtain ⟨s1, s2⟩ := and2 s1
  have loc : X.env.scope.names.lookup y = some .local := by
    rcases g.nm _ _ (of_decide_eq_true s1) with q | ⟨q, _⟩
    · exact q
    · cases q
  refine psImp (L2.ps_setLc (i := i) g.calm (g.hN ▸ g.nd) (by rw [g.hN]; exact hN) loc (L2.sw_true kf loc s2 (by simpa using s3)) hi k.blk k.tg k.tt k.te fun x => set_plain' ns) fun D σ H q => ?_
  have q1 := asg_in q
  refine lc_in (mt := mt) k.sl ?_
  obtain ⟨w, h, ρ, r, en, d⟩ := q1
  refine ⟨w, h, ρ, r, en, Does.imp d fun v H1 ⟨w1, h1, ρ1, x, ρ', r1, en1, i1, b1, q2⟩ => ?_⟩
  cases x <;> first | cases b1 | skip
  exact q2 _ (en1.set i1) fun vs hv => wipe_set (hv i (by simp [slotsT]))
theorem any_no {u v : Expr} (hu : notStar u = true) (hv : notStar v = true) (p : Expr → Bool) (hp : ∀ e, notStar e = true → p e = false) : [u, v].any p = false := by
  rw [List.any_cons, List.any_cons, hp u hu, hp v hv]; rfl
theorem names2 {a b : Expr} {x y : Str} (f : Expr → Option Str) (ha : f a = some x) (hb : f b = some y) : [a, b].filterMap f = [x, y] := by
  rw [List.filterMap_cons, ha, List.filterMap_cons, hb]; rfl
theorem swap_par {env : Env} {x y : Str} {u v : Expr} {px py pt : Pos} {kt k2 : Nat} {pt2 : Pos} (bk : env.blockKind = .function) (kx : env.kindOf x = some .local) (ky : env.kindOf y = some .local) (hl : py.line = px.line) (xy : ¬ x = y) (hu : notStar u = true) (hv : notStar v = true)
    (e7 : [u, v].all (foldedForSure 8) = false) (e8 : [u, v].all (constantsAlone 8) = false) : swappedStores [.Tuple [.Name x px, .Name y py] kt pt] (.Tuple [u, v] k2 pt2) env = pure (some [x, y]) := by
  unfold swappedStores
  have e2 : [x, y].eraseDups = [x, y] := by
    have hyx : (y == x) = false := by simpa using fun e : y = x => xy e.symm
    simp [List.eraseDups_cons, hyx]
  dsimp only [pure_bind]
  rw [any_no hu hv _ (by intro e he; cases e <;> first | rfl | cases he), e7, e8, bk]
  generalize hF : List.filterMap _ [Expr.Name x px, Expr.Name y py] = LL
  have hL : LL = [x, y] := by
    rw [← hF]
    exact names2 _ (by simp [kx, Expr.pos]) (by simp [ky, hl, Expr.pos])
  subst hL
  have e9 : ([x, y].length != 2 || [x, y].eraseDups.length != [x, y].length) = false := by rw [e2]; rfl
  show (if ([x, y].length != 2 || [x, y].eraseDups.length != [x, y].length) = true then _ else _) = _
  rw [e9]
  rfl
theorem p_par (g : Gd Pg T n N S X) {i j : Nat} {a b : E} {x y : Str} {u v : Expr} {px py pt : Pos} {kt k2 : Nat} {pt2 pos : Pos} (kf : X.env.scope.kind = .function) (hi : N[i]? = some x) (hj : N[j]? = some y) (pb : parB S x y px py u v = true) (pa : PE X u (tI Pg T X W I a)) (pv : PE X v (tI Pg T X W I b)) :
    PS X (.Assign [.Tuple [.Name x px, .Name y py] kt pt] (.Tuple [u, v] k2 pt2) pos) (tS Pg T X W (execS I F (.par i j a b))) := by
  obtain ⟨pb, o8⟩ := and2 pb
  obtain ⟨pb, o7⟩ := and2 pb
  obtain ⟨pb, o6⟩ := and2 pb
  obtain ⟨pb, o5⟩ := and2 pb
  obtain ⟨pb, o4⟩ := and2 pb
  obtain ⟨pb, o3⟩ := and2 pb
  obtain ⟨o1, o2⟩ := and2 pb
  have loc : ∀ {z : Str}, S.lookup z = some .local → X.env.scope.names.lookup z = some .local := fun {z} e => by
    rcases g.nm _ _ e with q | ⟨q, _⟩
    · exact q
    · cases q
  have lx := loc (of_decide_eq_true o1)
  have ly := loc (of_decide_eq_true o2)
  have xy : ¬ x = y := by simpa using o3
  have ij : i ≠ j := fun z => xy (by rw [z, hj] at hi; exact (Option.some.inj hi).symm)
  have bk : X.env.blockKind = .function := by unfold Env.blockKind; rw [kf]; rfl
  have kx : X.env.kindOf x = some .local := lx
  have ky : X.env.kindOf y = some .local := ly
  have hw : swappedStores [.Tuple [.Name x px, .Name y py] kt pt] (.Tuple [u, v] k2 pt2) X.env = pure (some [x, y]) := swap_par bk kx ky (by simpa using o4) xy o5 o6 (by rw [Bool.eq_false_iff]; intro z; rw [z] at o7; cases o7) (by rw [Bool.eq_false_iff]; intro z; rw [z] at o8; cases o8)
  refine psImp (L2.ps_par g.calm (g.hN ▸ g.nd) (by rw [g.hN]; exact hi) (by rw [g.hN]; exact hj) ij lx ly (L2.pa_cons pa (L2.pa_cons pv L2.pa_nil (star_plain o6)) (star_plain o5)) hw rfl) fun D σ H ⟨w, h, ρ, r, en, d⟩ => ?_
  refine ⟨w, h, ρ, r, en, Does.imp (toS_up (rel := Rep X.K) r en d) fun u1 H1 ⟨w1, h1, a1, r1, en1, p1, d1⟩ => ?_⟩
  refine ⟨w1, h1, ρ, r1, en1, ?_⟩
  have d1 : DoesS Pg T X W w1 h1 H1 ((evalE I b ρ h1).toS ρ fun y h2 => .next ((ρ.set i (some a1)).set j (some y)) h2) D := d1
  have go : ∀ w2 h2 H2 b1 u2, Step w1 h1 H1 w2 h2 H2 → HRel X.K T w2 h2 H2 → Rep X.K w2 H2 b1 u2 → DoesS Pg T X W w2 h2 H2 (.next ((ρ.set i (some a1)).set j (some b1)) h2) D → D.nx ((σ.set i (some u1)).set j (some u2)) H2 := fun w2 h2 H2 b1 u2 st r2 p2 d2 =>
    d2 w2 H2 _ Step.refl r2 (((en1.step st r1).set (Rep.step st r1 _ _ p1)).set p2)
  cases z : evalE I b ρ h1 with
  | stuck => rw [z] at d1; exact d1.elim
  | exc q h2 => rw [z] at d1; exact fun w' H' st r' => d1 w' H' σ st r' (en1.step st r1)
  | ok b1 h2 =>
    rw [z] at d1
    exact fun w2 H2 u2 st r2 p2 => ⟨u1, u2, rfl, go w2 h2 H2 b1 u2 st r2 p2 (DoesS.from st d1)⟩
end
end Ir

set_option Elab.async false
set_option linter.all false
set_option maxRecDepth 100000
set_option maxHeartbeats 4000000
/-! Ir22: statements that the check takes do what the interpreter says. -/
namespace Ir
open PySem PySem.Spec PyProof.Rows
open L2 (V Hp HO TE TT TA TS VK SqL SqT Rd upd upd_same upd_ne ne_of ne_of_none valV Inv OpR UnR CallR MtR IxR SlR TruR R2 EP Vals RelV PE PT PA PW PC PO PG PGs PI PS PSs thn AP Itl Itt Itr Its Ite Itz)
section
variable {X : L2.Cx} {Pg : Prog} {T : List (Addr × Str)} {W : L2.WX} {I : Cx} {n F : Nat} {N : List Str} {S : Names}
theorem pipImp {op : Operator} {t t' : L2.TIp} (p : L2.PIp X op t) (i : ∀ x y H Q, t' x y H Q → t x y H Q) : L2.PIp X op t' := fun pins s σ H x y v u Q I rx ry h => p pins s σ H x y v u Q I rx ry (i _ _ _ _ h)
def rAug (K : PySem.W.Frag) (T : List (Addr × Str)) (p : P) : L2.TIp := fun x y H Q => ∃ w h dx dy, HRel K T w h H ∧ Rep K w H dx x ∧ Rep K w H dy y ∧ Gives K T w h H (augP p dx dy h) Q
theorem ip_of {p : P} {op : Operator} (ok : (match op with
      | .Add => decide (p = .add)
      | .Sub => decide (p = .sub)
      | _ => false) = true) : L2.PIp X op (rAug X.K T p) := by
  cases op <;> first | cases ok | skip
  · have ok : p = .add := of_decide_eq_true ok
    subst ok
    refine pipImp L2.ip_add fun x y H Q ⟨w, h, dx, dy, r, px, py, g⟩ => ?_
    cases dx <;> cases dy <;> first | exact (Gives.no g).elim | exact ⟨_, _, px, py, g.same r rfl⟩
  · have ok : p = .sub := of_decide_eq_true ok
    subst ok
    refine pipImp L2.ip_sub fun x y H Q ⟨w, h, dx, dy, r, px, py, g⟩ => ?_
    cases dx <;> cases dy <;> first | exact (Gives.no g).elim | exact ⟨_, _, px, py, g.same r rfl⟩
theorem p_aug (g : Gd Pg T n N S X) {i : Nat} {x : Str} {p : P} {op : Operator} {e : E} {y : Expr} {p1 pos : Pos} (hi : N[i]? = some x) (hl : isLoc S x = true) (ok : (match op with
      | .Add => decide (p = .add)
      | .Sub => decide (p = .sub)
      | _ => false) = true) (pe : PE X y (tI Pg T X W I e)) : PS X (.AugAssign (.Name x p1) op y pos) (tS Pg T X W (execS I F (.aug i p e))) := by
  refine psImp (L2.ps_aug (i := i) (g.hN ▸ g.nd) (by rw [g.hN]; exact hi) (g.loc hl).1 pe (ip_of (T := T) ok) (g.loc hl).2) fun D σ H ⟨w, h, ρ, r, en, d⟩ => ?_
  have d : DoesS Pg T X W w h H (match getV ρ i with
    | some x => (evalE I e ρ h).toS ρ fun y h1 => (augP p x y h1).toS ρ fun z h2 => .next (ρ.set i (some z)) h2
    | none => .stuck) D := d
  cases z : getV ρ i with
  | none => rw [z] at d; exact d.elim
  | some dx =>
    rw [z] at d
    obtain ⟨v, e1, e2⟩ := en.2 i dx z
    refine ⟨v, e1, w, h, ρ, r, en, ?_⟩
    have d : DoesS Pg T X W w h H ((evalE I e ρ h).toS ρ fun y h1 => (augP p dx y h1).toS ρ fun z h2 => .next (ρ.set i (some z)) h2) D := d
    cases ze : evalE I e ρ h with
    | stuck => rw [ze] at d; exact d.elim
    | exc q h1 => rw [ze] at d; exact fun w' H' st r' => d w' H' σ st r' (en.step st r)
    | ok dy h1 =>
      rw [ze] at d
      intro w1 H1 u s1 r1 p2
      have d1 := DoesS.from s1 d
      have d1 : DoesS Pg T X W w1 h1 H1 ((augP p dx dy h1).toS ρ fun z h2 => .next (ρ.set i (some z)) h2) D := d1
      have en1 := en.step s1 r
      refine ⟨w1, h1, dx, dy, r1, Rep.step s1 r _ _ e2, p2, WxOf Pg X W σ, ?_⟩
      exact Does.imp (toS_up (rel := Rep X.K) r1 en1 d1) fun v2 H2 ⟨w2, h2, a, r2, en2, p3, d2⟩ => d2 w2 H2 _ Step.refl r2 (en2.set p3)
/-! o[i] = e -/
theorem p_setIx (g : Gd Pg T n N S X) {o i e : E} {a b x : Expr} {p1 pos : Pos} (po : PE X a (tI Pg T X W I o)) (pi : PE X b (tI Pg T X W I i)) (nb : notSlice b = true) (px : PE X x (tI Pg T X W I e)) (nc : notComp x = true) :
    PS X (.Assign [.Subscript a b p1] x pos) (tS Pg T X W (execS I F (.setIx o i e))) := by
  have hw : swappedStores [.Subscript a b p1] x X.env = pure none := by cases x <;> rfl
  have ha : ∀ v, assign (.Subscript a b p1) X.env v = (do
      let ov ← holding [v] (eval a X.env)
      let iv ← holding [v, ov] (eval b X.env)
      standAt p1
      holding [v, ov, iv] (setItem ov iv v)
      release [v, ov, iv] []) := fun v => by
    cases b <;> first | rfl | cases nb
  refine psImp (L2.ps_asg px (L2.pg_sub po pi L2.set_list ha) (show swapsWith x (some (.Subscript a b p1)) pos.line X.env = pure false from swaps_plain nc) hw rfl) fun D σ H ⟨w, h, ρ, r, en, d⟩ => ?_
  refine ⟨w, h, ρ, r, en, Does.imp (toS_up (rel := Rep X.K) r en d) fun v H1 ⟨w1, h1, dv, r1, en1, p1, d1⟩ => ?_⟩
  refine ⟨w1, h1, ρ, r1, en1, ?_⟩
  have d1 : DoesS Pg T X W w1 h1 H1 ((evalE I o ρ h1).toS ρ fun x h2 => (evalE I i ρ h2).toS ρ fun y h3 => match setAt x y dv h3 with
    | some h4 => .next ρ h4
    | none => .stuck) D := d1
  cases z1 : evalE I o ρ h1 with
  | stuck => rw [z1] at d1; exact d1.elim
  | exc q h2 => rw [z1] at d1; exact fun w' H' st r' => d1 w' H' σ st r' (en1.step st r1)
  | ok dx h2 =>
    rw [z1] at d1
    intro w2 H2 xo s2 r2 p2
    have en2 := en1.step s2 r1
    have d2 := DoesS.from s2 d1
    have d2 : DoesS Pg T X W w2 h2 H2 ((evalE I i ρ h2).toS ρ fun y h3 => match setAt dx y dv h3 with
      | some h4 => .next ρ h4
      | none => .stuck) D := d2
    refine ⟨w2, h2, ρ, r2, en2, ?_⟩
    cases z2 : evalE I i ρ h2 with
    | stuck => rw [z2] at d2; exact d2.elim
    | exc q h3 => rw [z2] at d2; exact fun w' H' st r' => d2 w' H' σ st r' (en2.step st r2)
    | ok dy h3 =>
      rw [z2] at d2
      intro w3 H3 yi s3 r3 p3
      have en3 := en2.step s3 r2
      have d3 := DoesS.from s3 d2
      have d3 : DoesS Pg T X W w3 h3 H3 (match setAt dx dy dv h3 with
        | some h4 => .next ρ h4
        | none => .stuck) D := d3
      cases dx with
      | ref m =>
        cases dy with
        | int k =>
          obtain ⟨c, e1, e2⟩ := Rep.step s3 r2 _ _ p2
          have q3 : yi = .int k := p3
          have d3 : DoesS Pg T X W w3 h3 H3 (match (match h3[m]? with
              | some (.lst xs) => (L2.ixN xs.length k).map fun j => h3.set m (.lst (xs.set j dv))
              | _ => none) with
            | some h4 => .next ρ h4
            | none => .stuck) D := d3
          cases z3 : h3[m]? with
          | none => rw [z3] at d3; exact d3.elim
          | some ob =>
            rw [z3] at d3
            cases ob with
            | lst xs =>
              cases z4 : L2.ixN xs.length k with
              | none => simp only [z4] at d3; exact d3.elim
              | some j =>
                simp only [z4] at d3
                obtain ⟨c', vs, i1, hc, rs⟩ := r3.lst z3
                rw [i1] at e2; cases e2
                have st := Step.put (v := .lst (vs.set j v)) (u := .lst (xs.set j dv)) r3 z3 rfl rfl i1
                refine ⟨_, vs, k, j, e1, q3, hc, by rw [rs.length]; exact z4, ?_⟩
                refine d3 w3 _ σ st (r3.put z3 rfl rfl i1 ⟨_, upd_same, ?_⟩) (en3.step st r3)
                exact RepL.step st r3 _ _ (rs.set j (Rep.step s3 r2 _ _ (Rep.step s2 r1 _ _ p1)))
            | _ => exact d3.elim
        | _ => exact d3.elim
      | _ => exact d3.elim
theorem p_ret {e : E} {x : Expr} {pos : Pos} (pe : PE X x (tI Pg T X W I e)) : PS X (.Return (some x) pos) (tS Pg T X W (execS I F (.ret e))) :=
  psImp (L2.ps_ret pe) fun D σ H ⟨w, h, ρ, r, en, d⟩ => ⟨w, h, ρ, r, en, Does.imp (toS_up (rel := Rep X.K) r en d) fun v H1 ⟨w1, h1, a, r1, en1, p1, d1⟩ => d1 w1 H1 v Step.refl r1 p1⟩
theorem p_retN {pos : Pos} : PS X (.Return none pos) (tS Pg T X W (execS I F .retN)) :=
  psImp L2.ps_retN fun D σ H ⟨w, h, ρ, r, en, d⟩ => d w H .non Step.refl r rfl
theorem p_if {c : E} {a b : SS} {x : Expr} {p q : List Stmt} {pos : Pos} (pc : PT X x (tB Pg T X W I c)) (pa : PSs X p (tS Pg T X W (execSS I F a))) (pb : PSs X q (tS Pg T X W (execSS I F b))) : PS X (.If x p q pos) (tS Pg T X W (execS I F (.if_ c a b))) := by
  refine psImp (L2.ps_if pc pa pb) fun D σ H ⟨w, h, ρ, r, en, d⟩ => ?_
  refine ⟨w, h, ρ, r, en, Does.imp (toS_up (rel := fun _ _ a b => a = b) r en d) fun k H1 ⟨w1, h1, a, r1, en1, p1, d1⟩ => ?_⟩
  subst p1
  cases a with
  | true => rw [if_pos rfl]; exact ⟨w1, h1, ρ, r1, en1, d1⟩
  | false => rw [if_neg (by simp)]; exact ⟨w1, h1, ρ, r1, en1, d1⟩
/-- a body's ends within a loop -/
theorem loop_in {w : Wd} {h : Hh} {H : Hp} {r : SR} {k : Rho → Hh → SR} {D : L2.Ends} {Nx : L2.St → Hp → Prop} (d : DoesS Pg T X W w h H (match r with
    | .next ρ2 h2 => k ρ2 h2
    | .cnt ρ2 h2 => k ρ2 h2
    | .brk ρ2 h2 => .next ρ2 h2
    | .ret d h2 => .ret d h2
    | .exc x ρ2 h2 => .exc x ρ2 h2
    | .stuck => .stuck) D) (nx : ∀ ρ2 h2 w' H' σ', Step w h H w' h2 H' → HRel X.K T w' h2 H' → EnvR X.K w' H' ρ2 σ' → DoesS Pg T X W w' h2 H' (k ρ2 h2) D → Nx σ' H') : DoesS Pg T X W w h H r { D with nx := Nx, ct := Nx, bk := D.nx } := by
  cases r with
  | next ρ2 h2 => exact fun w' H' σ' st r' en => nx ρ2 h2 w' H' σ' st r' en (DoesS.from st d)
  | cnt ρ2 h2 => exact fun w' H' σ' st r' en => nx ρ2 h2 w' H' σ' st r' en (DoesS.from st d)
  | brk ρ2 h2 => exact d
  | ret d0 h2 => exact d
  | exc x ρ2 h2 => exact d
  | stuck => exact d
theorem p_for (g : Gd Pg T n N S X) (po : PassesOwn (model X.prog X.w) X.A X.env X.xe) {tg : Ir.T} {src : G} {b : SS} {t iter : Expr} {p : List Stmt} {pos : Pos} (ht : okT Pg N S tg t = true) (hi : PI X t iter (tG Pg T X W I src)) (ns : notSet iter = true) (pb : PSs X p (tS Pg T X W (execSS I F b))) :
    PS X (.For t iter p [] pos) (tS Pg T X W (execS I F (.for_ tg src b))) := by
  refine psImp (L2.ps_for po g.calm hi (s_T g tg t ht) pb fun x => set_plain' ns) fun D σ H ⟨w, h, ρ, r, en, d⟩ => ?_
  refine ⟨w, h, ρ, r, en, Does.imp (toS_up (rel := relG X.K T) r en d) fun J H1 ⟨w1, h1, s, r1, en1, ⟨P, p1, pst, pw⟩, d1⟩ => ?_⟩
  obtain ⟨k, rd⟩ := s
  let WI : Nat → Nat → L2.St → Hp → Prop := fun i m σ H => ∃ w h ρ, HRel X.K T w h H ∧ EnvR X.K w H ρ σ ∧ P w H ∧ DoesS Pg T X W w h H (forLoop rd tg (execSS I F b) m i ρ h) D
  refine ⟨WI, ⟨k, w1, h1, ρ, r1, en1, p1, d1⟩, ?_⟩
  rintro i m σ2 H2 ⟨w2, h2, ρ2, r2, en2, p2, d2⟩
  obtain ⟨stop, go⟩ := pw w2 h2 H2 p2 r2 i
  cases z : rd i h2 with
  | none => cases m <;> (unfold forLoop at d2; rw [z] at d2; exact d2.elim)
  | some o =>
    cases o with
    | none =>
      left
      refine ⟨stop z, ?_⟩
      cases m <;> (unfold forLoop at d2; rw [z] at d2; exact d2 w2 H2 σ2 Step.refl r2 en2)
    | some x =>
      right
      cases m with
      | zero => unfold forLoop at d2; rw [z] at d2; exact d2.elim
      | succ m =>
        unfold forLoop at d2
        rw [z] at d2
        have d2 : DoesS Pg T X W w2 h2 H2 (match bindI tg x ρ2 with
          | some ρ1 => match execSS I F b ρ1 h2 with
            | .next ρ2 h2 => forLoop rd tg (execSS I F b) m (i + 1) ρ2 h2
            | .cnt ρ2 h2 => forLoop rd tg (execSS I F b) m (i + 1) ρ2 h2
            | .brk ρ2 h2 => .next ρ2 h2
            | .ret d h2 => .ret d h2
            | .exc x ρ2 h2 => .exc x ρ2 h2
            | .stuck => .stuck
          | none => .stuck) D := d2
        obtain ⟨g1, g2⟩ := go x z
        refine ⟨g1, fun σ' H' => ∃ m', m' < m + 1 ∧ WI (i + 1) m' σ' H', fun σ' H' q => q, fun v H3 y => ?_⟩
        obtain ⟨s3, r3, i3⟩ := g2 v H3 y
        cases zb : bindI tg x ρ2 with
        | none => rw [zb] at d2; exact d2.elim
        | some ρ3 =>
          rw [zb] at d2
          refine ⟨w2, h2, ρ2, x, ρ3, r3, en2.step s3 r2, i3, zb, fun σ3 en3 _ => ⟨w2, h2, ρ3, r3, en3, ?_⟩⟩
          exact loop_in (DoesS.from s3 d2) fun ρ4 h4 w4 H4 σ4 s4 r4 en4 d4 => ⟨m, Nat.lt_succ_self m, w4, h4, ρ4, r4, en4, pst _ _ _ _ _ _ p2 r2 (s3.trans s4), d4⟩
theorem p_while (po : PassesOwn (model X.prog X.w) X.A X.env X.xe) {c : E} {b : SS} {x : Expr} {p : List Stmt} {pos : Pos} (pc : PT X x (tB Pg T X W I c)) (pb : PSs X p (tS Pg T X W (execSS I F b))) : PS X (.While x p [] pos) (tS Pg T X W (execS I F (.while_ c b))) := by
  refine psImp (L2.ps_while po pc pb) fun D σ H ⟨w, h, ρ, r, en, d⟩ => ?_
  let WI : Nat → L2.St → Hp → Prop := fun m σ H => ∃ w h ρ, HRel X.K T w h H ∧ EnvR X.K w H ρ σ ∧ DoesS Pg T X W w h H (whileLoop (evalB I c) (execSS I F b) m ρ h) D
  refine ⟨WI, ⟨F, w, h, ρ, r, en, d⟩, ?_⟩
  rintro m σ2 H2 ⟨w2, h2, ρ2, r2, en2, d2⟩
  cases m with
  | zero => exact d2.elim
  | succ m =>
    have d2 : DoesS Pg T X W w2 h2 H2 ((evalB I c ρ2 h2).toS ρ2 fun k h1 => match k with
      | false => .next ρ2 h1
      | true => match execSS I F b ρ2 h1 with
        | .next ρ2 h2 => whileLoop (evalB I c) (execSS I F b) m ρ2 h2
        | .cnt ρ2 h2 => whileLoop (evalB I c) (execSS I F b) m ρ2 h2
        | .brk ρ2 h2 => .next ρ2 h2
        | .ret d h2 => .ret d h2
        | .exc x ρ2 h2 => .exc x ρ2 h2
        | .stuck => .stuck) D := d2
    refine ⟨w2, h2, ρ2, r2, en2, Does.imp (toS_up (rel := fun _ _ a b => a = b) r2 en2 d2) fun k H3 ⟨w3, h3, a, r3, en3, p3, d3⟩ => ?_⟩
    subst p3
    cases a with
    | false => rw [if_neg (by simp)]; exact d3 w3 H3 σ2 Step.refl r3 en3
    | true =>
      rw [if_pos rfl]
      refine ⟨fun σ' H' => ∃ m', m' < m + 1 ∧ WI m' σ' H', fun σ' H' q => q, w3, h3, ρ2, r3, en3, ?_⟩
      exact loop_in d3 fun ρ4 h4 w4 H4 σ4 s4 r4 en4 d4 => ⟨m, Nat.lt_succ_self m, w4, h4, ρ4, r4, en4, d4⟩
theorem p_raise (g : Gd Pg T n N S X) (tk : L2.Takes X W) {x : Nat} {es : L} {nm m : Str} {j : Nat} {p1 p2 p3 pos : Pos} (hx : Pg.exs[x]? = some nm) (gl : isGlo S nm = true) :
    PS X (.Raise (some (.Call (.Name nm p1) [.Constant (.str m) j p2] [] p3)) none pos) (tS Pg T X W (execS I F (.raise_ x es))) := by
  obtain ⟨C, h1, h2, h3, h4, bm, B, ni, ii, h5, h6⟩ := g.exs x nm hx
  refine psImp (L2.ps_raise g.calm tk (L2.pmk_own h5 h6 h1 h2 (L2.raises_own h3 h4) (g.glo gl).1 (g.glo gl).2)) fun D σ H ⟨w, h, ρ, r, en, d⟩ => ?_
  exact d w H σ Step.refl r en _ _ ⟨rfl, rfl, nm, C, hx, h1, rfl⟩
theorem p_pass {pos : Pos} : PS X (.Pass pos) (tS Pg T X W (execS I F .pass_)) := psImp L2.ps_pass fun D σ H ⟨w, h, ρ, r, en, d⟩ => d w H σ Step.refl r en
theorem p_brk {pos : Pos} : PS X (.Break pos) (tS Pg T X W (execS I F .brk)) := psImp L2.ps_break fun D σ H ⟨w, h, ρ, r, en, d⟩ => d w H σ Step.refl r en
theorem p_cnt {pos : Pos} : PS X (.Continue pos) (tS Pg T X W (execS I F .cnt)) := psImp L2.ps_continue fun D σ H ⟨w, h, ρ, r, en, d⟩ => d w H σ Step.refl r en
theorem p_nil : PSs X [] (tS Pg T X W (execSS I F .nil)) := pssImp L2.pss_nil fun D σ H ⟨w, h, ρ, r, en, d⟩ => d w H σ Step.refl r en
theorem p_cons {s : Ir.S} {r : SS} {st : Stmt} {rest : List Stmt} (p1 : PS X st (tS Pg T X W (execS I F s))) (p2 : PSs X rest (tS Pg T X W (execSS I F r))) : PSs X (st :: rest) (tS Pg T X W (execSS I F (.cons s r))) := by
  refine pssImp (L2.pss_cons p1 p2) fun D σ H ⟨w, h, ρ, hr, en, d⟩ => ⟨w, h, ρ, hr, en, ?_⟩
  have d : DoesS Pg T X W w h H (match execS I F s ρ h with
    | .next ρ1 h1 => execSS I F r ρ1 h1
    | x => x) D := d
  cases z : execS I F s ρ h with
  | next ρ1 h1 => rw [z] at d; exact fun w' H' σ' st r' en' => ⟨w', h1, ρ1, r', en', DoesS.from st d⟩
  | brk ρ1 h1 => rw [z] at d; exact d
  | cnt ρ1 h1 => rw [z] at d; exact d
  | ret d0 h1 => rw [z] at d; exact d
  | exc x ρ1 h1 => rw [z] at d; exact d
  | stuck => rw [z] at d; exact d
/-! ### try -/
theorem Gd.tr (g : Gd Pg T n N S X) (pn : List (Addr × Obj)) (xe : Value → Shared → Prop) : Gd Pg T n N S (X.tr pn xe) := ⟨g.hN, g.nd, g.nm, g.fnl, g.calm, g.room, g.free, g.con, g.fns, g.exs, g.sub, fun f x h => ⟨(g.told f x h).ex⟩, g.lam⟩
/-- a fresh cell that tells nothing -/
theorem push_opq {w : Wd} {h : Hh} {H : Hp} {a : Addr} (r : HRel X.K T w h H) : Step w h H (w.cell h.length a) (h ++ [.opq]) H ∧ HRel X.K T (w.cell h.length a) (h ++ [.opq]) H := by
  have own : ∀ b, Own (w.cell h.length a) (h ++ [.opq]) b → Own w h b := fun b ⟨m, o, e1, e2, e3⟩ => by
    by_cases hm : m = h.length
    · subst hm
      rw [List.getElem?_append_right (Nat.le_refl _), Nat.sub_self] at e1
      have e1 : O.opq = o := by simpa using e1
      subst e1; cases e2
    · have e3 : (if m = h.length then some a else w.ι m) = some b := e3
      rw [if_neg hm] at e3
      rw [List.getElem?_append_left (r.dom m b e3)] at e1
      exact ⟨m, o, e1, e2, e3⟩
  have st : Step w h H (w.cell h.length a) (h ++ [.opq]) H := ⟨fun n b e => (if_neg (Nat.ne_of_lt (r.dom n b e))).trans e, fun _ e => e, fun _ e => .inl e, fun _ => rfl, fun _ _ e _ _ => e, fun _ o e => ⟨o, e⟩, fun b z => .inl (own b z)⟩
  refine ⟨st, ⟨fun m o e => ?_, fun m b e => ?_, fun m k o u b e1 e2 r1 r2 i1 i2 => ?_, fun b z => r.nofz b (own b z), r.fzt, fun b o e => ⟨(r.kp b o e).1, (r.kp b o e).2.1, fun z => (r.kp b o e).2.2 (own b z)⟩, r.tabs⟩⟩
  · by_cases hm : m = h.length
    · subst hm
      rw [List.getElem?_append_right (Nat.le_refl _), Nat.sub_self] at e
      have e : O.opq = o := by simpa using e
      subst e
      exact ⟨a, if_pos rfl, trivial⟩
    · have hlt : m < h.length := by
        obtain ⟨h1, _⟩ := List.getElem?_eq_some_iff.mp e
        simp at h1; omega
      rw [List.getElem?_append_left hlt] at e
      obtain ⟨b, i, c⟩ := r.cell m o e
      exact ⟨b, (if_neg hm).trans i, CellR.mono (Wd.le_cell r) c⟩
  · by_cases hm : m = h.length
    · simp [hm]
    · have e : (if m = h.length then some a else w.ι m) = some b := e
      rw [if_neg hm] at e
      have := r.dom m b e
      simp; omega
  · have key : ∀ {j : Nat} {z : O}, (h ++ [O.opq])[j]? = some z → real z = true → j ≠ h.length := fun {j z} ez rz hj => by
      subst hj
      rw [List.getElem?_append_right (Nat.le_refl _), Nat.sub_self] at ez
      have ez : O.opq = z := by simpa using ez
      subst ez; cases rz
    have n1 := key e1 r1
    have n2 := key e2 r2
    have i1 : (if m = h.length then some a else w.ι m) = some b := i1
    have i2 : (if k = h.length then some a else w.ι k) = some b := i2
    rw [if_neg n1] at i1
    rw [if_neg n2] at i2
    rw [List.getElem?_append_left (r.dom m b i1)] at e1
    rw [List.getElem?_append_left (r.dom k b i2)] at e2
    exact r.inj m k o u b e1 e2 r1 r2 i1 i2
theorem p_try (g : Gd Pg T n N S X) (tk : L2.Takes X W) (hs : X.stack = X.env :: X.outer) (hf : X.env.frame = some X.env.locals) (hsub : I.sub = Pg.sub) {b : SS} {x i : Nat} {hd : SS} {nm v : Str} {p q : List Stmt} {p1 p2 pos : Pos} (hx : Pg.exs[x]? = some nm) (gl : isGlo S nm = true) (hi : N[i]? = some v) (hl : S.lookup v = some .local) (hc : cstRet hd q = true)
    (pb : ∀ (W' : L2.WX) (pn : List (Addr × Obj)) (xe : Value → Shared → Prop), L2.Takes (X.tr pn xe) W' → PassesOwn (model X.prog X.w) X.A X.env xe → PSs (X.tr pn xe) p (tS Pg T X W' (execSS I F b))) :
    PS X (.Try p [.ExceptHandler (some (.Name nm p1)) (some v) q p2] [] [] pos) (tS Pg T X W (execS I F (.try_ b x i hd))) := by
  obtain ⟨C, h1, _⟩ := g.exs x nm hx
  have lv : X.env.kindOf v = some .local := by
    rcases g.nm _ _ hl with z | ⟨z, _⟩
    · exact z
    · cases z
  have hd1 : ∃ d c k p3 p4, hd = .cons (.ret (.cst d)) .nil ∧ q = [.Return (some (.Constant c k p3)) p4] ∧ cstB d c = true := by
    unfold cstRet at hc
    split at hc
    · exact ⟨_, _, _, _, _, rfl, rfl, hc⟩
    · cases hc
  obtain ⟨d, c, k, p3, p4, rfl, rfl, hc⟩ := hd1
  refine psImp (L2.ps_try_as (X := X) (i := i) (tb := fun W' => tS Pg T X W' (execSS I F b)) (ts := fun a cls dd => L2.tRet (tI Pg T X W I (.cst d))) hs hf (g.hN ▸ g.nd) (by rw [g.hN]; exact hi) lv ⟨(g.glo gl).1, (g.glo gl).2, .inl h1⟩ tk pb
    fun a oe cls dd pn _ _ => L2.pss_one (L2.ps_ret (f_cst (X := X.suite a ((a, oe) :: pn)) hc))) fun D σ H ⟨w, h, ρ, r, en, d0⟩ => ?_
  refine ⟨w, h, ρ, r, en, ?_⟩
  have d0 : DoesS Pg T X W w h H (match execSS I F b ρ h with
    | .exc y ρ1 h1 => if I.sub y.cls x then .ret d (h1 ++ [.opq]) else .exc y ρ1 h1
    | r => r) D := d0
  cases z : execSS I F b ρ h with
  | next ρ1 h1 => rw [z] at d0; exact d0
  | brk ρ1 h1 => rw [z] at d0; exact d0
  | cnt ρ1 h1 => rw [z] at d0; exact d0
  | ret d1 h1 => rw [z] at d0; exact d0
  | stuck => rw [z] at d0; exact d0
  | exc y ρ1 h1' =>
    rw [z] at d0
    have d0 : DoesS Pg T X W w h H (if I.sub y.cls x then .ret d (h1' ++ [.opq]) else .exc y ρ1 h1') D := d0
    intro w1 H1 σ1 s1 r1 en1 cls dd ⟨q1, q2, nm', C', q3, q4, q5⟩
    subst q5
    refine ⟨_, g.sub _ _ _ _ _ _ q3 hx q4 h1, fun t a ha => ?_, fun t => ?_⟩
    · rw [hsub, if_pos t] at d0
      obtain ⟨st, r2⟩ := push_opq (a := a) r1
      exact ⟨w1.cell h1'.length a, h1' ++ [.opq], ρ1.set i (some (.ref h1'.length)), r2, (en1.step st r1).set ⟨a, rfl, if_pos rfl⟩, fun w' H' v' st' r' p' => d0 w' H' v' ((s1.trans st).trans st') r' p'⟩
    · rw [hsub, if_neg (by rw [t]; simp)] at d0
      exact d0 w1 H1 σ1 s1 r1 en1 _ _ ⟨q1, q2, nm', C', q3, q4, rfl⟩
/-- where statements stand -/
structure Fc (X : L2.Cx) : Prop where
  kind : X.env.scope.kind = .function
  stack : X.stack = X.env :: X.outer
  frame : X.env.frame = some X.env.locals
theorem s_swap {e : E} {i : Nat} {y : Str} {py : Pos} {z : Expr} {gs : List Comprehension} {scope : Scope} {pos spos : Pos} (fc : Fc X) (g : Gd Pg T n N S X) (io : IOk Pg n I) (tk : L2.Takes X W) (hi : N[i]? = some y) (o2 : okE Pg N S e (.ListComp z gs scope pos) = true) (q : swapB S (.Name y py) (.ListComp z gs scope pos) = true) :
    PS X (.Assign [.Name y py] (.ListComp z gs scope pos) spos) (tS Pg T X W (execS I F (.asg (.name i) e))) := by
  cases e with
  | lc mt own tg src hasIf c elt =>
    unfold okE at o2
    split at o2
    · rename_i h1
      cases h1
      obtain ⟨o2, o9⟩ := and2 o2
      obtain ⟨o2, o8⟩ := and2 o2
      obtain ⟨o2, o7⟩ := and2 o2
      obtain ⟨o2, o6⟩ := and2 o2
      obtain ⟨o2, o5⟩ := and2 o2
      obtain ⟨o2, o4⟩ := and2 o2
      obtain ⟨o2, o3⟩ := and2 o2
      refine p_setLc g (lc_ok g (of_decide_eq_true o3) o4 o5 ?_ fun X' g' tk' => (s_E _ g' io tk' _ o8).pe) (s_G _ g io tk _ o6 _ o2) o7 hi q fc.kind
      split at o9
      · simpa using o9
      · exact ⟨(and2 o9).1, fun X' g' tk' => (s_E _ g' io tk' _ (and2 o9).2).pt⟩
      · cases o9
    · cases o2
  | prim p es => unfold okE at o2; obtain ⟨_, o2⟩ := and2 o2; cases o2
  | _ => cases o2
theorem s_asg {t : Ir.T} {e : E} {tg x : Expr} {pos : Pos} (fc : Fc X) (g : Gd Pg T n N S X) (io : IOk Pg n I) (tk : L2.Takes X W) (o1 : okT Pg N S t tg = true) (o2 : okE Pg N S e x = true) (o3 : (noSwap S tg x || swapB S tg x) = true) :
    PS X (.Assign [tg] x pos) (tS Pg T X W (execS I F (.asg t e))) := by
  by_cases q : noSwap S tg x = true
  · exact p_asg g q o1 (s_E e g io tk _ o2).pe
  · have q2 : swapB S tg x = true := (Bool.or_eq_true_iff.mp o3).resolve_left q
    cases tg <;> first | (cases q2; done) | skip
    cases x <;> first | (cases q2; done) | skip
    cases t with
    | pair _ => cases o1
    | name i => exact s_swap fc g io tk (of_decide_eq_true (and2 o1).1) o2 q2
mutual
theorem s_S (s : Ir.S) {X : L2.Cx} {W : L2.WX} (fc : Fc X) (g : Gd Pg T n N S X) (io : IOk Pg n I) (sb : I.sub = Pg.sub) (tk : L2.Takes X W) (po : PassesOwn (model X.prog X.w) X.A X.env X.xe) (st : Stmt) (ok : okS Pg N S s st = true) : PS X st (tS Pg T X W (execS I F s)) := by
  cases s with
  | expr e =>
    unfold okS at ok
    split at ok
    · obtain ⟨o1, o2⟩ := and2 ok
      exact p_expr o1 (s_E e g io tk _ o2).pe
    · cases ok
  | asg t e =>
    unfold okS at ok
    split at ok
    · obtain ⟨ok, o3⟩ := and2 ok
      obtain ⟨o1, o2⟩ := and2 ok
      exact s_asg fc g io tk o1 o2 o3
    · cases ok
  | par i j a b =>
    unfold okS at ok
    split at ok
    · obtain ⟨ok, o5⟩ := and2 ok
      obtain ⟨ok, o4⟩ := and2 ok
      obtain ⟨ok, o3⟩ := and2 ok
      obtain ⟨o1, o2⟩ := and2 ok
      exact p_par g fc.kind (of_decide_eq_true o1) (of_decide_eq_true o2) o3 (s_E a g io tk _ o4).pe (s_E b g io tk _ o5).pe
    · cases ok
  | aug i p e =>
    unfold okS at ok
    split at ok
    · obtain ⟨ok, o4⟩ := and2 ok
      obtain ⟨ok, o3⟩ := and2 ok
      obtain ⟨o1, o2⟩ := and2 ok
      exact p_aug g (of_decide_eq_true o1) o2 o4 (s_E e g io tk _ o3).pe
    · cases ok
  | setIx o i e =>
    unfold okS at ok
    split at ok
    · obtain ⟨ok, o5⟩ := and2 ok
      obtain ⟨ok, o4⟩ := and2 ok
      obtain ⟨ok, o3⟩ := and2 ok
      obtain ⟨o1, o2⟩ := and2 ok
      exact p_setIx g (s_E o g io tk _ o1).pe (s_E i g io tk _ o2).pe o3 (s_E e g io tk _ o4).pe o5
    · cases ok
  | ret e =>
    unfold okS at ok
    split at ok
    · exact p_ret (s_E e g io tk _ ok).pe
    · cases ok
  | retN =>
    unfold okS at ok
    split at ok
    · exact p_retN
    · cases ok
  | if_ c a b =>
    unfold okS at ok
    split at ok
    · obtain ⟨ok, o3⟩ := and2 ok
      obtain ⟨o1, o2⟩ := and2 ok
      exact p_if (s_E c g io tk _ o1).pt (s_SS a fc g io sb tk po _ o2) (s_SS b fc g io sb tk po _ o3)
    · cases ok
  | for_ tg src b =>
    unfold okS at ok
    split at ok
    · obtain ⟨ok, o5⟩ := and2 ok
      obtain ⟨ok, o4⟩ := and2 ok
      obtain ⟨ok, o3⟩ := and2 ok
      obtain ⟨o1, o2⟩ := and2 ok
      exact p_for g po o2 (s_G src g io tk _ o3 _ o1) o4 (s_SS b fc g io sb tk po _ o5)
    · cases ok
  | while_ c b =>
    unfold okS at ok
    split at ok
    · obtain ⟨o1, o2⟩ := and2 ok
      exact p_while po (s_E c g io tk _ o1).pt (s_SS b fc g io sb tk po _ o2)
    · cases ok
  | raise_ x es =>
    unfold okS at ok
    split at ok
    · obtain ⟨o1, o2⟩ := and2 ok
      exact p_raise g tk (of_decide_eq_true o1) o2
    · cases ok
  | try_ b x i hd =>
    unfold okS at ok
    split at ok
    · obtain ⟨ok, o6⟩ := and2 ok
      obtain ⟨ok, o5⟩ := and2 ok
      obtain ⟨ok, o4⟩ := and2 ok
      obtain ⟨ok, o3⟩ := and2 ok
      obtain ⟨o1, o2⟩ := and2 ok
      exact p_try g tk fc.stack fc.frame sb (of_decide_eq_true o2) o3 (of_decide_eq_true o4) (of_decide_eq_true o5) o6 fun W' pn xe tk' po' => s_SS b (X := X.tr pn xe) ⟨fc.kind, fc.stack, fc.frame⟩ (g.tr pn xe) io sb tk' po' _ o1
    · cases ok
  | pass_ =>
    unfold okS at ok
    split at ok
    · exact p_pass
    · cases ok
  | brk =>
    unfold okS at ok
    split at ok
    · exact p_brk
    · cases ok
  | cnt =>
    unfold okS at ok
    split at ok
    · exact p_cnt
    · cases ok
theorem s_SS (s : SS) {X : L2.Cx} {W : L2.WX} (fc : Fc X) (g : Gd Pg T n N S X) (io : IOk Pg n I) (sb : I.sub = Pg.sub) (tk : L2.Takes X W) (po : PassesOwn (model X.prog X.w) X.A X.env X.xe) (sts : List Stmt) (ok : okSS Pg N S s sts = true) : PSs X sts (tS Pg T X W (execSS I F s)) := by
  cases s with
  | nil =>
    cases sts with
    | nil => exact p_nil
    | cons _ _ => cases ok
  | cons s r =>
    unfold okSS at ok
    split at ok
    · obtain ⟨o1, o2⟩ := and2 ok
      exact p_cons (s_S s fc g io sb tk po _ o1) (s_SS r fc g io sb tk po _ o2)
    · cases ok
end
end
end Ir

set_option Elab.async false
set_option linter.all false
set_option maxRecDepth 100000
set_option maxHeartbeats 4000000
/-! Ir23: a def does what the interpreter says, whatever the depth. -/
namespace Ir
open PySem PySem.Spec PyProof.Rows
open L2 (V Hp HO TE TT TA TS VK SqL SqT Rd upd upd_same upd_ne ne_of ne_of_none valV Inv OpR UnR CallR MtR IxR SlR TruR R2 EP Vals RelV PE PT PA PW PC PO PG PGs PI PS PSs thn AP Itl Itt Itr Its Ite Itz Room XK)
section
variable {K : PySem.W.Frag} {T : List (Addr × Str)} {w w' : Wd} {h h' : Hh} {H H' : Hp}
/-- a value without cells stands in any world of these lists -/
structure WOk (w w' : Wd) : Prop where
  fz : ∀ a, w.fz a → w'.fz a
  kp : ∀ b, w'.kp b = w.kp b
mutual
theorem Rep.bare (k : WOk w w') : ∀ (d : D) (v : V), noRef d = true → Rep K w H d v → Rep K w' H d v
  | .non, _, _, q => q
  | .bl _, _, _, q => q
  | .int _, _, _, q => q
  | .str _, _, _, q => q
  | .tup xs, v, n, ⟨a, vs, e, q, p⟩ => ⟨a, vs, e, q, RepL.bare k xs vs n p⟩
  | .lst xs, v, n, ⟨a, vs, e, f, q, p⟩ => ⟨a, vs, e, k.fz a f, q, RepL.bare k xs vs n p⟩
  | .ref n, v, z, _ => nomatch (show false = true from z)
  | .scr xs, v, _, ⟨a, e, q⟩ => ⟨a, e, q.elim (fun q => .inl ((k.kp _).trans q)) fun q => .inr (q.elim (fun ⟨o, q⟩ => .inl ⟨o, (k.kp _).trans q⟩) .inr)⟩
theorem RepL.bare (k : WOk w w') : ∀ (d : List D) (v : List V), noRefL d = true → RepL K w H d v → RepL K w' H d v
  | [], _, _, q => q
  | x :: xs, _, n, ⟨v, us, e, q, p⟩ => ⟨v, us, e, Rep.bare k x v (and2 n).1 q, RepL.bare k xs us (and2 n).2 p⟩
end
def Wd.none (w : Wd) : Wd := ⟨fun _ => Option.none, w.fz, w.kp⟩
theorem no_own (w : Wd) {b : Addr} : ¬ Own w [] b := fun ⟨n, o, e, _⟩ => by simp at e
theorem HRel.bare (r : HRel K T w h H) : HRel K T w.none [] H where
  cell := fun n o e => by simp at e
  dom := fun n a e => nomatch e
  inj := fun n m o u a e => by simp at e
  nofz := fun a o => (no_own _ o).elim
  fzt := r.fzt
  kp := fun b o e => ⟨(r.kp b o e).1, (r.kp b o e).2.1, no_own _⟩
  tabs := r.tabs
/-- back from a run in an empty heap -/
theorem back1 (r : HRel K T w h H) (s : Step w.none [] H w' h' H') (r' : HRel K T w' h' H') : Step w h H ⟨w.ι, w'.fz, w'.kp⟩ h H' ∧ HRel K T ⟨w.ι, w'.fz, w'.kp⟩ h H' := by
  have st : Step w h H ⟨w.ι, w'.fz, w'.kp⟩ h H' := ⟨fun _ _ e => e, s.fz, s.nfz, s.kp, fun b o e nt _ => s.frame b o e nt (no_own _), s.there, fun b o => .inl o⟩
  refine ⟨st, fun n o e => ?_, r.dom, r.inj, fun a o f => ?_, r'.fzt, fun b o e => ?_, r'.tabs⟩
  · obtain ⟨a, i, c⟩ := r.cell n o e
    by_cases hr : real o = true
    · refine ⟨a, i, c.step st r ?_⟩
      rcases r.ownK ⟨n, o, e, hr, i⟩ with ⟨_, z⟩ | ⟨_, z⟩ <;> (rw [z]; exact s.frame _ _ z (fun _ y => by cases y) (no_own _))
    · cases o with
      | opq => exact ⟨a, i, trivial⟩
      | _ => exact (hr rfl).elim
  · rcases s.nfz a f with q | q
    · exact r.nofz a o q
    · rcases r.ownK (h := h) o with ⟨_, z⟩ | ⟨_, z⟩ <;> (rw [q] at z; cases z)
  · have e' : w.kp b = some o := (s.kp b).symm.trans e
    obtain ⟨k1, k2, k3⟩ := r.kp b o e'
    exact ⟨s.frame b o k1 k2 (no_own _), k2, k3⟩
/-! cells made by a run go -/
mutual
theorem Rep.under {w1 : Wd} {m : Nat} (k : WOk w w1) (i : ∀ n, n < m → w1.ι n = w.ι n) : ∀ (d : D) (v : V), below m d = true → Rep K w H d v → Rep K w1 H d v
  | .non, _, _, q => q
  | .bl _, _, _, q => q
  | .int _, _, _, q => q
  | .str _, _, _, q => q
  | .tup xs, v, n, ⟨a, vs, e, q, p⟩ => ⟨a, vs, e, q, RepL.under k i xs vs n p⟩
  | .lst xs, v, n, ⟨a, vs, e, f, q, p⟩ => ⟨a, vs, e, k.fz a f, q, RepL.under k i xs vs n p⟩
  | .ref n, v, z, ⟨a, e, q⟩ => ⟨a, e, (i n (of_decide_eq_true z)).trans q⟩
  | .scr xs, v, _, ⟨a, e, q⟩ => ⟨a, e, q.elim (fun q => .inl ((k.kp _).trans q)) fun q => .inr (q.elim (fun ⟨o, q⟩ => .inl ⟨o, (k.kp _).trans q⟩) .inr)⟩
theorem RepL.under {w1 : Wd} {m : Nat} (k : WOk w w1) (i : ∀ n, n < m → w1.ι n = w.ι n) : ∀ (d : List D) (v : List V), belowL m d = true → RepL K w H d v → RepL K w1 H d v
  | [], _, _, q => q
  | x :: xs, _, n, ⟨v, us, e, q, p⟩ => ⟨v, us, e, Rep.under k i x v (and2 n).1 q, RepL.under k i xs us (and2 n).2 p⟩
end
theorem RepK.under {w1 : Wd} {m : Nat} (k : WOk w w1) (i : ∀ n, n < m → w1.ι n = w.ι n) : ∀ (d : List (Key × D)) (v : List (Key × V)), (d.all fun kv => below m kv.2) = true → RepK K w H d v → RepK K w1 H d v
  | [], _, _, q => q
  | x :: xs, _, n, ⟨v, us, e, q, p⟩ => by
    rw [List.all_cons] at n
    exact ⟨v, us, e, Rep.under k i x.2 v (and2 n).1 q, RepK.under k i xs us (and2 n).2 p⟩
def Wd.cutTo (w : Wd) (m : Nat) : Wd := ⟨fun n => if n < m then w.ι n else Option.none, w.fz, w.kp⟩
theorem back2 (r' : HRel K T w' h' H') (s : Step w h H w' h' H') (r : HRel K T w h H) (b : (h'.take h.length).all (belowO h.length) = true) : Step w h H (w'.cutTo h.length) (h'.take h.length) H' ∧ HRel K T (w'.cutTo h.length) (h'.take h.length) H' := by
  have up : ∀ n a, (w'.cutTo h.length).ι n = some a → n < h.length ∧ w'.ι n = some a := fun n a e => by
    have e : (if n < h.length then w'.ι n else Option.none) = some a := e
    by_cases hn : n < h.length
    · rw [if_pos hn] at e; exact ⟨hn, e⟩
    · rw [if_neg hn] at e; cases e
  have at_ : ∀ n o, (h'.take h.length)[n]? = some o → n < h.length ∧ h'[n]? = some o := fun n o e => by
    by_cases hn : n < h.length
    · rw [List.getElem?_take_of_lt hn] at e; exact ⟨hn, e⟩
    · rw [List.getElem?_eq_none (by simp; omega)] at e; cases e
  have own : ∀ b, Own (w'.cutTo h.length) (h'.take h.length) b → Own w' h' b := fun b ⟨n, o, e1, e2, e3⟩ => ⟨n, o, (at_ n o e1).2, e2, (up n b e3).2⟩
  have keep : WOk w' (w'.cutTo h.length) := ⟨fun _ f => f, fun _ => rfl⟩
  have ik : ∀ n, n < h.length → (w'.cutTo h.length).ι n = w'.ι n := fun n hn => if_pos hn
  refine ⟨⟨fun n a e => (ik n (r.dom n a e)).trans (s.ι n a e), s.fz, s.nfz, s.kp, s.frame, s.there, fun b o => s.own b (own b o)⟩, fun n o e => ?_, fun n a e => ?_, fun n m o u a e1 e2 r1 r2 i1 i2 => ?_, fun a o => r'.nofz a (own a o), r'.fzt, fun b o e => ⟨(r'.kp b o e).1, (r'.kp b o e).2.1, fun z => (r'.kp b o e).2.2 (own b z)⟩, r'.tabs⟩
  · obtain ⟨hn, e'⟩ := at_ n o e
    obtain ⟨a, i, c⟩ := r'.cell n o e'
    have bo : belowO h.length o = true := List.all_eq_true.mp b o (List.mem_of_getElem? e)
    refine ⟨a, (ik n hn).trans i, ?_⟩
    cases o with
    | lst xs => obtain ⟨vs, e1, q⟩ := c; exact ⟨vs, e1, RepL.under keep ik _ _ bo q⟩
    | dct xs => obtain ⟨vs, e1, q⟩ := c; exact ⟨vs, e1, RepK.under keep ik _ _ bo q⟩
    | ins _ _ => exact c.elim
    | opq => trivial
  · obtain ⟨hn, i⟩ := up n a e
    have := r'.dom n a i
    rw [List.length_take]; omega
  · exact r'.inj n m o u a (at_ n o e1).2 (at_ m u e2).2 r1 r2 (up n a i1).2 (up m a i2).2
end
/-! ### the defs of a module -/
/-- a def as it stands: its function, its check -/
structure DefOk (Pg : Prog) (T : List (Addr × Str)) (K : PySem.W.Frag) (mg : Str → Option Value) (base : Heap) (F : Fn) : Prop where
  ex : ∃ (qual : Str) (params : Arguments) (body : List Stmt) (scope : Scope) (a : Addr) (oc : Value) (od : Option Addr) (dV kV doc pm : Value) (an : Option Addr) (cdv ct : Value) (osl : Array (Option Value)),
    mg F.name = some (.ref a) ∧ PySem.W.keepIn K (.ref a) = true ∧ K.lookup a = some ⟨oc, od, .func (PySem.W.fnOf F.name qual params body scope dV kV doc pm an cdv ct), osl⟩ ∧ PySem.W.codeIn K cdv qual = true ∧
    L2.Binds K (PySem.W.fnOf F.name qual params body scope dV kV doc pm an cdv ct) F.ps [] ∧ L2.FnScope F.N F.ps scope ∧ okSS Pg F.N scope.names F.body body = true ∧
    (Pg.lamS = scope.names → ∃ c P, cdv = .ref c ∧ LamX.TabB base mg c P ∧ (P, qual ++ ".<locals>." ++ "<lambda>") ∈ T ∧ ∀ p ∈ T, p.1 = P → p.2 = qual ++ ".<locals>." ++ "<lambda>")
/-- what holds of the module wherever one stands -/
structure Mods (Pg : Prog) (T : List (Addr × Str)) (K : PySem.W.Frag) (mg : Str → Option Value) (base : Heap) : Prop where
  free : ∀ x, Pg.free.contains x = true → mg x = none
  con : ∀ (k : Nat) (p : Str × D), Pg.cons[k]? = some p → ∃ v u, mg p.1 = some u ∧ RelV v u ∧ ∀ w H, Rep K w H p.2 v
  exs : ∀ (x : Nat) (nm : Str), Pg.exs[x]? = some nm → ∃ C, mg nm = some (.ref C) ∧ PySem.W.keepIn K (.ref C) = true ∧ PySem.W.subIn K (.ref C) (.type "BaseException") = some true ∧ PySem.W.typeIn K (.ref C) = some (.type "type") ∧
    ∃ bm B ni ii, ExcBaseFacts B ni ii bm ∧ PySem.W.excIn K C bm ni = true
  sub : ∀ (x y : Nat) (nm nm' : Str) (C C' : Addr), Pg.exs[x]? = some nm → Pg.exs[y]? = some nm' → mg nm = some (.ref C) → mg nm' = some (.ref C') → PySem.W.exmOne K (.ref C) (.ref C') = some (Pg.sub x y)
  told : ∀ (f : Str) (x : Nat), (f, x) ∈ Pg.told → ∀ X : L2.Cx, X.K = K → X.mg = mg → ToldK Pg X f x
  fns : ∀ F ∈ Pg.fns, DefOk Pg T K mg base F
section
variable {Pg : Prog} {T : List (Addr × Str)} {K : PySem.W.Frag} {mg : Str → Option Value} {base : Heap} {P : Program} {w : World}
theorem env_start {w : Wd} {H : Hp} {ds : List D} {vs : List V} {F : Fn} (p : RepL K w H ds vs) : EnvR K w H (start F ds) (L2.start F.N vs) := by
  have hl := p.length
  refine ⟨by simp [start, L2.start, hl], fun i d e => ?_⟩
  unfold getV start at e
  unfold L2.start
  by_cases hi : i < ds.length
  · rw [List.getElem?_append_left (by simpa using hi), List.getElem?_map] at e
    cases z : ds[i]? with
    | none => rw [z] at e; cases e
    | some x =>
      rw [z] at e
      obtain rfl : x = d := Option.some.inj e
      obtain ⟨v, hv, rv⟩ := p.get z
      exact ⟨v, by rw [List.getElem?_append_left (by simp; omega), List.getElem?_map, hv]; rfl, rv⟩
  · rw [List.getElem?_append_right (by simpa using hi), List.getElem?_replicate] at e
    by_cases q : i - (ds.map some).length < F.N.length - ds.length
    · rw [if_pos q] at e; cases e
    · rw [if_neg q] at e; cases e
/-- a body's ends are the call's -/
theorem fin_does {X : L2.Cx} {W : L2.WX} {E : XK} {wd : Wd} {h : Hh} {H : Hp} {r : SR} {Q : VK} (hW : ∀ cls d σ H, E cls d H → W cls d σ H) (d : Does X.K T (Rep X.K) (WxE Pg X.mg E) wd h H r.fin Q) : DoesS Pg T X W wd h H r { nx := fun _ H' => Q .non H', rt := Q } := by
  cases r with
  | next ρ h1 => exact fun w' H' σ' s r' _ => d w' H' .non s r' rfl
  | ret x h1 => exact fun w' H' v s r' p => d w' H' v s r' p
  | exc x ρ h1 => exact fun w' H' σ' s r' _ cls dd q => hW _ _ _ _ (d w' H' s r' cls dd q)
  | brk _ _ => exact d.elim
  | cnt _ _ => exact d.elim
  | stuck => exact d.elim
theorem fn_all (M : Mods Pg T K mg base) : ∀ (n f : Nat) (F : Fn), Pg.fns[f]? = some F → ∃ a fd, mg F.name = some (.ref a) ∧ PySem.W.keepIn K (.ref a) = true ∧ L2.Binds K fd F.ps [] ∧ (∃ oc od osl, K.lookup a = some ⟨oc, od, .func fd, osl⟩) ∧ ∀ m ≤ n, L2.FnOk P w K mg base (L2.CX P w) m a fd F.ps (spOf Pg K T mg m f) := by
  intro n
  induction n with
  | zero =>
    intro f F e
    obtain ⟨qual, params, body, scope, a, oc, od, dV, kV, doc, pm, an, cdv, ct, osl, h1, h2, h3, h4, h5, _⟩ := (M.fns F (List.mem_of_getElem? e)).ex
    refine ⟨a, _, h1, h2, h5, ⟨oc, od, osl, h3⟩, fun m hm => ?_⟩
    obtain rfl : m = 0 := by omega
    exact ⟨fun vs H Q E ⟨_, _, _, _, _, d⟩ => d.elim, fun A outer s H args us vs Q E _ _ _ _ ⟨_, _, _, _, _, d⟩ => d.elim⟩
  | succ n ih =>
    intro f F e
    obtain ⟨qual, params, body, scope, a, oc, od, dV, kV, doc, pm, an, cdv, ct, osl, h1, h2, h3, h4, h5, h6, h7, h8⟩ := (M.fns F (List.mem_of_getElem? e)).ex
    obtain ⟨a', fd', i1, i2, i3, ⟨oc', od', osl', i4⟩, i5⟩ := ih f F e
    rw [h1] at i1; cases i1
    rw [h3] at i4; cases i4
    refine ⟨a, _, h1, h2, h5, ⟨oc, od, osl, h3⟩, fun m hm => ?_⟩
    by_cases hmn : m ≤ n
    · exact i5 m hmn
    obtain rfl : m = n + 1 := by omega
    have len : ∀ vs H Q E, spOf Pg K T mg (n + 1) f vs H Q E → vs.length = F.ps.length := fun vs H Q E ⟨w0, h0, ds, _, p, d⟩ => by
      have d : Does K T (Rep K) (WxE Pg mg E) w0 h0 H (runF Pg n (run Pg n) f ds h0) Q := d
      unfold runF at d
      rw [e] at d
      by_cases hl : ds.length = F.ps.length
      · rw [p.length]; exact hl
      · simp only [if_neg hl] at d; exact d.elim
    refine L2.fn_of h3 h4 h6 len fun A outer s H vs Q E hr hsp => ?_
    have hlen := len _ _ _ _ hsp
    obtain ⟨w0, h0, ds, r0, p0, d⟩ := hsp
    have d : Does K T (Rep K) (WxE Pg mg E) w0 h0 H (runF Pg n (run Pg n) f ds h0) Q := d
    unfold runF at d
    rw [e] at d
    rw [p0.length] at hlen
    simp only [if_pos hlen] at d
    have g : Gd Pg T n F.N scope.names (L2.cxOf (L2.CX P w) P w K mg base F.N qual scope a cdv A outer s H E) := by
      refine ⟨rfl, h6.nd, fun x k e => .inl e, fun x e => rfl, rfl, hr, M.free, M.con, fun j f' F' e' => ?_, M.exs, M.sub, fun f x hx => M.told f x hx _ rfl rfl, fun e => ?_⟩
      · obtain ⟨a2, fd2, j1, j2, j3, _, j5⟩ := ih f' F' e'
        exact ⟨a2, fd2, j1, j2, j3, j5 (n - j) (Nat.sub_le n j)⟩
      · obtain ⟨c, P', k1, k2, k3, k4⟩ := h8 e
        exact ⟨c, P', k1, k2, k3, k4⟩
    have fc : Fc (L2.cxOf (L2.CX P w) P w K mg base F.N qual scope a cdv A outer s H E) := ⟨h6.kind, rfl, rfl⟩
    have io : IOk Pg n (cxOf Pg n (run Pg n)) := ⟨rfl, fun _ => rfl, fun _ => rfl, rfl⟩
    have tk : L2.Takes (L2.cxOf (L2.CX P w) P w K mg base F.N qual scope a cdv A outer s H E) (fun cls d _ H => E cls d H) := L2.takes_of rfl rfl rfl rfl
    refine ⟨_, s_SS (F := Pg.W) F.body fc g io rfl tk (L2.passes_of rfl) body h7, ?_⟩
    by_cases m1 : F.mode = 1
    · rw [if_pos m1] at d
      by_cases nr : noRefL ds = true
      · rw [if_pos nr] at d
        have k0 : WOk w0 w0.none := ⟨fun _ f => f, fun _ => rfl⟩
        refine ⟨w0.none, [], start F ds, r0.bare, env_start (RepL.bare k0 _ _ nr p0), fin_does (E := E) (fun _ _ _ _ q => q) ?_⟩
        unfold modeR at d
        generalize (execSS (cxOf Pg n (run Pg n)) Pg.W F.body (start F ds) []).fin = res at d ⊢
        cases res with
        | stuck => exact d.elim
        | ok x h1' =>
          have d : Does K T (Rep K) (WxE Pg mg E) w0 h0 H (if noRef x then .ok x h0 else .stuck) Q := d
          by_cases nx : noRef x = true
          · rw [if_pos nx] at d
            intro w' H' v s1 r1 p1
            obtain ⟨s2, r2⟩ := back1 r0 s1 r1
            exact d ⟨w0.ι, w'.fz, w'.kp⟩ H' v s2 r2 (Rep.bare (w := w') (w' := ⟨w0.ι, w'.fz, w'.kp⟩) ⟨fun _ f => f, fun _ => rfl⟩ _ _ nx p1)
          · rw [if_neg nx] at d; exact d.elim
        | exc x h1' =>
          have d : Does K T (Rep K) (WxE Pg mg E) w0 h0 H (if x.fs.all fun kv => noRef kv.2 then .exc x h0 else .stuck) Q := d
          by_cases nx : (x.fs.all fun kv => noRef kv.2) = true
          · rw [if_pos nx] at d
            intro w' H' s1 r1
            obtain ⟨s2, r2⟩ := back1 r0 s1 r1
            exact d ⟨w0.ι, w'.fz, w'.kp⟩ H' s2 r2
          · rw [if_neg nx] at d; exact d.elim
      · rw [if_neg nr] at d; exact d.elim
    · rw [if_neg m1] at d
      refine ⟨w0, h0, start F ds, r0, env_start p0, fin_does (E := E) (fun _ _ _ _ q => q) ?_⟩
      generalize (execSS (cxOf Pg n (run Pg n)) Pg.W F.body (start F ds) h0).fin = res at d ⊢
      generalize F.mode = mm at d m1
      match mm, m1 with
      | 0, _ => exact d
      | 1, z => exact (z rfl).elim
      | mm + 2, _ =>
        cases res with
        | stuck => exact d.elim
        | exc x h1' => exact d
        | ok x h1' =>
          have d : Does K T (Rep K) (WxE Pg mg E) w0 h0 H (if below h0.length x && (h1'.take h0.length).all (belowO h0.length) then .ok x (h1'.take h0.length) else .stuck) Q := d
          by_cases nx : (below h0.length x && (h1'.take h0.length).all (belowO h0.length)) = true
          · rw [if_pos nx] at d
            obtain ⟨n1, n2⟩ := and2 nx
            intro w' H' v s1 r1 p1
            obtain ⟨s2, r2⟩ := back2 r1 s1 r0 n2
            exact d (w'.cutTo h0.length) H' v s2 r2 (Rep.under (w := w') (w1 := w'.cutTo h0.length) (m := h0.length) ⟨fun _ f => f, fun _ => rfl⟩ (fun n hn => if_pos hn) _ _ n1 p1)
          · rw [if_neg nx] at d; exact d.elim
end
end Ir

set_option Elab.async false
set_option linter.all false
set_option maxRecDepth 100000
set_option maxHeartbeats 4000000
/-! Ir24: what the head tells is what the defs ask for. -/
namespace Ir
open PySem PySem.Spec PyProof.Rows
open L2 (V Hp HO TE TT TA TS VK SqL SqT upd upd_same upd_ne ne_of ne_of_none RelV Vals)
open He (Fa DefD Defn)
/-! ### constants -/
mutual
def repB (K : PySem.W.Frag) : D → Value → Bool
  | .non, u => match u with
    | .none => true
    | _ => false
  | .bl a, u => match u with
    | .bool b => a == b
    | _ => false
  | .int i, u => match u with
    | .int j _ => decide (i = j)
    | _ => false
  | .str x, u => match u with
    | .str y _ => decide (x = y)
    | _ => false
  | .tup xs, u => match u with
    | .ref a => (match K.lookup a with
      | some ⟨.type c, none, .seq its _, sl⟩ => decide (c = "tuple") && sl.isEmpty && decide (its.size ≤ sizeLine) && repBL K xs its.toList
      | _ => false)
    | _ => false
  | _, _ => false
def repBL (K : PySem.W.Frag) : List D → List Value → Bool
  | [], us => us.isEmpty
  | x :: xs, us => match us with
    | u :: us => repB K x u && repBL K xs us
    | [] => false
end
mutual
theorem repB_ok {K : PySem.W.Frag} : ∀ (d : D) (u : Value), repB K d u = true → ∃ v, RelV v u ∧ ∀ w H, Rep K w H d v
  | .non, u, h => by
    cases u <;> first | exact ⟨.non, rfl, fun _ _ => rfl⟩ | cases h
  | .bl a, u, h => by
    cases u <;> first | (cases h; done) | skip
    rename_i b
    have e : a = b := by simpa [repB] using h
    subst e
    exact ⟨.bl a, rfl, fun _ _ => rfl⟩
  | .int i, u, h => by
    cases u <;> first | (cases h; done) | skip
    rename_i j t
    have e : i = j := of_decide_eq_true h
    subst e
    exact ⟨.int i, ⟨t, rfl⟩, fun _ _ => rfl⟩
  | .str x, u, h => by
    cases u <;> first | (cases h; done) | skip
    rename_i y t
    have e : x = y := of_decide_eq_true h
    subst e
    exact ⟨.str x, ⟨t, rfl⟩, fun _ _ => rfl⟩
  | .tup xs, u, h => by
    unfold repB at h
    split at h
    · rename_i a
      split at h
      · rename_i c its n sl q
        obtain ⟨h, h4⟩ := and2 h
        obtain ⟨h, h3⟩ := and2 h
        obtain ⟨h1, h2⟩ := and2 h
        obtain ⟨vs, k1, k2⟩ := repBL_ok xs _ h4
        refine ⟨.ref a, rfl, fun w H => ⟨a, vs, rfl, .inr ⟨its, n, ?_, of_decide_eq_true h3, k1⟩, k2 w H⟩⟩
        rw [q, of_decide_eq_true h1, Array.isEmpty_iff.mp h2]
      · cases h
    · cases h
  | .lst _, _, h => by cases h
  | .ref _, _, h => by cases h
  | .scr _, _, h => by cases h
theorem repBL_ok {K : PySem.W.Frag} : ∀ (ds : List D) (us : List Value), repBL K ds us = true → ∃ vs, Vals vs us ∧ ∀ w H, RepL K w H ds vs
  | [], us, h => by
    cases us with
    | nil => exact ⟨[], .nil, fun _ _ => rfl⟩
    | cons _ _ => cases h
  | x :: xs, us, h => by
    cases us with
    | nil => cases h
    | cons u us =>
      obtain ⟨h1, h2⟩ := and2 h
      obtain ⟨v, a1, a2⟩ := repB_ok x u h1
      obtain ⟨vs, b1, b2⟩ := repBL_ok xs us h2
      exact ⟨v :: vs, .cons a1 b1, fun w H => ⟨v, vs, rfl, a2 w H, b2 w H⟩⟩
end
def conB (K : PySem.W.Frag) (p : Str × D) : Bool := match PySem.W.nsIn K mainGlobals p.1 with
  | some (some u) => repB K p.2 u
  | _ => false
/-! ### arguments of a plain def -/
def plainArgs (p : Arguments) (ps : List Str) : Bool := p.posonlyargs.isEmpty && decide (p.args.map (·.arg) = ps) && p.vararg.isNone && p.kwonlyargs.isEmpty && p.kwarg.isNone && decide ps.Nodup
theorem lookup_zip {us : List Value} : ∀ {ps : List Str}, us.length = ps.length → ps.Nodup → (ps.filterMap fun n => ((ps.zip us).lookup n).map (n, ·)) = ps.zip us := by
  intro ps hl nd
  have key : ∀ (qs : List Str) (vs : List Value) (pre : List (Str × Value)), vs.length = qs.length → qs.Nodup → (∀ n ∈ qs, pre.lookup n = none) → (qs.filterMap fun n => ((pre ++ qs.zip vs).lookup n).map (n, ·)) = qs.zip vs := by
    intro qs
    induction qs with
    | nil => intro vs pre _ _ _; rfl
    | cons q qs ih =>
      intro vs pre hl nd hp
      cases vs with
      | nil => cases hl
      | cons v vs =>
        have e0 : (pre ++ (q, v) :: qs.zip vs).lookup q = some v := by
          rw [List.lookup_append, hp q (by simp)]
          simp
        rw [List.zip_cons_cons, List.filterMap_cons, e0]
        have ndc := List.nodup_cons.mp nd
        have e1 := ih vs (pre ++ [(q, v)]) (by simpa using hl) ndc.2 fun n hn => by
          rw [List.lookup_append, hp n (by simp [hn])]
          have hne : (n == q) = false := by
            simp only [beq_eq_false_iff_ne, ne_eq]
            exact fun z => ndc.1 (z ▸ hn)
          simp [List.lookup_cons, hne]
        rw [List.append_assoc] at e1
        simp only [Option.map_some]
        exact congrArg _ e1
  exact key ps us [] hl nd fun _ _ => rfl
theorem binds_plain {name qual : Str} {p : Arguments} {ps : List Str} {body : List Stmt} {scope : Scope} {kV doc pm : Value} {an : Option Addr} {cdv ct : Value} {us : List Value} (h : plainArgs p ps = true) (hl : us.length = ps.length) :
    bindArgs (PySem.W.fnOf name qual p body scope .none kV doc pm an cdv ct) ⟨us, []⟩ = pure (ps.zip us) := by
  unfold plainArgs at h
  obtain ⟨h, h6⟩ := and2 h
  obtain ⟨h, h5⟩ := and2 h
  obtain ⟨h, h4⟩ := and2 h
  obtain ⟨h, h3⟩ := and2 h
  obtain ⟨h1, h2⟩ := and2 h
  obtain ⟨po, pa, va, ko, kd, kw, df⟩ := p
  obtain rfl : po = [] := List.isEmpty_iff.mp h1
  obtain rfl : va = none := Option.isNone_iff_eq_none.mp h3
  obtain rfl : ko = [] := List.isEmpty_iff.mp h4
  obtain rfl : kw = none := Option.isNone_iff_eq_none.mp h5
  have h2 : pa.map (·.arg) = ps := of_decide_eq_true h2
  have nd : ps.Nodup := of_decide_eq_true h6
  have hz := lookup_zip hl nd
  have hmiss : (ps.filter fun n => ((ps.zip us).lookup n).isNone) = [] := by
    rw [List.filter_eq_nil_iff]
    intro n hn z
    have : ∃ v, (ps.zip us).lookup n = some v := by
      cases q : (ps.zip us).lookup n with
      | some v => exact ⟨v, rfl⟩
      | none =>
        exfalso
        have len := congrArg List.length hz
        rw [List.length_zip, hl, Nat.min_self] at len
        have lt : (ps.filterMap fun n => ((ps.zip us).lookup n).map (n, ·)).length < ps.length := by
          have : ∀ (qs : List Str), n ∈ qs → (qs.filterMap fun n => ((ps.zip us).lookup n).map (n, ·)).length < qs.length := by
            intro qs
            induction qs with
            | nil => intro hn; cases hn
            | cons a qs ih =>
              intro hn
              rw [List.filterMap_cons]
              by_cases ha : a = n
              · subst ha
                rw [q]
                exact Nat.lt_succ_of_le (List.length_filterMap_le _ _)
              · have hn' : n ∈ qs := by
                  rcases List.mem_cons.mp hn with z | z
                  · exact (ha z.symm).elim
                  · exact z
                have := ih hn'
                cases (ps.zip us).lookup a with
                | none => exact Nat.lt_succ_of_lt this
                | some v => exact Nat.succ_lt_succ this
          exact this ps hn
        omega
    obtain ⟨v, e⟩ := this
    rw [e] at z; cases z
  unfold bindArgs
  have e0 : seqItems? Value.none = pure none := rfl
  simp only [List.map_nil, List.nil_append, h2, List.append_nil, hl, List.forIn_nil, pure_bind, e0, Option.getD_none, Array.toList_empty, List.drop_nil, List.length_nil, Nat.sub_zero, List.take_length, hmiss, List.isEmpty_nil, Bool.not_true, Bool.false_eq_true, if_false, List.zip_nil_right, gt_iff_lt, Nat.lt_irrefl, decide_false, Bool.false_and, hz]
/-! ### defs -/
def fnScB (N ps : List Str) (sc : Scope) : Bool := decide (sc.kind = .function) && !sc.isCoroutine && !sc.isGenerator && decide N.Nodup && decide (N.take ps.length = ps) && (ps.all fun x => decide (sc.names.lookup x = some .local) || decide (sc.names.lookup x = some .cell)) && sc.names.all fun y => !decide (y.2 = .free)
theorem fnScB_ok {N ps : List Str} {sc : Scope} (h : fnScB N ps sc = true) : L2.FnScope N ps sc := by
  unfold fnScB at h
  simp only [Bool.and_eq_true, Bool.or_eq_true, Bool.not_eq_true', decide_eq_true_eq, decide_eq_false_iff_not, List.all_eq_true] at h
  obtain ⟨⟨⟨⟨⟨⟨h1, h2⟩, h3⟩, h4⟩, h5⟩, h6⟩, h7⟩ := h
  exact ⟨h1, h2, h3, h4, h5, h6, h7⟩
def defB (Pg : Prog) (F : Fn) (d : DefD) : Bool := decide (d.at_ = (F.name, none)) && decide (d.name = F.name) && d.dfl.isEmpty && d.kwd.isEmpty && plainArgs d.params F.ps && fnScB F.N F.ps d.scope && okSS Pg F.N d.scope.names F.body d.body
def toldB (Pg : Prog) (f : Str) (x : Nat) (d : DefD) : Bool := decide (d.at_ = (f, none)) && decide (d.name = f) && decide (d.qual = f) && d.dfl.isEmpty && d.kwd.isEmpty && (match d.body with
  | [.Try [.Expr (.Call (.Name a _) [] [] _) _] [.ExceptHandler (some (.Name nm _)) (some e) [.Return (some (.Constant (.bool true) _ _)) _] _] [] [] _, .Return (some (.Constant (.bool false) _ _)) _] =>
    plainArgs d.params [a] && fnScB [a, e] [a] d.scope && decide (d.scope.names.lookup e = some .local) && decide (d.scope.names.lookup nm = some .globalImplicit) && decide (Pg.exs[x]? = some nm) && okName a && !(nm == ("__debug__" : Str))
  | _ => false)
section
variable {Pg : Prog} {K : PySem.W.Frag} {mg : Str → Option Value} {fa : List Fa} {fn : List DefD} {h : Heap}
theorem fn_facts (c : He.SaysD fa fn K) {d : DefD} (hd : d ∈ fn) (e1 : d.dfl.isEmpty = true) (e2 : d.kwd.isEmpty = true) : ∃ fd, L2.FunD K d.name d.qual d.params d.body d.scope [] [] (He.fAd K d.at_) fd := by
  obtain ⟨fd, F⟩ := c.defs hd
  have k1 : d.dvs K = [] := by unfold DefD.dvs; rw [List.isEmpty_iff.mp e1]; rfl
  have k2 : d.kws K = [] := by unfold DefD.kws; rw [List.isEmpty_iff.mp e2]; rfl
  rw [k1, k2] at F
  exact ⟨fd, F⟩
theorem dv_none {dV : Value} (h : L2.DflV K dV []) : dV = .none := by
  rcases h with ⟨_, e⟩ | ⟨e, _⟩
  · exact e
  · exact (e rfl).elim
theorem def_ok {base : Heap} {tf : List Defn} (c : He.SaysD fa fn K) (X : K.In h) (G : h.Ns mainGlobals mg) {F : Fn} {d : DefD} (hd : d ∈ fn) (hg : Fa.glo F.name ∈ fa) (b : defB Pg F d = true) (q : Str)
    (lam : Pg.lamS = d.scope.names → d.at_ ∈ tf ∧ q = d.qual ++ ".<locals>." ++ "<lambda>") (one : ∀ p ∈ tf, ∀ p' ∈ tf, p = p') (tb : ∀ p ∈ tf, LamX.TabB base mg (He.cT K p).1 (He.cT K p).2) :
    DefOk Pg (tf.map fun p => ((He.cT K p).2, q)) K mg base F := by
  unfold defB at b
  obtain ⟨b, b7⟩ := and2 b
  obtain ⟨b, b6⟩ := and2 b
  obtain ⟨b, b5⟩ := and2 b
  obtain ⟨b, b4⟩ := and2 b
  obtain ⟨b, b3⟩ := and2 b
  obtain ⟨b1, b2⟩ := and2 b
  have b1 : d.at_ = (F.name, none) := of_decide_eq_true b1
  have b2 : d.name = F.name := of_decide_eq_true b2
  obtain ⟨fd, FD⟩ := fn_facts c hd b3 b4
  obtain ⟨oc, od, dV, kV, doc, pm, an, cdv, ct, osl, rfl, lk, hcd, hD, _⟩ := FD.ex
  obtain rfl := dv_none hD
  have ga : He.fAd K d.at_ = He.ga K F.name := by rw [b1]; rfl
  have g1 : mg F.name = some (.ref (He.fAd K d.at_)) := by rw [ga]; exact He.glo_ok X G (c.facts hg)
  refine ⟨d.qual, d.params, d.body, d.scope, He.fAd K d.at_, oc, od, .none, kV, doc, pm, an, cdv, ct, osl, g1, FD.kp, b2 ▸ lk, hcd, ?_, fnScB_ok b6, b7, fun e => ?_⟩
  · exact .all fun us hl => binds_plain b5 hl
  · obtain ⟨l1, l2⟩ := lam e
    obtain ⟨cc, rfl⟩ := He.codeIn_ref hcd
    have ec : (He.cT K d.at_).1 = cc := He.codeOf_eq lk rfl
    refine ⟨cc, (He.cT K d.at_).2, rfl, ec ▸ tb _ l1, List.mem_map.mpr ⟨d.at_, l1, by rw [l2]⟩, fun p hp _ => ?_⟩
    obtain ⟨p', hp', e'⟩ := List.mem_map.mp hp
    rw [← e', l2]
theorem told_ok (c : He.SaysD fa fn K) (X : K.In h) (G : h.Ns mainGlobals mg) {f : Str} {x : Nat} {d : DefD} (hd : d ∈ fn) (hg : Fa.glo f ∈ fa) (b : toldB Pg f x d = true) (Y : L2.Cx) (hK : Y.K = K) (hm : Y.mg = mg) : ToldK Pg Y f x := by
  unfold toldB at b
  obtain ⟨b, b6⟩ := and2 b
  obtain ⟨b, b5⟩ := and2 b
  obtain ⟨b, b4⟩ := and2 b
  obtain ⟨b, b3⟩ := and2 b
  obtain ⟨b1, b2⟩ := and2 b
  have b1 : d.at_ = (f, none) := of_decide_eq_true b1
  have b2 : d.name = f := of_decide_eq_true b2
  have b3 : d.qual = f := of_decide_eq_true b3
  obtain ⟨fd, FD⟩ := fn_facts c hd b4 b5
  obtain ⟨oc, od, dV, kV, doc, pm, an, cdv, ct, osl, rfl, lk, hcd, hD, _⟩ := FD.ex
  obtain rfl := dv_none hD
  have ga : He.fAd K d.at_ = He.ga K f := by rw [b1]; rfl
  have g1 : mg f = some (.ref (He.fAd K d.at_)) := by rw [ga]; exact He.glo_ok X G (c.facts hg)
  generalize hbody : d.body = body at b6 lk
  split at b6
  · obtain ⟨b6, k7⟩ := and2 b6
    obtain ⟨b6, k6⟩ := and2 b6
    obtain ⟨b6, k5⟩ := and2 b6
    obtain ⟨b6, k4⟩ := and2 b6
    obtain ⟨b6, k3⟩ := and2 b6
    obtain ⟨k1, k2⟩ := and2 b6
    obtain ⟨n1, n2⟩ := and2 k6
    rw [b2, b3] at lk
    have sc := fnScB_ok k2
    refine ⟨He.fAd K d.at_, oc, od, d.params, d.scope, .none, kV, doc, pm, an, cdv, ct, osl, _, _, _, _, _, _, _, _, _, _, _, _, _, _, _, by rw [hm]; exact g1, by rw [hK]; exact FD.kp, by rw [hK]; exact lk, by rw [hK, ← b3]; exact hcd, ?_, sc, ?_, of_decide_eq_true k3, of_decide_eq_true k4, of_decide_eq_true k5, by simpa using n1, by simpa using n2, by simpa using k7⟩
    · exact .all fun us hl => binds_plain k1 hl
    · rcases sc.par _ (List.mem_cons_self ..) with z | z
      · exact .inl z
      · exact .inr (.inl z)
  · cases b6
/-- what a program's data must say -/
structure Fit (Pg : Prog) (fa : List Fa) (fn : List DefD) (tf : List Defn) (q : Str) : Prop where
  free : ∀ x ∈ Pg.free, Fa.free x ∈ fa
  exs : ∀ x ∈ Pg.exs, Fa.glo x ∈ fa ∧ Fa.exc x ∈ fa
  sub : ∀ (i j : Nat) (x y : Str), Pg.exs[i]? = some x → Pg.exs[j]? = some y → Fa.exm x y (Pg.sub i j) ∈ fa
  fns : ∀ F ∈ Pg.fns, Fa.glo F.name ∈ fa ∧ ∃ d ∈ fn, defB Pg F d = true ∧ (Pg.lamS = d.scope.names → d.at_ ∈ tf ∧ q = d.qual ++ ".<locals>." ++ "<lambda>")
  told : ∀ p ∈ Pg.told, Fa.glo p.1 ∈ fa ∧ ∃ d ∈ fn, toldB Pg p.1 p.2 d = true
  one : ∀ p ∈ tf, ∀ p' ∈ tf, p = p'
theorem mods_of {base : Heap} {tf : List Defn} {q : Str} (k : Fit Pg fa fn tf q) (c : He.SaysD fa fn K) (X : K.In h) (G : h.Ns mainGlobals mg) (ex : (Pg.cons.all fun p => conB K p) = true) (tb : ∀ p ∈ tf, LamX.TabB base mg (He.cT K p).1 (He.cT K p).2) :
    Mods Pg (tf.map fun p => ((He.cT K p).2, q)) K mg base where
  free := fun x hx => He.free_ok X G (c.facts (k.free x (by simpa using hx)))
  con := fun i p e => by
    have b := List.all_eq_true.mp ex p (List.mem_of_getElem? e)
    unfold conB at b
    split at b
    · rename_i u hu
      obtain ⟨v, a1, a2⟩ := repB_ok _ _ b
      exact ⟨v, u, PySem.W.mg_of X G hu, a1, a2⟩
    · cases b
  exs := fun i x e => by
    obtain ⟨h1, h2⟩ := k.exs x (List.mem_of_getElem? e)
    obtain ⟨e1, e2, e3, e4⟩ := He.exc_ok (c.facts h2)
    exact ⟨He.ga K x, He.glo_ok X G (c.facts h1), e2, e3, e4, _, _, _, _, PySem.F.excBase_ValueError, e1⟩
  sub := fun i j x y C C' e1 e2 m1 m2 => by
    have a1 := He.glo_ok X G (c.facts (k.exs x (List.mem_of_getElem? e1)).1)
    have a2 := He.glo_ok X G (c.facts (k.exs y (List.mem_of_getElem? e2)).1)
    rw [m1] at a1; cases a1
    rw [m2] at a2; cases a2
    exact He.exm_ok (c.facts (k.sub i j x y e1 e2))
  told := fun f x hx Y hK hm => by
    obtain ⟨h1, d, h2, h3⟩ := k.told _ hx
    exact told_ok c X G h2 h1 h3 Y hK hm
  fns := fun F hF => by
    obtain ⟨h1, d, h2, h3, h4⟩ := k.fns F hF
    exact def_ok c X G h2 h1 h3 q h4 k.one tb
end
/-! ### the law -/
def kpOf : Option HO → Option HO
  | some (.lst xs) => some (.lst xs)
  | some (.frz o (.lst xs)) => some (.frz o (.lst xs))
  | _ => none
theorem kpOf_at {x : Option HO} {o : HO} (e : kpOf x = some o) : x = some o ∧ ∀ ps, o ≠ .tbl ps := by
  unfold kpOf at e
  split at e
  · cases e; exact ⟨rfl, fun _ z => by cases z⟩
  · cases e; exact ⟨rfl, fun _ z => by cases z⟩
  · cases e
theorem law_at {l : PySem.W.OpenLaw} {w : World} {K : PySem.W.Frag} {mg : Str → Option Value} {fa : List Fa} {fn : List DefD} {tf : List Defn} {h : Heap} {Pg : Prog} {q : Str} {k n f : Nat} {F : Fn} {x : Str} {fad : Addr} (fit : Fit Pg fa fn tf q) (X : K.In h) (G : h.Ns mainGlobals mg)
    (c : He.SaysX fa fn [] tf (fun K => Pg.cons.all fun p => conB K p) w h K) (hF : Pg.fns[f]? = some F) (hx : F.ps = [x]) (hm : mg F.name = some (.ref fad))
    (law : ∀ ns : List Int, ns.length ≤ n → ∃ h', run Pg k 0 f [.scr ns] [] = .ok (.bl true) h') : LamX.LawAtS l w K (L2.CX l.prog w) k n x mg fad h := by
  have cd : He.SaysD fa fn K := congrArg (fun z : He.AlT => z.1) c.t
  -- the function, whatever the base
  have base0 : ∀ base : Heap, K.In base → base.Ns mainGlobals mg → (∀ p ∈ tf.map (He.cT K), LamX.TabB base mg p.1 p.2) → Mods Pg (tf.map fun p => ((He.cT K p).2, q)) K mg base := fun base X' G' tb =>
    mods_of fit cd X' G' c.more fun p hp => tb _ (List.mem_map.mpr ⟨p, hp, rfl⟩)
  obtain ⟨h1, d, h2, h3, h4⟩ := fit.fns F (List.mem_of_getElem? hF)
  have b := h3
  unfold defB at b
  obtain ⟨b, b7⟩ := and2 b
  obtain ⟨b, b6⟩ := and2 b
  obtain ⟨b, b5⟩ := and2 b
  obtain ⟨b, b4⟩ := and2 b
  obtain ⟨b, b3⟩ := and2 b
  obtain ⟨b1, b2⟩ := and2 b
  have b1 : d.at_ = (F.name, none) := of_decide_eq_true b1
  obtain ⟨fd, FD⟩ := fn_facts cd h2 b3 b4
  obtain ⟨oc, od, dV, kV, doc, pm, an, cdv, ct, osl, efd, lk, hcd, hD, _⟩ := FD.ex
  obtain rfl := dv_none hD
  have ga : He.fAd K d.at_ = He.ga K F.name := by rw [b1]; rfl
  have g1 : mg F.name = some (.ref (He.fAd K d.at_)) := by rw [ga]; exact He.glo_ok X G (cd.facts h1)
  rw [hm] at g1
  obtain rfl : fad = He.fAd K d.at_ := by cases g1; rfl
  refine ⟨fd, tf.map (He.cT K), spOf Pg K (tf.map fun p => ((He.cT K p).2, q)) mg k f, fun p hp => ?_, fun p hp => ?_, fun p hp => ?_, fun s u => ?_, fun H a ns hl _ hT hS => ?_, fun base X' G' tb => ?_⟩
  · obtain ⟨p', hp', rfl⟩ := List.mem_map.mp hp
    exact c.empty p' hp'
  · obtain ⟨p', hp', rfl⟩ := List.mem_map.mp hp
    exact c.out p' hp'
  · obtain ⟨p', hp', rfl⟩ := List.mem_map.mp hp
    exact PySem.W.codeHd_of_K X (c.hd p' hp')
  · rw [hx] at b5
    subst efd
    exact BindsTo.of_eq (binds_plain (ps := [x]) b5 (us := [u]) rfl)
  · let wd : Wd := ⟨fun _ => none, fun _ => False, fun b => if b = a then kpOf (H a) else none⟩
    have tabs : LamX.Tabs (tf.map fun p => ((He.cT K p).2, q)) H := fun p hp => by
      obtain ⟨p', hp', rfl⟩ := List.mem_map.mp hp
      exact LamX.TabS.nil (hT _ (List.mem_map.mpr ⟨p', hp', rfl⟩))
    have hr : HRel K (tf.map fun p => ((He.cT K p).2, q)) wd [] H := by
      refine ⟨fun n o e => by simp at e, fun n a e => (nomatch e), fun n m o u a e => by simp at e, fun a o => (no_own wd o).elim, fun a f => f.elim, fun b o e => ?_, tabs⟩
      have e : (if b = a then kpOf (H a) else none) = some o := e
      by_cases hb : b = a
      · rw [if_pos hb] at e
        obtain ⟨e1, e2⟩ := kpOf_at e
        exact ⟨by rw [hb]; exact e1, e2, no_own wd⟩
      · rw [if_neg hb] at e; cases e
    have scr : Scr K wd a (ns.map V.int) := by
      rcases hS with (hS | ⟨o, hS⟩) | hS
      · exact .inl ((if_pos rfl).trans (by rw [hS]; rfl))
      · exact .inr (.inl ⟨o, (if_pos rfl).trans (by rw [hS]; rfl)⟩)
      · exact .inr (.inr hS)
    obtain ⟨h', e⟩ := law ns hl
    refine ⟨wd, [], [.scr ns], hr, RepL.cons ⟨a, rfl, scr⟩ RepL.nil, ?_⟩
    rw [e]
    exact fun w' H' v _ _ p => p
  · obtain ⟨a', fd', i1, _, _, ⟨oc', od', osl', i4⟩, i5⟩ := fn_all (P := l.prog) (w := w) (base0 base X' G' tb) k f F hF
    rw [hm] at i1; cases i1
    rw [lk] at i4; cases i4
    rw [← hx]
    exact i5 k (Nat.le_refl k)
end Ir

set_option Elab.async false
set_option linter.all false
set_option maxRecDepth 100000
set_option maxHeartbeats 4000000
/-! Ir25: the interpreter's steps as equations. -/
namespace Ir
open PySem
section
variable {h : Hh} {i j : Int} {x y : D} {xs ys : List D} {a b : Str} {n : Nat} {c d : Bool}
theorem q_addI : prim .add [.int i, .int j] h = .ok (.int (i + j)) h := rfl
theorem q_addT : prim .add [.tup xs, .tup ys] h = okIf (xs.length + ys.length ≤ sizeLine) (.ok (.tup (xs ++ ys)) h) := rfl
theorem q_addL : prim .add [.lst xs, .lst ys] h = okIf (xs.length + ys.length ≤ sizeLine) (.ok (.lst (xs ++ ys)) h) := rfl
theorem q_sub : prim .sub [.int i, .int j] h = .ok (.int (i - j)) h := rfl
theorem q_mul : prim .mul [.int i, .int j] h = okIf (decide (-(2 ^ 64) < i ∧ i < 2 ^ 64) || decide (-(2 ^ 64) < j ∧ j < 2 ^ 64)) (.ok (.int (i * j)) h) := rfl
theorem q_fdiv : prim .fdiv [.int i, .int j] h = okIf (0 < j ∧ j < 1073741824) (.ok (.int (i / j)) h) := rfl
theorem q_mod : prim .mod [.int i, .int j] h = okIf (0 < j) (.ok (.int (i % j)) h) := rfl
theorem q_pow : prim .pow [.int i, .int j] h = okIf (0 ≤ j ∧ j ≤ 1000000 ∧ i.natAbs < 2 ^ 64) (.ok (.int (i ^ j.toNat)) h) := rfl
theorem q_neg : prim .neg [.int i] h = .ok (.int (-i)) h := rfl
theorem q_eq : prim .eq [x, y] h = okB h (eqOf h x y) := rfl
theorem q_ne : prim .ne [x, y] h = okB h ((eqOf h x y).map not) := rfl
theorem q_lt : prim .lt [x, y] h = okB h (ltOf h x y) := rfl
theorem q_le : prim .le [.int i, .int j] h = .ok (.bl (decide (i ≤ j))) h := rfl
theorem q_gt : prim .gt [.int i, .int j] h = .ok (.bl (decide (j < i))) h := rfl
theorem q_ge : prim .ge [.int i, .int j] h = .ok (.bl (decide (j ≤ i))) h := rfl
theorem q_inn : prim .inn [x, y] h = okB h (inOf h x y) := rfl
theorem q_nin : prim .nin [x, y] h = okB h ((inOf h x y).map not) := rfl
theorem q_isN0 : prim .isN [.non] h = .ok (.bl true) h := rfl
theorem q_isNI : prim .isN [.int i] h = .ok (.bl false) h := rfl
theorem q_isNB : prim .isN [.bl c] h = .ok (.bl false) h := rfl
theorem q_isNS : prim .isN [.str a] h = .ok (.bl false) h := rfl
theorem q_isNT : prim .isN [.tup xs] h = .ok (.bl false) h := rfl
theorem q_ixT : prim .idx [.tup xs, .int i] h = okD h (L2.atI xs i) := rfl
theorem q_ixL : prim .idx [.lst xs, .int i] h = okD h (L2.atI xs i) := rfl
theorem q_ixS {ns : List Int} : prim .idx [.scr ns, .int i] h = okD h (L2.atI (ns.map D.int) i) := rfl
theorem q_ixZ : prim .idx [.str a, .int i] h = okIf (a.length ≤ sizeLine) (okD h ((L2.atI a.cps.toList i).map fun c => .str ⟨#[c]⟩)) := rfl
theorem q_ixR (e : h[n]? = some (.lst xs)) : prim .idx [.ref n, .int i] h = okD h (L2.atI xs i) := by
  show (match seqOf h (.ref n) with
    | some xs => okD h (L2.atI xs i)
    | none => .stuck) = _
  simp only [seqOf, e]
theorem q_lenS : prim .len [.str a] h = okIf (a.length ≤ sizeLine) (.ok (.int a.length) h) := rfl
theorem q_lenT : prim .len [.tup xs] h = .ok (.int xs.length) h := rfl
theorem q_lenL : prim .len [.lst xs] h = .ok (.int xs.length) h := rfl
theorem q_lenC {ns : List Int} : prim .len [.scr ns] h = .ok (.int (ns.map D.int).length) h := rfl
theorem q_all : prim .all [.lst xs] h = okB h ((blsOf xs).map fun bs => bs.all id) := rfl
theorem q_sum : prim .sum [.lst xs] h = okD h ((intsOf xs).map fun ns => .int ns.sum) := rfl
theorem q_int : prim .int [.int i] h = .ok (.int i) h := rfl
theorem q_max2 : prim .max2 [.int i, .int j] h = .ok (.int (if j > i then j else i)) h := rfl
theorem q_tupL : prim .tuple [.lst xs] h = .ok (.tup xs) h := rfl
theorem q_tupR (e : h[n]? = some (.lst xs)) : prim .tuple [.ref n] h = .ok (.tup xs) h := by
  show (match seqOf h (.ref n) with
    | some xs => R.ok (D.tup xs) h
    | none => .stuck) = _
  simp only [seqOf, e]
theorem q_isa {t : Ty} : prim (.isa t) [x] h = okB h (isTy h x t) := rfl
theorem q_isas {ts : List Ty} : prim (.isas ts) [x] h = okB h (isTys h x ts) := rfl
theorem q_append (e : h[n]? = some (.lst xs)) : prim .append [.ref n, y] h = okIf (xs.length < sizeLine) (.ok .non (h.set n (.lst (xs ++ [y])))) := by
  show (match h[n]? with
    | some (.lst xs) => okIf (xs.length < sizeLine) (R.ok .non (h.set n (.lst (xs ++ [y]))))
    | _ => .stuck) = _
  rw [e]
theorem q_extend (e : h[n]? = some (.lst xs)) : prim .extend [.ref n, .tup ys] h = okIf (xs.length + ys.length ≤ sizeLine) (.ok .non (h.set n (.lst (xs ++ ys)))) := by
  show (match h[n]? with
    | some (.lst xs) => okIf (xs.length + ys.length ≤ sizeLine) (R.ok .non (h.set n (.lst (xs ++ ys))))
    | _ => .stuck) = _
  rw [e]
theorem okIf_pos {p : Prop} [Decidable p] {r : R D} (hp : p) : okIf p r = r := if_pos hp
theorem fits {n m : Nat} (hm : m ≤ 16777216 := by decide) (hn : n ≤ m) : n ≤ sizeLine := by rw [sizeLine_eq]; omega
end
end Ir

set_option Elab.async false
set_option linter.all false
set_option maxRecDepth 100000
set_option maxHeartbeats 4000000
/-! Ir26: loops of the interpreter, by a word. -/
namespace Ir
open PySem
/-- a reader that gives these, while that holds -/
theorem ones_fixed (xs : List D) (i : Nat) (h : Hh) : ones (fixed xs) i h = some (xs.map It.one)[i]? := by
  show some ((xs[i]?).map It.one) = _
  rw [List.getElem?_map]
theorem ones_live {n : Nat} {xs : List D} {h : Hh} (e : h[n]? = some (.lst xs)) (i : Nat) : ones (live n) i h = some (xs.map It.one)[i]? := by
  unfold ones live
  rw [e]
  show some ((xs[i]?).map It.one) = _
  rw [List.getElem?_map]
def rgIts (lo : Int) (m : Nat) : List It := (List.range m).map fun (i : Nat) => It.one (.int (lo + (i : Int)))
theorem rgIts_len {lo : Int} {m : Nat} : (rgIts lo m).length = m := by simp [rgIts]
theorem ones_rg (lo : Int) (m i : Nat) (h : Hh) : ones (rgInts lo m) i h = some (rgIts lo m)[i]? := by
  unfold ones rgInts rgIts
  rw [List.getElem?_map]
  by_cases q : i < m
  · rw [if_pos q, List.getElem?_range q]; rfl
  · rw [if_neg q, List.getElem?_eq_none (by simpa using q)]; rfl
def zipIts (xs ys : List D) : List It := (xs.zip ys).map fun p => .many [p.1, p.2]
theorem zipIts_len {xs ys : List D} : (zipIts xs ys).length = min xs.length ys.length := by simp [zipIts]
theorem zip_at {a b : Rv} {xs ys : List D} {i : Nat} {h : Hh} (ea : a i h = some xs[i]?) (eb : b i h = some ys[i]?) : zipRd a b i h = some (zipIts xs ys)[i]? := by
  unfold zipRd zipIts
  rw [ea, eb, List.getElem?_map, List.zip, List.getElem?_zipWith]
  cases xs[i]? <;> cases ys[i]? <;> rfl
theorem zip_fixed (xs ys : List D) (i : Nat) (h : Hh) : zipRd (fixed xs) (fixed ys) i h = some (zipIts xs ys)[i]? := zip_at rfl rfl
theorem zip_live {n : Nat} {xs ys : List D} {h : Hh} (e : h[n]? = some (.lst xs)) (i : Nat) : zipRd (live n) (fixed ys) i h = some (zipIts xs ys)[i]? := zip_at (by unfold live; rw [e]) rfl
/-- a comprehension, each turn an answer -/
theorem lc_go {rd : Rd} {f : It → Hh → R (Option D)} {its : List It} {Inv : Hh → Prop} {Q : It → D → Prop} (hrd : ∀ i h, Inv h → rd i h = some its[i]?) (hf : ∀ x ∈ its, ∀ h, Inv h → ∃ y h', f x h = .ok (some y) h' ∧ Inv h' ∧ Q x y) (hl : its.length ≤ sizeLine) :
    ∀ (k i n : Nat) (acc : List D) (h : Hh), i + k = its.length → acc.length = i → k ≤ n → Inv h → ∃ (ys : List D) (h' : Hh), lcLoop rd f n i acc h = .ok (acc ++ ys) h' ∧ Inv h' ∧ ys.length = k ∧ ∀ (j : Nat) (x : It), its[i + j]? = some x → ∃ y, ys[j]? = some y ∧ Q x y
  | 0, i, n, acc, h, e, ha, _, hi => by
    have z : rd i h = some none := by rw [hrd i h hi, List.getElem?_eq_none (by omega)]
    refine ⟨[], h, ?_, hi, rfl, fun j x hx => ?_⟩
    · cases n <;> (unfold lcLoop; rw [z, List.append_nil])
    · rw [List.getElem?_eq_none (by omega)] at hx; cases hx
  | k + 1, i, n, acc, h, e, ha, hn, hi => by
    cases n with
    | zero => omega
    | succ n =>
      have hlt : i < its.length := by omega
      have z : rd i h = some (some its[i]) := by rw [hrd i h hi, List.getElem?_eq_getElem hlt]
      obtain ⟨y, h1, e1, i1, q1⟩ := hf its[i] (List.getElem_mem hlt) h hi
      obtain ⟨ys, h2, e2, i2, l2, q2⟩ := lc_go hrd hf hl k (i + 1) n (acc ++ [y]) h1 (by omega) (by simp [ha]) (by omega) i1
      refine ⟨y :: ys, h2, ?_, i2, by simp [l2], fun j x hx => ?_⟩
      · unfold lcLoop
        rw [z]
        simp only [e1]
        rw [if_pos (by omega), e2, List.append_assoc]
        rfl
      · cases j with
        | zero =>
          rw [Nat.add_zero, List.getElem?_eq_getElem hlt] at hx
          cases hx
          exact ⟨y, rfl, q1⟩
        | succ j => exact q2 j x (by rw [← hx]; congr 1; omega)
theorem lc_run {rd : Rd} {f : It → Hh → R (Option D)} {its : List It} {n : Nat} {h : Hh} (Inv : Hh → Prop) (Q : It → D → Prop) (hrd : ∀ i h, Inv h → rd i h = some its[i]?) (hf : ∀ x ∈ its, ∀ h, Inv h → ∃ y h', f x h = .ok (some y) h' ∧ Inv h' ∧ Q x y) (hl : its.length ≤ sizeLine) (hn : its.length ≤ n) (hi : Inv h) :
    ∃ (ys : List D) (h' : Hh), lcLoop rd f n 0 [] h = .ok ys h' ∧ Inv h' ∧ ys.length = its.length ∧ ∀ (j : Nat) (x : It), its[j]? = some x → ∃ y, ys[j]? = some y ∧ Q x y := by
  obtain ⟨ys, h', e1, e2, e3, e4⟩ := lc_go hrd hf hl its.length 0 n [] h (by omega) rfl hn hi
  exact ⟨ys, h', by rw [e1]; rfl, e2, e3, fun j x hx => e4 j x (by rw [Nat.zero_add]; exact hx)⟩
/-- .. by a function, the heap as it is -/
theorem lc_fun_go {rd : Rd} {f : It → Hh → R (Option D)} {its : List It} {g : It → Option D} {h : Hh} (hrd : ∀ i, rd i h = some its[i]?) (hf : ∀ x ∈ its, f x h = .ok (g x) h) (hl : its.length ≤ sizeLine) :
    ∀ (k i n : Nat) (acc : List D), i + k = its.length → acc.length ≤ i → k ≤ n → lcLoop rd f n i acc h = .ok (acc ++ (its.drop i).filterMap g) h
  | 0, i, n, acc, e, ha, _ => by
    have z : rd i h = some none := by rw [hrd i, List.getElem?_eq_none (by omega)]
    rw [List.drop_eq_nil_of_le (by omega)]
    cases n <;> (unfold lcLoop; rw [z, List.filterMap_nil, List.append_nil])
  | k + 1, i, n, acc, e, ha, hn => by
    cases n with
    | zero => omega
    | succ n =>
      have hlt : i < its.length := by omega
      have z : rd i h = some (some its[i]) := by rw [hrd i, List.getElem?_eq_getElem hlt]
      have e1 := hf its[i] (List.getElem_mem hlt)
      rw [List.drop_eq_getElem_cons hlt, List.filterMap_cons]
      unfold lcLoop
      rw [z]
      simp only [e1]
      cases q : g its[i] with
      | none => exact lc_fun_go hrd hf hl k (i + 1) n acc (by omega) (by omega) (by omega)
      | some y =>
        simp only
        rw [if_pos (by omega), lc_fun_go hrd hf hl k (i + 1) n (acc ++ [y]) (by omega) (by simp; omega) (by omega), List.append_assoc]
        rfl
theorem lc_fun {rd : Rd} {f : It → Hh → R (Option D)} {its : List It} {n : Nat} {h : Hh} (g : It → Option D) (hrd : ∀ i, rd i h = some its[i]?) (hf : ∀ x ∈ its, f x h = .ok (g x) h) (hl : its.length ≤ sizeLine) (hn : its.length ≤ n) : lcLoop rd f n 0 [] h = .ok (its.filterMap g) h := by
  have := lc_fun_go hrd hf hl its.length 0 n [] (by omega) (Nat.zero_le _) hn
  rw [this]; rfl
/-- for, by a word -/
theorem for_go {rd : Rd} {tg : T} {f : Rho → Hh → SR} {its : List It} {Inv : Nat → Rho → Hh → Prop} (hrd : ∀ i ρ h, Inv i ρ h → rd i h = some its[i]?)
    (hf : ∀ i x ρ h, its[i]? = some x → Inv i ρ h → ∃ ρ1, bindI tg x ρ = some ρ1 ∧ ∃ ρ2 h2, f ρ1 h = .next ρ2 h2 ∧ Inv (i + 1) ρ2 h2) : ∀ (k i n : Nat) (ρ : Rho) (h : Hh), i + k = its.length → k ≤ n → Inv i ρ h → ∃ ρ' h', forLoop rd tg f n i ρ h = .next ρ' h' ∧ Inv its.length ρ' h'
  | 0, i, n, ρ, h, e, _, hi => by
    have z : rd i h = some none := by rw [hrd i ρ h hi, List.getElem?_eq_none (by omega)]
    refine ⟨ρ, h, ?_, by rw [← e]; exact hi⟩
    cases n <;> (unfold forLoop; rw [z])
  | k + 1, i, n, ρ, h, e, hn, hi => by
    cases n with
    | zero => omega
    | succ n =>
      have hlt : i < its.length := by omega
      have z : rd i h = some (some its[i]) := by rw [hrd i ρ h hi, List.getElem?_eq_getElem hlt]
      obtain ⟨ρ1, b, ρ2, h2, e1, i1⟩ := hf i its[i] ρ h (List.getElem?_eq_getElem hlt) hi
      obtain ⟨ρ', h', e2, i2⟩ := for_go hrd hf k (i + 1) n ρ2 h2 (by omega) (by omega) i1
      refine ⟨ρ', h', ?_, i2⟩
      unfold forLoop
      rw [z]
      simp only [b, e1]
      exact e2
theorem for_run {rd : Rd} {tg : T} {f : Rho → Hh → SR} {its : List It} {n : Nat} {ρ : Rho} {h : Hh} (Inv : Nat → Rho → Hh → Prop) (hrd : ∀ i ρ h, Inv i ρ h → rd i h = some its[i]?)
    (hf : ∀ i x ρ h, its[i]? = some x → Inv i ρ h → ∃ ρ1, bindI tg x ρ = some ρ1 ∧ ∃ ρ2 h2, f ρ1 h = .next ρ2 h2 ∧ Inv (i + 1) ρ2 h2) (hn : its.length ≤ n) (hi : Inv 0 ρ h) : ∃ ρ' h', forLoop rd tg f n 0 ρ h = .next ρ' h' ∧ Inv its.length ρ' h' :=
  for_go hrd hf its.length 0 n ρ h (by omega) hn hi
/-! expressions, one step -/
section
variable {X : Cx} {ρ : Rho} {h : Hh} {a b c e o : E} {es : L}
theorem ev_var {i : Nat} : evalE X (.var i) ρ h = okD h (getV ρ i) := rfl
theorem ev_cst {d : D} : evalE X (.cst d) ρ h = .ok d h := rfl
theorem ev_con {k : Nat} : evalE X (.con k) ρ h = okD h (X.con k) := rfl
theorem ev_prim {p : P} : evalE X (.prim p es) ρ h = (evalL X es ρ h).bind fun ds h1 => prim p ds h1 := rfl
theorem ev_meth {p : P} : evalE X (.meth p o es) ρ h = (evalE X o ρ h).bind fun x h1 => match kindOf h1 x with
    | some k => if methOk p k then (evalL X es ρ h1).bind fun ds h2 => prim p (x :: ds) h2 else .stuck
    | none => .stuck := rfl
theorem ev_and : evalE X (.and_ a b) ρ h = (evalE X a ρ h).bind fun x h1 => match truth h1 x with
    | some true => evalE X b ρ h1
    | some false => .ok x h1
    | none => .stuck := rfl
theorem ev_or : evalE X (.or_ a b) ρ h = (evalE X a ρ h).bind fun x h1 => match truth h1 x with
    | some true => .ok x h1
    | some false => evalE X b ρ h1
    | none => .stuck := rfl
theorem ev_not : evalE X (.not_ a) ρ h = (evalE X a ρ h).bind fun x h1 => match truth h1 x with
    | some b => .ok (.bl !b) h1
    | none => .stuck := rfl
theorem ev_ite : evalE X (.ite c a b) ρ h = (evalB X c ρ h).bind fun k h1 => match k with
    | true => evalE X a ρ h1
    | false => evalE X b ρ h1 := rfl
theorem ev_tup : evalE X (.tup es) ρ h = (evalL X es ρ h).bind fun ds h1 => okIf (ds.length ≤ sizeLine) (.ok (.tup ds) h1) := rfl
theorem ev_lst : evalE X (.lst es) ρ h = (evalL X es ρ h).bind fun ds h1 => okIf (ds.length ≤ sizeLine) (.ok (.lst ds) h1) := rfl
theorem ev_newl : evalE X (.newl es) ρ h = (evalL X es ρ h).bind fun ds h1 => okIf (ds.length ≤ sizeLine) (.ok (.ref h1.length) (h1 ++ [.lst ds])) := rfl
theorem ev_call {f : Nat} : evalE X (.call f es) ρ h = (evalL X es ρ h).bind fun ds h1 => X.C 0 f ds h1 := rfl
theorem el_nil : evalL X .nil ρ h = .ok [] h := rfl
theorem el_cons {e : E} {r : L} : evalL X (.cons e r) ρ h = (evalE X e ρ h).bind fun x h1 => (evalL X r ρ h1).bind fun xs h2 => .ok (x :: xs) h2 := rfl
theorem el_star {e : E} {r : L} : evalL X (.star e r) ρ h = (evalE X e ρ h).bind fun x h1 => match seqOf h1 x with
    | some ys => (evalL X r ρ h1).bind fun xs h2 => .ok (ys ++ xs) h2
    | none => .stuck := rfl
theorem eb_and : evalB X (.and_ a b) ρ h = (evalB X a ρ h).bind fun k h1 => match k with
    | true => evalB X b ρ h1
    | false => .ok false h1 := rfl
theorem eb_or : evalB X (.or_ a b) ρ h = (evalB X a ρ h).bind fun k h1 => match k with
    | true => .ok true h1
    | false => evalB X b ρ h1 := rfl
theorem eb_not : evalB X (.not_ a) ρ h = (evalB X a ρ h).bind fun k h1 => .ok (!k) h1 := rfl
theorem eb_var {i : Nat} : evalB X (.var i) ρ h = truR (okD h (getV ρ i)) := rfl
theorem eb_prim {p : P} : evalB X (.prim p es) ρ h = truR ((evalL X es ρ h).bind fun ds h1 => prim p ds h1) := rfl
theorem eb_call {f : Nat} : evalB X (.call f es) ρ h = truR ((evalL X es ρ h).bind fun ds h1 => X.C 0 f ds h1) := rfl
end
end Ir

set_option Elab.async false
set_option linter.all false
set_option maxRecDepth 100000
set_option maxHeartbeats 0
namespace K61
open PySem PySem.Spec PyProof.Rows Ir
open He (Fa DefD Defn)

def b_is_whole : SS :=
  (.cons (.ret (.and_ (.prim (.isa .int) (.cons (.var 0) .nil)) (.and_ (.not_ (.prim (.isa .bool) (.cons (.var 0) .nil))) (.chain .le .le (.var 1) (.var 0) (.var 2))))) .nil)
def f_is_whole : Fn := ⟨"is_whole", ["thing", "least", "most"], ["thing", "least", "most"], 1, b_is_whole⟩
def b_is_text : SS :=
  (.cons (.ret (.and_ (.prim (.isa .str) (.cons (.var 0) .nil)) (.and_ (.prim .le (.cons (.prim .len (.cons (.var 0) .nil)) (.cons (.con 1) .nil))) (.prim .all (.cons (.lc false [("sign", 1)] (.name 1) (.seq (.var 0)) false (.cst (.bl true)) (.prim .inn (.cons (.var 1) (.cons (.con 3) .nil)))) .nil))))) .nil)
def f_is_text : Fn := ⟨"is_text", ["thing"], ["thing", "sign"], 1, b_is_text⟩
def b_is_value : SS :=
  (.cons (.if_ (.prim .eq (.cons (.var 0) (.cons (.cst (.str "number")) .nil))) 
    (.cons (.ret (.call 0 (.cons (.var 1) (.cons (.prim .neg (.cons (.con 0) .nil)) (.cons (.con 0) .nil))))) .nil) .nil)
  (.cons (.ret (.ite (.prim .eq (.cons (.var 0) (.cons (.cst (.str "text")) .nil))) (.call 1 (.cons (.var 1) .nil)) (.prim (.isa .bool) (.cons (.var 1) .nil)))) .nil))
def f_is_value : Fn := ⟨"is_value", ["kind", "thing"], ["kind", "thing"], 1, b_is_value⟩
def b_are_values : SS :=
  (.cons (.if_ (.or_ (.not_ (.prim (.isa .tuple) (.cons (.var 1) .nil))) (.prim .ne (.cons (.prim .len (.cons (.var 1) .nil)) (.cons (.prim .len (.cons (.var 0) .nil)) .nil)))) 
    (.cons (.ret (.cst (.bl false))) .nil) .nil)
  (.cons (.ret (.prim .all (.cons (.lc false [("kind", 2), ("thing", 3)] (.pair (.cons (.name 2) (.cons (.name 3) .nil))) (.zip (.var 0) (.var 1)) false (.cst (.bl true)) (.call 2 (.cons (.var 2) (.cons (.var 3) .nil)))) .nil))) .nil))
def f_are_values : Fn := ⟨"are_values", ["kinds", "things"], ["kinds", "things", "kind", "thing"], 1, b_are_values⟩
def b_key_of_value : SS :=
  (.cons (.if_ (.prim .eq (.cons (.var 0) (.cons (.cst (.str "number")) .nil))) 
    (.cons (.asg (.name 2) (.prim .add (.cons (.var 1) (.cons (.con 0) .nil))))
    (.cons (.ret (.tup (.cons (.prim .fdiv (.cons (.var 2) (.cons (.cst (.int 65536)) .nil))) (.cons (.prim .mod (.cons (.prim .fdiv (.cons (.var 2) (.cons (.cst (.int 256)) .nil))) (.cons (.cst (.int 256)) .nil))) (.cons (.prim .mod (.cons (.var 2) (.cons (.cst (.int 256)) .nil))) .nil))))) .nil)) .nil)
  (.cons (.if_ (.prim .eq (.cons (.var 0) (.cons (.cst (.str "text")) .nil))) 
    (.cons (.ret (.tup (.star (.lc false [("sign", 3)] (.name 3) (.seq (.var 1)) false (.cst (.bl true)) (.prim .add (.cons (.meth .index (.con 3) (.cons (.var 3) .nil)) (.cons (.cst (.int 1)) .nil)))) (.cons (.cst (.int 0)) .nil)))) .nil) .nil)
  (.cons (.ret (.ite (.var 1) (.tup (.cons (.cst (.int 1)) .nil)) (.tup (.cons (.cst (.int 0)) .nil)))) .nil)))
def f_key_of_value : Fn := ⟨"key_of_value", ["kind", "value"], ["kind", "value", "rest", "sign"], 1, b_key_of_value⟩
def b_key_made : SS :=
  (.cons (.asg (.name 2) (.newl .nil))
  (.cons (.for_ (.pair (.cons (.name 3) (.cons (.name 4) .nil))) (.zip (.var 0) (.var 1)) 
    (.cons (.expr (.meth .extend (.var 2) (.cons (.call 4 (.cons (.var 3) (.cons (.var 4) .nil))) .nil))) .nil))
  (.cons (.ret (.prim .tuple (.cons (.var 2) .nil))) .nil)))
def f_key_made : Fn := ⟨"key_made", ["kinds", "values"], ["kinds", "values", "found", "kind", "value"], 1, b_key_made⟩
def b_row_made : SS :=
  (.cons (.par 3 4 (.newl .nil) (.cst (.int 0)))
  (.cons (.for_ (.name 2) (.seq (.var 0)) 
    (.cons (.if_ (.prim .eq (.cons (.var 2) (.cons (.cst (.str "number")) .nil))) 
      (.cons (.expr (.meth .append (.var 3) (.cons (.prim .sub (.cons (.prim .add (.cons (.prim .add (.cons (.prim .mul (.cons (.prim .idx (.cons (.var 1) (.cons (.var 4) .nil))) (.cons (.cst (.int 65536)) .nil))) (.cons (.prim .mul (.cons (.prim .idx (.cons (.var 1) (.cons (.prim .add (.cons (.var 4) (.cons (.cst (.int 1)) .nil))) .nil))) (.cons (.cst (.int 256)) .nil))) .nil))) (.cons (.prim .idx (.cons (.var 1) (.cons (.prim .add (.cons (.var 4) (.cons (.cst (.int 2)) .nil))) .nil))) .nil))) (.cons (.con 0) .nil))) .nil)))
      (.cons (.aug 4 .add (.cst (.int 3))) .nil)) 
      (.cons (.if_ (.prim .eq (.cons (.var 2) (.cons (.cst (.str "text")) .nil))) 
        (.cons (.asg (.name 5) (.meth .index (.cut true false (.var 1) (.var 4) (.cst .non)) (.cons (.cst (.int 0)) .nil)))
        (.cons (.expr (.meth .append (.var 3) (.cons (.meth .join (.cst (.str "")) (.cons (.lc false [("one", 6)] (.name 6) (.seq (.cut true true (.var 1) (.var 4) (.prim .add (.cons (.var 4) (.cons (.var 5) .nil))))) false (.cst (.bl true)) (.prim .idx (.cons (.con 3) (.cons (.prim .sub (.cons (.var 6) (.cons (.cst (.int 1)) .nil))) .nil)))) .nil)) .nil)))
        (.cons (.aug 4 .add (.prim .add (.cons (.var 5) (.cons (.cst (.int 1)) .nil)))) .nil))) 
        (.cons (.expr (.meth .append (.var 3) (.cons (.prim .eq (.cons (.prim .idx (.cons (.var 1) (.cons (.var 4) .nil))) (.cons (.cst (.int 1)) .nil))) .nil)))
        (.cons (.aug 4 .add (.cst (.int 1))) .nil))) .nil)) .nil))
  (.cons (.ret (.prim .tuple (.cons (.var 3) .nil))) .nil)))
def f_row_made : Fn := ⟨"row_made", ["kinds", "key"], ["kinds", "key", "kind", "found", "at", "size", "one"], 1, b_row_made⟩
def b_are_kinds : SS :=
  (.cons (.ret (.and_ (.prim (.isa .tuple) (.cons (.var 0) .nil)) (.prim .all (.cons (.lc false [("kind", 1)] (.name 1) (.seq (.var 0)) false (.cst (.bl true)) (.and_ (.prim (.isa .str) (.cons (.var 1) .nil)) (.prim .inn (.cons (.var 1) (.cons (.con 2) .nil))))) .nil)))) .nil)
def f_are_kinds : Fn := ⟨"are_kinds", ["kinds"], ["kinds", "kind"], 1, b_are_kinds⟩
def b_row_key : SS :=
  (.cons (.if_ (.or_ (.not_ (.call 7 (.cons (.var 0) .nil))) (.not_ (.call 3 (.cons (.var 0) (.cons (.var 1) .nil))))) 
    (.cons (.raise_ 0 .nil) .nil) .nil)
  (.cons (.ret (.call 5 (.cons (.var 0) (.cons (.var 1) .nil)))) .nil))
def f_row_key : Fn := ⟨"row_key", ["kinds", "values"], ["kinds", "values"], 1, b_row_key⟩
def b_row_of_key : SS :=
  (.cons (.if_ (.not_ (.call 7 (.cons (.var 0) .nil))) 
    (.cons (.raise_ 0 .nil) .nil) .nil)
  (.cons (.ret (.call 6 (.cons (.var 0) (.cons (.var 1) .nil)))) .nil))
def f_row_of_key : Fn := ⟨"row_of_key", ["kinds", "key"], ["kinds", "key"], 1, b_row_of_key⟩
def b__law_taken : SS :=
  (.cons (.if_ (.prim .gt (.cons (.prim .idx (.cons (.var 0) (.cons (.cst (.int 3)) .nil))) (.cons (.cst (.int 0)) .nil))) 
    (.cons (.asg (.name 3) (.prim .mod (.cons (.prim .int (.cons (.prim .idx (.cons (.var 0) (.cons (.cst (.int 3)) .nil))) .nil)) (.cons (.var 1) .nil))))
    (.cons (.setIx (.var 0) (.cst (.int 3)) (.prim .fdiv (.cons (.prim .idx (.cons (.var 0) (.cons (.cst (.int 3)) .nil))) (.cons (.var 1) .nil))))
    (.cons (.ret (.var 3)) .nil))) .nil)
  (.cons (.setIx (.var 0) (.cst (.int 1)) (.prim .add (.cons (.prim .idx (.cons (.var 0) (.cons (.cst (.int 1)) .nil))) (.cons (.cst (.int 1)) .nil))))
  (.cons (.if_ (.prim .gt (.cons (.prim .idx (.cons (.var 0) (.cons (.cst (.int 1)) .nil))) (.cons (.prim .len (.cons (.prim .idx (.cons (.var 0) (.cons (.cst (.int 0)) .nil))) .nil)) .nil))) 
    (.cons (.setIx (.var 0) (.cst (.int 2)) (.prim .mod (.cons (.prim .int (.cons (.prim .add (.cons (.prim .mul (.cons (.prim .idx (.cons (.var 0) (.cons (.cst (.int 2)) .nil))) (.cons (.cst (.int 48271)) .nil))) (.cons (.cst (.int 11)) .nil))) .nil)) (.cons (.cst (.int 2147483647)) .nil))))
    (.cons (.ret (.prim .mod (.cons (.prim .int (.cons (.prim .fdiv (.cons (.prim .idx (.cons (.var 0) (.cons (.cst (.int 2)) .nil))) (.cons (.cst (.int 7)) .nil))) .nil)) (.cons (.var 1) .nil)))) .nil)) .nil)
  (.cons (.asg (.name 2) (.prim .idx (.cons (.prim .idx (.cons (.var 0) (.cons (.cst (.int 0)) .nil))) (.cons (.prim .sub (.cons (.prim .idx (.cons (.var 0) (.cons (.cst (.int 1)) .nil))) (.cons (.cst (.int 1)) .nil))) .nil))))
  (.cons (.setIx (.var 0) (.cst (.int 2)) (.prim .mod (.cons (.prim .int (.cons (.prim .add (.cons (.prim .add (.cons (.prim .mul (.cons (.prim .idx (.cons (.var 0) (.cons (.cst (.int 2)) .nil))) (.cons (.cst (.int 48271)) .nil))) (.cons (.var 2) .nil))) (.cons (.cst (.int 11)) .nil))) .nil)) (.cons (.cst (.int 2147483647)) .nil))))
  (.cons (.if_ (.prim .ge (.cons (.var 2) (.cons (.prim .pow (.cons (.cst (.int 10)) (.cons (.cst (.int 18)) .nil))) .nil))) 
    (.cons (.setIx (.var 0) (.cst (.int 3)) (.prim .fdiv (.cons (.var 2) (.cons (.var 1) .nil)))) .nil) .nil)
  (.cons (.ret (.prim .mod (.cons (.prim .int (.cons (.var 2) .nil)) (.cons (.var 1) .nil)))) .nil)))))))
def f__law_taken : Fn := ⟨"_law_taken", ["_law_row", "_law_many"], ["_law_row", "_law_many", "_law_cell", "_law_found"], 0, b__law_taken⟩
def b__law_pick : SS :=
  (.cons (.ret (.prim .idx (.cons (.var 1) (.cons (.call 10 (.cons (.var 0) (.cons (.prim .len (.cons (.var 1) .nil)) .nil))) .nil)))) .nil)
def f__law_pick : Fn := ⟨"_law_pick", ["_law_row", "_law_things"], ["_law_row", "_law_things"], 0, b__law_pick⟩
def b__law_alike : SS :=
  (.cons (.if_ (.prim (.isas [.tuple, .list]) (.cons (.var 1) .nil)) 
    (.cons (.if_ (.or_ (.not_ (.prim (.isas [.tuple, .list]) (.cons (.var 0) .nil))) (.prim .ne (.cons (.prim (.isa .list) (.cons (.var 0) .nil)) (.cons (.prim (.isa .list) (.cons (.var 1) .nil)) .nil)))) 
      (.cons (.ret (.cst (.bl false))) .nil) .nil)
    (.cons (.if_ (.prim .ne (.cons (.prim .len (.cons (.var 0) .nil)) (.cons (.prim .len (.cons (.var 1) .nil)) .nil))) 
      (.cons (.ret (.cst (.bl false))) .nil) .nil)
    (.cons (.ret (.prim .eq (.cons (.lc false [("_law_k", 2)] (.name 2) (.range1 (.prim .len (.cons (.var 1) .nil))) true (.not_ (.call 12 (.cons (.prim .idx (.cons (.var 0) (.cons (.var 2) .nil))) (.cons (.prim .idx (.cons (.var 1) (.cons (.var 2) .nil))) .nil)))) (.var 2)) (.cons (.lst .nil) .nil)))) .nil))) .nil)
  (.cons (.if_ (.or_ (.prim .isN (.cons (.var 1) .nil)) (.prim (.isa .str) (.cons (.var 1) .nil))) 
    (.cons (.ret (.and_ (.prim .eq (.cons (.var 0) (.cons (.var 1) .nil))) (.prim .eq (.cons (.prim (.isa .str) (.cons (.var 0) .nil)) (.cons (.prim (.isa .str) (.cons (.var 1) .nil)) .nil))))) .nil) .nil)
  (.cons (.ret (.and_ (.prim (.isa .int) (.cons (.var 0) .nil)) (.and_ (.prim .eq (.cons (.prim (.isa .bool) (.cons (.var 0) .nil)) (.cons (.prim (.isa .bool) (.cons (.var 1) .nil)) .nil))) (.prim .eq (.cons (.var 0) (.cons (.var 1) .nil)))))) .nil)))
def f__law_alike : Fn := ⟨"_law_alike", ["_law_found", "_law_due"], ["_law_found", "_law_due", "_law_k"], 1, b__law_alike⟩
def b__law_value : SS :=
  (.cons (.if_ (.prim .eq (.cons (.var 1) (.cons (.cst (.str "number")) .nil))) 
    (.cons (.asg (.name 3) (.lst (.cons (.call 10 (.cons (.var 0) (.cons (.cst (.int 3)) .nil))) (.cons (.prim .sub (.cons (.call 10 (.cons (.var 0) (.cons (.cst (.int 20)) .nil))) (.cons (.cst (.int 10)) .nil))) (.cons (.cst (.int 1000000)) (.cons (.prim .sub (.cons (.cst (.int 0)) (.cons (.cst (.int 1000000)) .nil))) .nil))))))
    (.cons (.ret (.call 11 (.cons (.var 0) (.cons (.prim .add (.cons (.var 3) (.cons (.lst (.cons (.prim .sub (.cons (.call 10 (.cons (.var 0) (.cons (.cst (.int 2000001)) .nil))) (.cons (.cst (.int 1000000)) .nil))) .nil)) .nil))) .nil)))) .nil)) .nil)
  (.cons (.if_ (.prim .eq (.cons (.var 1) (.cons (.cst (.str "truth")) .nil))) 
    (.cons (.ret (.prim .eq (.cons (.call 10 (.cons (.var 0) (.cons (.cst (.int 2)) .nil))) (.cons (.cst (.int 0)) .nil)))) .nil) .nil)
  (.cons (.asg (.name 2) (.lst (.cons (.cst (.str " ")) (.cons (.cst (.str "a")) (.cons (.cst (.str "b")) (.cons (.cst (.str "~")) (.cons (.cst (.str "'")) (.cons (.cst (.str "Z")) (.cons (.cst (.str "0")) .nil)))))))))
  (.cons (.ret (.meth .join (.cst (.str "")) (.cons (.lc false [("_law_turn", 4)] (.name 4) (.range1 (.call 10 (.cons (.var 0) (.cons (.prim .idx (.cons (.lst (.cons (.cst (.int 2)) (.cons (.cst (.int 3)) (.cons (.cst (.int 11)) .nil)))) (.cons (.call 10 (.cons (.var 0) (.cons (.cst (.int 3)) .nil))) .nil))) .nil)))) false (.cst (.bl true)) (.call 11 (.cons (.var 0) (.cons (.var 2) .nil)))) .nil))) .nil))))
def f__law_value : Fn := ⟨"_law_value", ["_law_row", "_law_kind"], ["_law_row", "_law_kind", "_law_signs", "_law_some", "_law_turn"], 0, b__law_value⟩
def b_law : SS :=
  (.cons (.asg (.name 1) (.newl (.cons (.var 0) (.cons (.cst (.int 0)) (.cons (.cst (.int 7061)) (.cons (.cst (.int 0)) .nil))))))
  (.cons (.asg (.name 2) (.prim .tuple (.cons (.lc false [("_law_turn", 13)] (.name 13) (.range1 (.call 10 (.cons (.var 1) (.cons (.cst (.int 5)) .nil)))) false (.cst (.bl true)) (.call 11 (.cons (.var 1) (.cons (.lst (.cons (.cst (.str "number")) (.cons (.cst (.str "text")) (.cons (.cst (.str "truth")) .nil)))) .nil)))) .nil)))
  (.cons (.asg (.name 3) (.lc true [("_law_turn", 13)] (.name 13) (.range1 (.cst (.int 6))) false (.cst (.bl true)) (.prim .tuple (.cons (.lc false [("_law_kind", 16)] (.name 16) (.seq (.var 2)) false (.cst (.bl true)) (.call 13 (.cons (.var 1) (.cons (.var 16) .nil)))) .nil))))
  (.cons (.expr (.meth .append (.var 3) (.cons (.prim .add (.cons (.cut false true (.prim .idx (.cons (.var 3) (.cons (.cst (.int 0)) .nil))) (.cst .non) (.cst (.int 1))) (.cons (.cut true false (.prim .idx (.cons (.var 3) (.cons (.cst (.int 1)) .nil))) (.cst (.int 1)) (.cst .non)) .nil))) .nil)))
  (.cons (.asg (.name 4) (.lc false [("_law_line", 8)] (.name 8) (.seq (.var 3)) false (.cst (.bl true)) (.call 8 (.cons (.var 2) (.cons (.var 8) .nil)))))
  (.cons (.asg (.name 5) (.newd [.inr "number", .inr "truth"] (.cons (.cst (.int 3)) (.cons (.cst (.int 1)) .nil))))
  (.cons (.for_ (.pair (.cons (.name 8) (.cons (.name 9) .nil))) (.zip (.var 3) (.var 4)) 
    (.cons (.asg (.name 10) (.prim .sum (.cons (.lc false [("_law_kind", 16), ("_law_value_here", 17)] (.pair (.cons (.name 16) (.cons (.name 17) .nil))) (.zip (.var 2) (.var 8)) false (.cst (.bl true)) (.ite (.din false (.var 16) (.var 5)) (.dget (.var 5) (.var 16)) (.prim .add (.cons (.prim .len (.cons (.var 17) .nil)) (.cons (.cst (.int 1)) .nil))))) .nil)))
    (.cons (.if_ (.or_ (.prim .ne (.cons (.prim .len (.cons (.var 9) .nil)) (.cons (.var 10) .nil))) (.not_ (.call 12 (.cons (.call 9 (.cons (.var 2) (.cons (.var 9) .nil))) (.cons (.var 8) .nil))))) 
      (.cons (.ret (.cst (.bl false))) .nil) .nil)
    (.cons (.if_ (.prim .ne (.cons (.lc false [("_law_one", 11)] (.name 11) (.seq (.var 9)) true (.or_ (.prim (.isa .bool) (.cons (.var 11) .nil)) (.or_ (.not_ (.prim (.isa .int) (.cons (.var 11) .nil))) (.not_ (.chain .le .lt (.cst (.int 0)) (.var 11) (.cst (.int 256)))))) (.var 11)) (.cons (.lst .nil) .nil))) 
      (.cons (.ret (.cst (.bl false))) .nil) .nil) .nil))))
  (.cons (.for_ (.pair (.cons (.name 11) (.cons (.name 12) .nil))) (.zip (.var 3) (.var 4)) 
    (.cons (.for_ (.pair (.cons (.name 14) (.cons (.name 15) .nil))) (.zip (.var 3) (.var 4)) 
      (.cons (.if_ (.or_ (.prim .ne (.cons (.prim .lt (.cons (.var 11) (.cons (.var 14) .nil))) (.cons (.prim .lt (.cons (.var 12) (.cons (.var 15) .nil))) .nil))) (.prim .ne (.cons (.prim .eq (.cons (.var 11) (.cons (.var 14) .nil))) (.cons (.prim .eq (.cons (.var 12) (.cons (.var 15) .nil))) .nil)))) 
        (.cons (.ret (.cst (.bl false))) .nil) .nil) .nil)) .nil))
  (.cons (.asg (.name 6) (.newd [.inr "number", .inr "text", .inr "truth"] (.cons (.lst (.cons (.cst (.int 1000001)) (.cons (.prim .neg (.cons (.cst (.int 1000001)) .nil)) (.cons (.cst (.bl true)) .nil)))) (.cons (.lst (.cons (.cst (.str "abcdefghijk")) (.cons (.cst (.int 5)) .nil))) (.cons (.lst (.cons (.cst (.int 1)) (.cons (.cst (.int 0)) (.cons (.cst (.str "true")) .nil)))) .nil)))))
  (.cons (.asg (.name 7) (.prim .add (.cons (.cut false true (.prim .idx (.cons (.var 3) (.cons (.cst (.int 0)) .nil))) (.cst .non) (.prim .neg (.cons (.cst (.int 1)) .nil))) (.cons (.tup (.cons (.call 11 (.cons (.var 1) (.cons (.prim .add (.cons (.lst (.cons (.cst .non) (.cons (.tup (.cons (.cst (.int 1)) .nil)) .nil))) (.cons (.dget2 (.var 6) (.prim .idx (.cons (.prim .add (.cons (.var 2) (.cons (.tup (.cons (.cst (.str "truth")) .nil)) .nil))) (.cons (.prim .max2 (.cons (.cst (.int 0)) (.cons (.prim .sub (.cons (.prim .len (.cons (.var 2) .nil)) (.cons (.cst (.int 1)) .nil))) .nil))) .nil))) (.lst .nil)) .nil))) .nil))) .nil)) .nil))))
  (.cons (.if_ (.and_ (.prim .ne (.cons (.var 2) (.cons (.tup .nil) .nil))) (.not_ (.told 0 0 (.call 8 (.cons (.var 2) (.cons (.var 7) .nil)))))) 
    (.cons (.ret (.cst (.bl false))) .nil) .nil)
  (.cons (.ret (.and_ (.told 0 0 (.call 8 (.cons (.var 2) (.cons (.prim .add (.cons (.prim .idx (.cons (.var 3) (.cons (.cst (.int 0)) .nil))) (.cons (.tup (.cons (.cst (.int 1)) .nil)) .nil))) .nil)))) (.told 0 0 (.call 8 (.cons (.lst (.cons (.cst (.str "number")) .nil)) (.cons (.tup (.cons (.cst (.int 1)) .nil)) .nil)))))) .nil))))))))))))
def f_law : Fn := ⟨"law", ["_law_script"], ["_law_script", "_law_row", "_law_kinds", "_law_lines", "_law_keys", "_law_sizes", "_law_bad", "_law_odd", "_law_line", "_law_key", "_law_size", "_law_one", "_law_first", "_law_turn", "_law_other", "_law_second", "_law_kind", "_law_value_here"], 0, b_law⟩
def pgFns : List Fn := [f_is_whole, f_is_text, f_is_value, f_are_values, f_key_of_value, f_key_made, f_row_made, f_are_kinds, f_row_key, f_row_of_key, f__law_taken, f__law_pick, f__law_alike, f__law_value, f_law]
def pgCons : List (Str × D) := [("MOST", (.int 1000000)), ("MOST_TEXT", (.int 10)), ("KINDS", (.tup [(.str "number"), (.str "text"), (.str "truth")])), ("SIGNS", (.str " !\"#$&'()*+,-./0123456789:;<=>?@ABCDEFGHIJKLMNOPQRSTUVWXYZ[\\]^_`abcdefghijklmnopqrstuvwxyz{|}~"))]
def pgFree : List Str := ["all", "bool", "int", "isinstance", "len", "list", "max", "range", "str", "sum", "tuple", "zip"]

def top (i : Nat) : Stmt := PySem.Challenge.pw_cutledger_k61_whole_codes.main.body.getD i (.Pass ⟨0, 0, 0, 0⟩)
abbrev dOf (x : Str) (i : Nat) : DefD := ⟨(x, none), x, x, L2.defArgs (top i), L2.defBody (top i), L2.defScope (top i), [], []⟩
def d_is_whole : DefD := dOf "is_whole" 4
def d_is_text : DefD := dOf "is_text" 10
def d_is_value : DefD := dOf "is_value" 11
def d_are_values : DefD := dOf "are_values" 12
def d_key_of_value : DefD := dOf "key_of_value" 13
def d_key_made : DefD := dOf "key_made" 14
def d_row_made : DefD := dOf "row_made" 15
def d_are_kinds : DefD := dOf "are_kinds" 16
def d_row_key : DefD := dOf "row_key" 17
def d_row_of_key : DefD := dOf "row_of_key" 18
def d__law_taken : DefD := dOf "_law_taken" 20
def d__law_pick : DefD := dOf "_law_pick" 21
def d__law_alike : DefD := dOf "_law_alike" 22
def d__law_value : DefD := dOf "_law_value" 23
def d_law : DefD := dOf "law" 25
def d__law_told : DefD := dOf "_law_told" 24
def pgDs : List DefD := [d_is_whole, d_is_text, d_is_value, d_are_values, d_key_of_value, d_key_made, d_row_made, d_are_kinds, d_row_key, d_row_of_key, d__law_taken, d__law_pick, d__law_alike, d__law_value, d_law, d__law_told]
def lamS : List (Str × NameKind) := (L2.defScope (top 25)).names
def pg : Prog := ⟨pgFns, pgCons, pgFree, ["BadRow"], fun _ _ => true, 0, [("_law_told", 0)], lamS⟩
def fa : List Fa := [.glo "is_whole", .glo "is_text", .glo "is_value", .glo "are_values", .glo "key_of_value", .glo "key_made", .glo "row_made", .glo "are_kinds", .glo "row_key", .glo "row_of_key", .glo "_law_taken", .glo "_law_pick", .glo "_law_alike", .glo "_law_value", .glo "law", .glo "_law_told", .free "all", .free "bool", .free "int", .free "isinstance", .free "len", .free "list", .free "max", .free "range", .free "str", .free "sum", .free "tuple", .free "zip", .glo "BadRow", .exc "BadRow", .exm "BadRow" "BadRow" true]
def tf : List Defn := [("law", none)]
theorem ok_is_whole : defB pg f_is_whole d_is_whole = true := by decide +kernel
theorem ok_is_text : defB pg f_is_text d_is_text = true := by decide +kernel
theorem ok_is_value : defB pg f_is_value d_is_value = true := by decide +kernel
theorem ok_are_values : defB pg f_are_values d_are_values = true := by decide +kernel
theorem ok_key_of_value : defB pg f_key_of_value d_key_of_value = true := by decide +kernel
theorem ok_key_made : defB pg f_key_made d_key_made = true := by decide +kernel
theorem ok_row_made : defB pg f_row_made d_row_made = true := by decide +kernel
theorem ok_are_kinds : defB pg f_are_kinds d_are_kinds = true := by decide +kernel
theorem ok_row_key : defB pg f_row_key d_row_key = true := by decide +kernel
theorem ok_row_of_key : defB pg f_row_of_key d_row_of_key = true := by decide +kernel
theorem ok__law_taken : defB pg f__law_taken d__law_taken = true := by decide +kernel
theorem ok__law_pick : defB pg f__law_pick d__law_pick = true := by decide +kernel
theorem ok__law_alike : defB pg f__law_alike d__law_alike = true := by decide +kernel
theorem ok__law_value : defB pg f__law_value d__law_value = true := by decide +kernel
theorem ok_law : defB pg f_law d_law = true := by decide +kernel
theorem ok__law_told : toldB pg "_law_told" 0 d__law_told = true := by decide +kernel
end K61

set_option Elab.async false
set_option linter.all false
set_option maxRecDepth 100000
set_option maxHeartbeats 4000000
namespace K61
open PySem Ir
abbrev XX (n : Nat) : Cx := cxOf pg n (run pg n)
theorem run_call {n f : Nat} {F : Fn} {ds : List D} {h : Hh} (hF : pgFns[f]? = some F) (hl : ds.length = F.ps.length) (m0 : F.mode = 0) : run pg (n + 1) 0 f ds h = (execSS (XX n) 0 F.body (Ir.start F ds) h).fin := by
  show runF pg n (run pg n) f ds h = _
  unfold runF
  rw [show pg.fns[f]? = some F from hF]
  simp only [hl, if_true, m0]
  rfl
theorem run_pure {n f : Nat} {F : Fn} {ds : List D} {h : Hh} (hF : pgFns[f]? = some F) (hl : ds.length = F.ps.length) (m1 : F.mode = 1) (hr : noRefL ds = true) : run pg (n + 1) 0 f ds h = modeR 1 h (execSS (XX n) 0 F.body (Ir.start F ds) []).fin := by
  show runF pg n (run pg n) f ds h = _
  unfold runF
  rw [show pg.fns[f]? = some F from hF]
  simp only [hl, if_true, m1, hr]
  rfl

theorem v0 {a : D} {r : Rho} : getV (some a :: r) 0 = some a := rfl
theorem v1 {a b : D} {x : Option D} {r : Rho} : getV (x :: some b :: r) 1 = some b := rfl
theorem v2 {b : D} {x y : Option D} {r : Rho} : getV (x :: y :: some b :: r) 2 = some b := rfl
theorem v3 {b : D} {x y z : Option D} {r : Rho} : getV (x :: y :: z :: some b :: r) 3 = some b := rfl
theorem v4 {b : D} {x y z t : Option D} {r : Rho} : getV (x :: y :: z :: t :: some b :: r) 4 = some b := rfl
theorem v5 {b : D} {x y z t u : Option D} {r : Rho} : getV (x :: y :: z :: t :: u :: some b :: r) 5 = some b := rfl
theorem v6 {b : D} {x y z t u v : Option D} {r : Rho} : getV (x :: y :: z :: t :: u :: v :: some b :: r) 6 = some b := rfl
theorem okD_some {h : Hh} {d : D} : okD h (some d) = .ok d h := rfl
theorem okB_some {h : Hh} {b : Bool} : okB h (some b) = .ok (.bl b) h := rfl
theorem con0 {n : Nat} : (XX n).con 0 = some (.int 1000000) := rfl
theorem con1 {n : Nat} : (XX n).con 1 = some (.int 10) := rfl
/-- is_whole -/
def isWhole (x : D) (a b : Int) : Bool := match x with
  | .int i => decide (a ≤ i) && decide (i ≤ b)
  | _ => false
theorem is_whole_at {n : Nat} {x : D} {a b : Int} {h : Hh} (hx : noRef x = true) : run pg (n + 1) 0 0 [x, .int a, .int b] h = .ok (.bl (isWhole x a b)) h := by
  rw [run_pure (F := f_is_whole) rfl rfl rfl (by simp [noRefL, hx, noRef])]
  cases x with
  | int i =>
    have e : modeR 1 h (execSS (XX n) 0 b_is_whole [some (.int i), some (.int a), some (.int b)] []).fin = match decide (a ≤ i) with
      | true => .ok (.bl (decide (i ≤ b))) h
      | false => .ok (.bl false) h := by
      cases z : decide (a ≤ i)
      · simp only [b_is_whole, execSS, execS, evalE, evalL, R.bind_ok, v0, v1, v2, okD_some, q_isa, isTy, tyOf, okB_some, truth, chainR, q_le, z]
        rfl
      · simp only [b_is_whole, execSS, execS, evalE, evalL, R.bind_ok, v0, v1, v2, okD_some, q_isa, isTy, tyOf, okB_some, truth, chainR, q_le, z]
        rfl
    refine e.trans ?_
    show _ = R.ok (D.bl (decide (a ≤ i) && decide (i ≤ b))) h
    cases decide (a ≤ i) <;> rfl
  | ref m => cases hx
  | _ => rfl
/-! ### the draws -/
abbrev rowO (ns : List Int) (k x c : Int) : O := .lst [.scr ns, .int k, .int x, .int c]
theorem a0 {a b c d : D} : L2.atI [a, b, c, d] 0 = some a := rfl
theorem a1 {a b c d : D} : L2.atI [a, b, c, d] 1 = some b := rfl
theorem a2 {a b c d : D} : L2.atI [a, b, c, d] 2 = some c := rfl
theorem a3 {a b c d : D} : L2.atI [a, b, c, d] 3 = some d := rfl
theorem q_row {xs : List D} {i : Int} {t : Hh} : prim .idx [.ref 0, .int i] (.lst xs :: t) = okD (.lst xs :: t) (L2.atI xs i) := rfl
theorem s1 {a b c d v : D} {t : Hh} : setAt (.ref 0) (.int 1) v (.lst [a, b, c, d] :: t) = some (.lst [a, v, c, d] :: t) := rfl
theorem s2 {a b c d v : D} {t : Hh} : setAt (.ref 0) (.int 2) v (.lst [a, b, c, d] :: t) = some (.lst [a, b, v, d] :: t) := rfl
theorem s3 {a b c d v : D} {t : Hh} : setAt (.ref 0) (.int 3) v (.lst [a, b, c, d] :: t) = some (.lst [a, b, c, v] :: t) := rfl
theorem atI_nat {xs : List D} {k : Int} {d : D} (h0 : 0 ≤ k) (e : xs[k.toNat]? = some d) : L2.atI xs k = some d := by
  have hl := (List.getElem?_eq_some_iff.mp e).1
  have e1 : L2.ixN xs.length k = some k.toNat := by
    unfold L2.ixN
    rw [if_pos h0, if_pos (by omega)]
  unfold L2.atI
  rw [e1]
  exact e
theorem truR_bl {b : Bool} {h : Hh} : truR (.ok (.bl b) h) = .ok b h := rfl
theorem m48 {i : Int} : (decide (-(2 ^ 64) < i ∧ i < 2 ^ 64) || decide (-(2 ^ 64) < (48271 : Int) ∧ (48271 : Int) < 2 ^ 64)) = true := by
  have : decide (-(2 ^ 64) < (48271 : Int) ∧ (48271 : Int) < 2 ^ 64) = true := by decide
  rw [this, Bool.or_true]
theorem p31 : (0 : Int) < 2147483647 := by decide
theorem p7 : (0 : Int) < 7 ∧ (7 : Int) < 1073741824 := by decide
theorem p18 : (0 : Int) ≤ 18 ∧ (18 : Int) ≤ 1000000 ∧ (10 : Int).natAbs < 2 ^ 64 := by decide
theorem taken_at {n : Nat} {ns : List Int} {k x c m : Int} {t : Hh} (hk : 0 ≤ k) (h0 : 0 < m) (h1 : m < 1073741824) : ∃ v k' x' c', run pg (n + 1) 0 10 [.ref 0, .int m] (rowO ns k x c :: t) = .ok (.int v) (rowO ns k' x' c' :: t) ∧ 0 ≤ v ∧ v < m ∧ 0 ≤ k' := by
  rw [run_call (F := f__law_taken) rfl rfl rfl]
  show ∃ v k' x' c', (execSS (XX n) 0 b__law_taken [some (.ref 0), some (.int m), none, none] _).fin = _ ∧ _
  have mod := fun (y : Int) => And.intro (Int.emod_nonneg y (Int.ne_of_gt h0)) (Int.emod_lt_of_pos y h0)
  cases z : decide (0 < c) with
  | true =>
    refine ⟨c % m, k, x, c / m, ?_, (mod c).1, (mod c).2, hk⟩
    simp only [b__law_taken, execSS, execS, evalE, evalB, evalL, R.bind_ok, R.toS_ok, v0, v1, okD_some, q_row, a0, a1, a2, a3, q_gt, truR_bl, z, q_int, q_mod, okIf_pos h0, bindT, q_fdiv, okIf_pos (And.intro h0 h1), List.set_cons_succ, List.set_cons_zero, v3, s3, SR.fin]
  | false =>
    cases z2 : decide (((ns.map D.int).length : Int) < k + 1) with
    | true =>
      refine ⟨_, k + 1, (x * 48271 + 11) % 2147483647, c, ?_, (mod ((x * 48271 + 11) % 2147483647 / 7)).1, (mod _).2, by omega⟩
      simp only [b__law_taken, execSS, execS, evalE, evalB, evalL, R.bind_ok, R.toS_ok, v0, v1, okD_some, q_row, a0, a1, a2, a3, q_gt, truR_bl, z, z2, q_int, q_mod, okIf_pos h0, q_addI, s1, s2, q_lenC, q_mul, okIf_pos m48, okIf_pos p31, okIf_pos p7, q_fdiv, SR.fin]
    | false =>
      have hlen : k.toNat < ns.length := by
        have := of_decide_eq_false z2
        rw [List.length_map] at this
        omega
      have hg : (ns.map D.int)[k.toNat]? = some (.int ns[k.toNat]) := by
        rw [List.getElem?_map, List.getElem?_eq_getElem hlen]; rfl
      have hat : L2.atI (ns.map D.int) (k + 1 - 1) = some (.int ns[k.toNat]) := by
        rw [Int.add_sub_cancel]; exact atI_nat hk hg
      generalize ns[k.toNat] = y at hat
      cases z3 : decide ((10 : Int) ^ (18 : Int).toNat ≤ y) with
      | true =>
        refine ⟨y % m, k + 1, (x * 48271 + y + 11) % 2147483647, y / m, ?_, (mod y).1, (mod y).2, by omega⟩
        simp only [b__law_taken, execSS, execS, evalE, evalB, evalL, R.bind_ok, R.toS_ok, v0, v1, v2, okD_some, q_row, a0, a1, a2, a3, q_gt, q_ge, truR_bl, z, z2, z3, q_int, q_mod, okIf_pos h0, q_addI, q_sub, s1, s2, s3, q_lenC, q_ixS, hat, bindT, List.set_cons_succ, List.set_cons_zero, q_mul, okIf_pos m48, okIf_pos p31, q_pow, okIf_pos p18, q_fdiv, okIf_pos (And.intro h0 h1), SR.fin]
      | false =>
        refine ⟨y % m, k + 1, (x * 48271 + y + 11) % 2147483647, c, ?_, (mod y).1, (mod y).2, by omega⟩
        simp only [b__law_taken, execSS, execS, evalE, evalB, evalL, R.bind_ok, R.toS_ok, v0, v1, v2, okD_some, q_row, a0, a1, a2, a3, q_gt, q_ge, truR_bl, z, z2, z3, q_int, q_mod, okIf_pos h0, q_addI, q_sub, s1, s2, s3, q_lenC, q_ixS, hat, bindT, List.set_cons_succ, List.set_cons_zero, q_mul, okIf_pos m48, okIf_pos p31, q_pow, okIf_pos p18, SR.fin]
end K61

set_option Elab.async false
set_option linter.all false
set_option maxRecDepth 100000
set_option maxHeartbeats 4000000
namespace K61
open PySem Ir
theorem pick_at {n : Nat} {ns : List Int} {k x c : Int} {t : Hh} {xs : List D} (hk : 0 ≤ k) (h0 : 0 < xs.length) (h1 : xs.length < 1073741824) : ∃ y k' x' c', run pg (n + 2) 0 11 [.ref 0, .lst xs] (rowO ns k x c :: t) = .ok y (rowO ns k' x' c' :: t) ∧ y ∈ xs ∧ 0 ≤ k' := by
  obtain ⟨v, k', x', c', e, v1, v2, v3⟩ := taken_at (n := n) (ns := ns) (k := k) (x := x) (c := c) (m := (xs.length : Int)) (t := t) hk (by omega) (by omega)
  have hv : v.toNat < xs.length := by omega
  have hat : L2.atI xs v = some xs[v.toNat] := atI_nat v1 (List.getElem?_eq_getElem hv)
  refine ⟨xs[v.toNat], k', x', c', ?_, List.getElem_mem hv, v3⟩
  rw [run_call (F := f__law_pick) rfl rfl rfl]
  show (execSS (XX (n + 1)) 0 b__law_pick [some (.ref 0), some (.lst xs)] _).fin = _
  have e' : (XX (n + 1)).C 0 10 [.ref 0, .int xs.length] (rowO ns k x c :: t) = .ok (.int v) (rowO ns k' x' c' :: t) := e
  simp only [b__law_pick, execSS, execS, evalE, evalL, R.bind_ok, R.toS_ok, v0, v1, K61.v0, K61.v1, okD_some, q_lenL, e', q_ixL, hat, SR.fin]
/-! ### values -/
inductive Kd where
  | num | txt | tru
inductive Vl where
  | num (i : Int) | txt (cs : List Nat) | tru (b : Bool)
def Kd.d : Kd → D
  | .num => .str "number"
  | .txt => .str "text"
  | .tru => .str "truth"
def Vl.d : Vl → D
  | .num i => .int i
  | .txt cs => .str ⟨cs.toArray⟩
  | .tru b => .bl b
def C7 : List Nat := [32, 97, 98, 126, 39, 90, 48]
def Good : Kd → Vl → Prop
  | .num, .num i => -1000000 ≤ i ∧ i ≤ 1000000
  | .txt, .txt cs => cs.length ≤ 10 ∧ ∀ c ∈ cs, c ∈ C7
  | .tru, .tru _ => True
  | _, _ => False
/-- a row that stands -/
def RowAt (ns : List Int) (t : Hh) (h : Hh) : Prop := ∃ k x c, 0 ≤ k ∧ h = rowO ns k x c :: t
theorem eq_str {h : Hh} {a b : Str} (ha : PyData.strOk a = true) (hb : PyData.strOk b = true) : eqOf h (.str a) (.str b) = some (a == b) := by
  have k1 : SeqAt.shaped (.str a) = true := by
    unfold SeqAt.shaped
    rw [show PyData.canLay0 (.str a) = true from ha]; rfl
  have k2 : SeqAt.shaped (.str b) = true := by
    unfold SeqAt.shaped
    rw [show PyData.canLay0 (.str b) = true from hb]; rfl
  show (match some (PyData.str a), some (PyData.str b) with
    | some p, some q => if SeqAt.shaped p && SeqAt.shaped q then some (PyData.eqv p q) else none
    | _, _ => none) = _
  simp only [k1, k2, Bool.and_self, if_true]
  rfl
theorem join_nil (cs : List Nat) : Txt.join ("" : Str) (cs.map fun c => (⟨#[c]⟩ : Str)) = ⟨cs.toArray⟩ := by
  show Builtin.Str.glued _ _ = _
  rw [PySem.StrLaws.glued_eq_join]
  apply PySem.W.str_of_cps
  induction cs with
  | nil => rfl
  | cons c r ih =>
    cases r with
    | nil => rfl
    | cons d r =>
      show ((⟨#[c]⟩ : Str) ++ ("" : Str) ++ Str.join ("" : Str) ((d :: r).map fun c => (⟨#[c]⟩ : Str))).cps.toList = _
      have e : ∀ (a b : Str), (a ++ b).cps.toList = a.cps.toList ++ b.cps.toList := fun a b => by
        show (a.cps ++ b.cps).toList = _
        rw [Array.toList_append]
      rw [e, e, ih]
      rfl
theorem strs_all : ∀ {ys : List D} (P : Nat → Prop), (∀ y ∈ ys, ∃ c, y = .str ⟨#[c]⟩ ∧ P c) → ∃ cs : List Nat, cs.length = ys.length ∧ (∀ c ∈ cs, P c) ∧ strsOf ys = some (cs.map fun c => (⟨#[c]⟩ : Str))
  | [], P, _ => ⟨[], rfl, fun _ h => (by cases h), rfl⟩
  | y :: ys, P, h => by
    obtain ⟨c, rfl, pc⟩ := h y (by simp)
    obtain ⟨cs, l, q, e⟩ := strs_all (ys := ys) P fun z hz => h z (by simp [hz])
    refine ⟨c :: cs, by simp [l], fun d hd => ?_, ?_⟩
    · rcases List.mem_cons.mp hd with rfl | hd
      · exact pc
      · exact q d hd
    · show (strsOf ys).map _ = _
      rw [e]; rfl
theorem q_join {h : Hh} {ys : List D} {cs : List Nat} (e : strsOf ys = some (cs.map fun c => (⟨#[c]⟩ : Str))) (hl : cs.length ≤ 1000) : prim .join [.str "", .lst ys] h = .ok (.str ⟨cs.toArray⟩) h := by
  show (match strsOf ys with
    | some ys => okIf ((ys.map Str.length).sum + ("" : Str).length * ys.length ≤ 16777216) (R.ok (D.str (Txt.join ("" : Str) ys)) h)
    | none => .stuck) = _
  rw [e]
  have s : ∀ cs : List Nat, ((cs.map fun c => (⟨#[c]⟩ : Str)).map Str.length).sum = cs.length := fun cs => by
    induction cs with
    | nil => rfl
    | cons c r ih => rw [List.map_cons, List.map_cons, List.sum_cons, ih, List.length_cons]; show 1 + r.length = _; omega
  have z : ("" : Str).length = 0 := rfl
  simp only
  rw [okIf_pos (by rw [s, z]; omega), join_nil]
end K61

set_option Elab.async false
set_option linter.all false
set_option maxRecDepth 100000
set_option maxHeartbeats 4000000
namespace K61
open PySem Ir
theorem kd_num {h : Hh} (k : Kd) : eqOf h k.d (.str "number") = some (match k with | .num => true | _ => false) := by cases k <;> (rw [Kd.d, eq_str (by decide +kernel) (by decide +kernel)]; decide +kernel)
theorem kd_txt {h : Hh} (k : Kd) : eqOf h k.d (.str "text") = some (match k with | .txt => true | _ => false) := by cases k <;> (rw [Kd.d, eq_str (by decide +kernel) (by decide +kernel)]; decide +kernel)
theorem kd_tru {h : Hh} (k : Kd) : eqOf h k.d (.str "truth") = some (match k with | .tru => true | _ => false) := by cases k <;> (rw [Kd.d, eq_str (by decide +kernel) (by decide +kernel)]; decide +kernel)
theorem eq_int {h : Hh} {i j : Int} : eqOf h (.int i) (.int j) = some (i == j) := by
  show (match some (PyData.int i), some (PyData.int j) with
    | some p, some q => if SeqAt.shaped p && SeqAt.shaped q then some (PyData.eqv p q) else none
    | _, _ => none) = _
  have e : ∀ i : Int, SeqAt.shaped (.int i) = true := fun i => rfl
  simp only [e, Bool.and_self, if_true]
  rfl
theorem ev_lc {X : Ir.Cx} {mt : Bool} {own : List (Str × Nat)} {tg : Ir.T} {src : G} {hasIf : Bool} {c elt : E} {ρ : Rho} {h : Hh} : evalE X (.lc mt own tg src hasIf c elt) ρ h = (evalG X src ρ h).bind fun s h1 => (lcLoop s.2 (lcF X own tg hasIf c elt ρ) s.1 0 [] h1).bind (lcEnd mt) := rfl
theorem lcF_one {X : Ir.Cx} {own : List (Str × Nat)} {i : Nat} {c elt : E} {ρ : Rho} {d : D} {h : Hh} : lcF X own (.name i) false c elt ρ (.one d) h = (evalE X elt ((Ir.wipe ρ (own.map (·.2))).set i (some d)) h).bind fun y h4 => .ok (some y) h4 := rfl
def signs7 : List D := [.str " ", .str "a", .str "b", .str "~", .str "'", .str "Z", .str "0"]
theorem signs_at {y : D} (h : y ∈ signs7) : ∃ c, y = .str ⟨#[c]⟩ ∧ c ∈ C7 := by
  simp only [signs7, List.mem_cons, List.not_mem_nil, or_false] at h
  rcases h with rfl | rfl | rfl | rfl | rfl | rfl | rfl
  · exact ⟨32, congrArg D.str (by decide +kernel), by decide⟩
  · exact ⟨97, congrArg D.str (by decide +kernel), by decide⟩
  · exact ⟨98, congrArg D.str (by decide +kernel), by decide⟩
  · exact ⟨126, congrArg D.str (by decide +kernel), by decide⟩
  · exact ⟨39, congrArg D.str (by decide +kernel), by decide⟩
  · exact ⟨90, congrArg D.str (by decide +kernel), by decide⟩
  · exact ⟨48, congrArg D.str (by decide +kernel), by decide⟩
theorem rg1 {X : Ir.Cx} {e : E} {ρ : Rho} {h h1 : Hh} {j : Int} (he : evalE X e ρ h = .ok (.int j) h1) (h0 : 0 ≤ j) (h2 : j < 1000) : evalG X (.range1 e) ρ h = .ok (j.toNat, ones (rgInts 0 j.toNat)) h1 := by
  show ((evalE X e ρ h).bind fun x h1 => match x with
    | .int j => if -(2 ^ 62) ≤ j ∧ j < 2 ^ 62 then R.ok (j.toNat, ones (rgInts 0 j.toNat)) h1 else .stuck
    | _ => .stuck) = _
  rw [he, R.bind_ok]
  exact if_pos ⟨by omega, by omega⟩
theorem value_at {n : Nat} {ns : List Int} {k x c : Int} {t : Hh} (hk : 0 ≤ k) (kd : Kd) : ∃ v k' x' c', run pg (n + 3) 0 13 [.ref 0, kd.d] (rowO ns k x c :: t) = .ok (Vl.d v) (rowO ns k' x' c' :: t) ∧ Good kd v ∧ 0 ≤ k' := by
  rw [run_call (F := f__law_value) rfl rfl rfl]
  show ∃ v k' x' c', (execSS (XX (n + 2)) 0 b__law_value [some (.ref 0), some kd.d, none, none, none] _).fin = _ ∧ _
  cases kd with
  | num =>
    obtain ⟨w1, k1, x1, c1, e1, p1, p2, p3⟩ := taken_at (n := n + 1) (ns := ns) (k := k) (x := x) (c := c) (m := 3) (t := t) hk (by decide) (by decide)
    obtain ⟨w2, k2, x2, c2, e2, q1, q2, q3⟩ := taken_at (n := n + 1) (ns := ns) (k := k1) (x := x1) (c := c1) (m := 20) (t := t) p3 (by decide) (by decide)
    obtain ⟨w3, k3, x3, c3, e3, r1, r2, r3⟩ := taken_at (n := n + 1) (ns := ns) (k := k2) (x := x2) (c := c2) (m := 2000001) (t := t) q3 (by decide) (by decide)
    obtain ⟨y, k4, x4, c4, e4, y1, y2⟩ := pick_at (n := n) (ns := ns) (k := k3) (x := x3) (c := c3) (t := t) (xs := [.int w1, .int (w2 - 10), .int 1000000, .int (0 - 1000000)] ++ [.int (w3 - 1000000)]) r3 (by simp) (by simp)
    have f1 : (XX (n + 2)).C 0 10 [.ref 0, .int 3] (rowO ns k x c :: t) = _ := e1
    have f2 : (XX (n + 2)).C 0 10 [.ref 0, .int 20] (rowO ns k1 x1 c1 :: t) = _ := e2
    have f3 : (XX (n + 2)).C 0 10 [.ref 0, .int 2000001] (rowO ns k2 x2 c2 :: t) = _ := e3
    have f4 : (XX (n + 2)).C 0 11 [.ref 0, .lst ([.int w1, .int (w2 - 10), .int 1000000, .int (0 - 1000000)] ++ [.int (w3 - 1000000)])] (rowO ns k3 x3 c3 :: t) = _ := e4
    have hy : ∃ i, y = .int i ∧ -1000000 ≤ i ∧ i ≤ 1000000 := by
      simp only [List.cons_append, List.nil_append, List.mem_cons, List.not_mem_nil, or_false] at y1
      rcases y1 with rfl | rfl | rfl | rfl | rfl
      · exact ⟨_, rfl, by omega, by omega⟩
      · exact ⟨_, rfl, by omega, by omega⟩
      · exact ⟨_, rfl, by omega, by omega⟩
      · exact ⟨_, rfl, by omega, by omega⟩
      · exact ⟨_, rfl, by omega, by omega⟩
    obtain ⟨i, rfl, hi⟩ := hy
    refine ⟨.num i, k4, x4, c4, ?_, hi, y2⟩
    have a1 : ([D.int w1, .int (w2 - 10), .int 1000000, .int (0 - 1000000)] : List D).length + ([D.int (w3 - 1000000)] : List D).length ≤ sizeLine := fits (by decide : 5 ≤ 16777216) (by simp)
    have a2 : ([D.int w1, .int (w2 - 10), .int 1000000, .int (0 - 1000000)] : List D).length ≤ sizeLine := fits (by decide : 5 ≤ 16777216) (by simp)
    have a3 : ([D.int (w3 - 1000000)] : List D).length ≤ sizeLine := fits (by decide : 5 ≤ 16777216) (by simp)
    simp only [b__law_value, execSS, execS, evalE, evalB, evalL, R.bind_ok, R.toS_ok, v0, v1, okD_some, q_eq, kd_num, okB_some, truR_bl, f1, f2, q_sub, okIf_pos a2, bindT, List.set_cons_succ, List.set_cons_zero, v3, f3, okIf_pos a3, q_addL, okIf_pos a1, f4, SR.fin]
    rfl
  | tru =>
    obtain ⟨w1, k1, x1, c1, e1, p1, p2, p3⟩ := taken_at (n := n + 1) (ns := ns) (k := k) (x := x) (c := c) (m := 2) (t := t) hk (by decide) (by decide)
    have f1 : (XX (n + 2)).C 0 10 [.ref 0, .int 2] (rowO ns k x c :: t) = _ := e1
    refine ⟨.tru (w1 == 0), k1, x1, c1, ?_, trivial, p3⟩
    simp only [b__law_value, execSS, execS, evalE, evalB, evalL, R.bind_ok, R.toS_ok, v0, v1, okD_some, q_eq, kd_num, kd_tru, eq_int, okB_some, truR_bl, f1, SR.fin]
    rfl
  | txt =>
    obtain ⟨w1, k1, x1, c1, e1, p1, p2, p3⟩ := taken_at (n := n + 1) (ns := ns) (k := k) (x := x) (c := c) (m := 3) (t := t) hk (by decide) (by decide)
    have hm : ∃ m : Int, L2.atI [D.int 2, .int 3, .int 11] w1 = some (.int m) ∧ 0 < m ∧ m ≤ 11 := by
      have : w1 = 0 ∨ w1 = 1 ∨ w1 = 2 := by omega
      rcases this with rfl | rfl | rfl
      · exact ⟨2, rfl, by decide, by decide⟩
      · exact ⟨3, rfl, by decide, by decide⟩
      · exact ⟨11, rfl, by decide, by decide⟩
    obtain ⟨m, hat, m0, m1⟩ := hm
    obtain ⟨w2, k2, x2, c2, e2, q1, q2, q3⟩ := taken_at (n := n + 1) (ns := ns) (k := k1) (x := x1) (c := c1) (m := m) (t := t) p3 m0 (by omega)
    have f1 : (XX (n + 2)).C 0 10 [.ref 0, .int 3] (rowO ns k x c :: t) = _ := e1
    have f2 : (XX (n + 2)).C 0 10 [.ref 0, .int m] (rowO ns k1 x1 c1 :: t) = _ := e2
    have b1 : ([D.int 2, .int 3, .int 11] : List D).length ≤ sizeLine := fits (by decide : 5 ≤ 16777216) (by simp)
    have b7 : signs7.length ≤ sizeLine := fits (by decide : 7 ≤ 16777216) (by simp [signs7])
    have hg : evalG (XX (n + 2)) (.range1 (.call 10 (.cons (.var 0) (.cons (.prim .idx (.cons (.lst (.cons (.cst (.int 2)) (.cons (.cst (.int 3)) (.cons (.cst (.int 11)) .nil)))) (.cons (.call 10 (.cons (.var 0) (.cons (.cst (.int 3)) .nil))) .nil))) .nil)))) [some (.ref 0), some Kd.txt.d, some (.lst signs7), none, none] (rowO ns k x c :: t) = .ok (w2.toNat, ones (rgInts 0 w2.toNat)) (rowO ns k2 x2 c2 :: t) := by
      refine rg1 ?_ q1 (by omega)
      simp only [evalE, evalL, R.bind_ok, v0, okD_some, okIf_pos b1, f1, q_ixL, hat, f2]
    obtain ⟨ys, h', l1, ⟨k3, x3, c3, z1, z2⟩, l3, l4⟩ := lc_run (rd := ones (rgInts 0 w2.toNat)) (f := lcF (XX (n + 2)) [("_law_turn", 4)] (.name 4) false (.cst (.bl true)) (.call 11 (.cons (.var 0) (.cons (.var 2) .nil))) [some (.ref 0), some Kd.txt.d, some (.lst signs7), none, none]) (its := rgIts 0 w2.toNat) (n := w2.toNat) (h := rowO ns k2 x2 c2 :: t) (RowAt ns t) (fun _ y => ∃ c, y = .str ⟨#[c]⟩ ∧ c ∈ C7) (fun i h _ => ones_rg 0 _ i h) (fun it hit h ⟨k, x, c, hk, hh⟩ => by
        obtain ⟨i, _, rfl⟩ := List.mem_map.mp hit
        subst hh
        obtain ⟨y, k', x', c', e, y1, y2⟩ := pick_at (n := n) (ns := ns) (k := k) (x := x) (c := c) (t := t) (xs := signs7) hk (by decide) (by decide)
        refine ⟨y, rowO ns k' x' c' :: t, ?_, ⟨k', x', c', y2, rfl⟩, signs_at y1⟩
        have g1 : (XX (n + 2)).C 0 11 [.ref 0, .lst signs7] (rowO ns k x c :: t) = _ := e
        rw [lcF_one]
        simp only [Ir.wipe, List.map_cons, List.map_nil, List.set_cons_succ, List.set_cons_zero, evalE, evalL, R.bind_ok, v0, v2, okD_some, g1]) (by rw [rgIts_len]; exact fits (by decide : 1000 ≤ 16777216) (by omega)) (by rw [rgIts_len]; exact Nat.le_refl _) ⟨k2, x2, c2, q3, rfl⟩
    rw [rgIts_len] at l3
    have hall : ∀ y ∈ ys, ∃ c, y = .str ⟨#[c]⟩ ∧ c ∈ C7 := fun y hy => by
      obtain ⟨j, hj, rfl⟩ := List.mem_iff_getElem.mp hy
      have hj2 : j < (rgIts 0 w2.toNat).length := by rw [rgIts_len]; omega
      obtain ⟨y', e, q⟩ := l4 j _ (List.getElem?_eq_getElem hj2)
      rw [List.getElem?_eq_getElem hj] at e
      cases e
      exact q
    obtain ⟨cs, s1, s2, s3⟩ := strs_all (· ∈ C7) hall
    refine ⟨.txt cs, k3, x3, c3, ?_, ⟨by omega, s2⟩, z1⟩
    subst z2
    have hlc : evalE (XX (n + 2)) (.lc false [("_law_turn", 4)] (.name 4) (.range1 (.call 10 (.cons (.var 0) (.cons (.prim .idx (.cons (.lst (.cons (.cst (.int 2)) (.cons (.cst (.int 3)) (.cons (.cst (.int 11)) .nil)))) (.cons (.call 10 (.cons (.var 0) (.cons (.cst (.int 3)) .nil))) .nil))) .nil)))) false (.cst (.bl true)) (.call 11 (.cons (.var 0) (.cons (.var 2) .nil)))) [some (.ref 0), some Kd.txt.d, some (.lst signs7), none, none] (rowO ns k x c :: t) = .ok (.lst ys) (rowO ns k3 x3 c3 :: t) := by
      rw [ev_lc, hg, R.bind_ok]
      show (lcLoop (ones (rgInts 0 w2.toNat)) _ w2.toNat 0 [] (rowO ns k2 x2 c2 :: t)).bind _ = _
      rw [l1]; rfl
    have b8 : ([D.str " ", .str "a", .str "b", .str "~", .str "'", .str "Z", .str "0"] : List D).length ≤ sizeLine := b7
    have hs : ([D.str " ", .str "a", .str "b", .str "~", .str "'", .str "Z", .str "0"] : List D) = signs7 := rfl
    have hj := q_join (h := rowO ns k3 x3 c3 :: t) s3 (by omega)
    have kk : kindOf (rowO ns k x c :: t) (.str "") = some .str := rfl
    have km : methOk .join .str = true := rfl
    simp only [b__law_value, execSS, execS, ev_var, ev_cst, ev_prim, ev_lst, ev_meth, eb_prim, el_nil, el_cons, R.bind_ok, R.toS_ok, v0, v1, v2, okD_some, q_eq, kd_num, kd_tru, okB_some, truR_bl, okIf_pos b8, okIf_pos b7, hs, bindT, List.set_cons_succ, List.set_cons_zero, kk, km, if_true, hlc, hj, SR.fin]
    rfl
end K61

set_option Elab.async false
set_option linter.all false
set_option maxRecDepth 100000
set_option maxHeartbeats 4000000
namespace K61
open PySem Ir
def nums (xs : List Int) : List D := xs.map D.int
def ixS (c : Nat) : Nat := if c < 37 then c - 32 else c - 33
def enc : Vl → List Int
  | .num i => [(i + 1000000) / 65536, (i + 1000000) / 256 % 256, (i + 1000000) % 256]
  | .txt cs => cs.map (fun c => ((ixS c : Nat) : Int) + 1) ++ [0]
  | .tru b => [if b then 1 else 0]
def SG : Str := " !\"#$&'()*+,-./0123456789:;<=>?@ABCDEFGHIJKLMNOPQRSTUVWXYZ[\\]^_`abcdefghijklmnopqrstuvwxyz{|}~"
theorem con3 {n : Nat} : (XX n).con 3 = some (.str SG) := rfl
theorem con2 {n : Nat} : (XX n).con 2 = some (.tup [.str "number", .str "text", .str "truth"]) := rfl
theorem occ7 : ∀ c ∈ C7, Builtin.Str.occurrences SG ⟨#[c]⟩ 0 SG.length 1 = [ixS c] := by decide +kernel
theorem q_sign {c : Nat} {h : Hh} (hc : c ∈ C7) : prim .index [.str SG, .str ⟨#[c]⟩] h = .ok (.int (ixS c : Nat)) h := by
  show (match Builtin.Str.occurrences SG ⟨#[c]⟩ 0 SG.length 1 with
    | i :: _ => R.ok (D.int (i : Nat)) h
    | [] => .stuck) = _
  rw [occ7 c hc]
theorem q_signIn {c : Nat} {h : Hh} (hc : c ∈ C7) : prim .inn [.str ⟨#[c]⟩, .str SG] h = .ok (.bl true) h := by
  show okB h (some (!(Builtin.Str.occurrences SG ⟨#[c]⟩ 0 SG.length 1).isEmpty)) = _
  rw [occ7 c hc]; rfl
theorem sign7 : ∀ c ∈ C7, SG.cps.toList[ixS c]? = some c := by decide +kernel
theorem nums_app {xs ys : List Int} : nums (xs ++ ys) = nums xs ++ nums ys := List.map_append
theorem enc_len {kd : Kd} {v : Vl} (g : Good kd v) : (enc v).length ≤ 11 := by
  cases v with
  | num i => simp [enc]
  | tru b => simp [enc]
  | txt cs =>
    cases kd <;> first | exact g.elim | skip
    have := g.1
    simp [enc]; omega
theorem seq_str {X : Ir.Cx} {e : E} {ρ : Rho} {h h1 : Hh} {s : Str} (he : evalE X e ρ h = .ok (.str s) h1) : evalG X (.seq e) ρ h = .ok (s.cps.size, ones (fixed (signs s))) h1 := by
  show ((evalE X e ρ h).bind fun x h1 => match x with
    | .str s => R.ok (s.cps.size, ones (fixed (signs s))) h1
    | x => match rdOf h1 x with
      | some s => .ok (s.1, ones s.2) h1
      | none => .stuck) = _
  rw [he]; rfl
theorem seq_tup {X : Ir.Cx} {e : E} {ρ : Rho} {h h1 : Hh} {xs : List D} (he : evalE X e ρ h = .ok (.tup xs) h1) : evalG X (.seq e) ρ h = .ok (xs.length, ones (fixed xs)) h1 := by
  show ((evalE X e ρ h).bind fun x h1 => match x with
    | .str s => R.ok (s.cps.size, ones (fixed (signs s))) h1
    | x => match rdOf h1 x with
      | some s => .ok (s.1, ones s.2) h1
      | none => .stuck) = _
  rw [he]; rfl
theorem lc_done {X : Ir.Cx} {mt : Bool} {own : List (Str × Nat)} {tg : Ir.T} {src : G} {hasIf : Bool} {c elt : E} {ρ : Rho} {h h1 h2 : Hh} {s : Nat × Rd} {ys : List D} (hg : evalG X src ρ h = .ok s h1) (hl : lcLoop s.2 (lcF X own tg hasIf c elt ρ) s.1 0 [] h1 = .ok ys h2) : evalE X (.lc mt own tg src hasIf c elt) ρ h = lcEnd mt ys h2 := by
  rw [ev_lc, hg, R.bind_ok, hl, R.bind_ok]
theorem kindS {h : Hh} {a : Str} : kindOf h (.str a) = some .str := rfl
theorem kindT {h : Hh} {xs : List D} : kindOf h (.tup xs) = some .tup := rfl
theorem kindR {t : Hh} {xs : List D} : kindOf (.lst xs :: t) (.ref 0) = some .lst := rfl
theorem mIS : methOk .index .str = true := rfl
theorem mIT : methOk .index .tup = true := rfl
theorem mA : methOk .append .lst = true := rfl
theorem mX : methOk .extend .lst = true := rfl
theorem mJ : methOk .join .str = true := rfl
theorem signs_map (cs : List Nat) : signs (⟨cs.toArray⟩ : Str) = cs.map fun c => .str ⟨#[c]⟩ := by simp [signs]
theorem nr_nums (xs : List Int) : noRefL (nums xs) = true := by
  induction xs with
  | nil => rfl
  | cons x r ih => exact ih
theorem nr_d (v : Vl) : noRef v.d = true := by cases v <;> rfl
theorem nr_k (k : Kd) : noRef k.d = true := by cases k <;> rfl
theorem key_of_value_at {n : Nat} {kd : Kd} {v : Vl} {h : Hh} (g : Good kd v) : run pg (n + 1) 0 4 [kd.d, v.d] h = .ok (.tup (nums (enc v))) h := by
  rw [run_pure (F := f_key_of_value) rfl rfl rfl (by simp [noRefL, nr_d, nr_k])]
  show modeR 1 h (execSS (XX n) 0 b_key_of_value [some kd.d, some v.d, none, none] []).fin = _
  have e : (execSS (XX n) 0 b_key_of_value [some kd.d, some v.d, none, none] []).fin = .ok (.tup (nums (enc v))) [] := by
    cases kd with
    | num =>
      cases v <;> first | exact g.elim | skip
      rename_i i
      have z3 : ([D.int ((i + 1000000) / 65536), .int ((i + 1000000) / 256 % 256), .int ((i + 1000000) % 256)] : List D).length ≤ sizeLine := fits (by decide : 5 ≤ 16777216) (by simp)
      have p1 : (0 : Int) < 65536 ∧ (65536 : Int) < 1073741824 := by decide
      have p2 : (0 : Int) < 256 ∧ (256 : Int) < 1073741824 := by decide
      simp only [b_key_of_value, execSS, execS, ev_var, ev_cst, ev_con, ev_prim, ev_tup, eb_prim, el_nil, el_cons, R.bind_ok, R.toS_ok, K61.v0, K61.v1, K61.v2, okD_some, q_eq, kd_num, okB_some, truR_bl, Vl.d, con0, q_addI, bindT, List.set_cons_succ, List.set_cons_zero, q_fdiv, okIf_pos p1, okIf_pos p2, q_mod, okIf_pos p2.1, okIf_pos z3, SR.fin]
      rfl
    | tru =>
      cases v <;> first | exact g.elim | skip
      rename_i b
      have z1 : ∀ x : D, ([x] : List D).length ≤ sizeLine := fun x => fits (by decide : 5 ≤ 16777216) (by simp)
      cases b with
      | true =>
        simp only [b_key_of_value, execSS, execS, ev_var, ev_cst, ev_prim, ev_ite, eb_var, ev_tup, eb_prim, el_nil, el_cons, R.bind_ok, R.toS_ok, K61.v0, K61.v1, okD_some, q_eq, kd_num, kd_txt, okB_some, truR_bl, Vl.d, okIf_pos (z1 _), SR.fin]
        rfl
      | false =>
        simp only [b_key_of_value, execSS, execS, ev_var, ev_cst, ev_prim, ev_ite, eb_var, ev_tup, eb_prim, el_nil, el_cons, R.bind_ok, R.toS_ok, K61.v0, K61.v1, okD_some, q_eq, kd_num, kd_txt, okB_some, truR_bl, Vl.d, okIf_pos (z1 _), SR.fin]
        rfl
    | txt =>
      cases v <;> first | exact g.elim | skip
      rename_i cs
      have hl : lcLoop (ones (fixed (signs (⟨cs.toArray⟩ : Str)))) (lcF (XX n) [("sign", 3)] (.name 3) false (.cst (.bl true)) (.prim .add (.cons (.meth .index (.con 3) (.cons (.var 3) .nil)) (.cons (.cst (.int 1)) .nil))) [some Kd.txt.d, some (.str ⟨cs.toArray⟩), none, none]) cs.toArray.size 0 [] [] = .ok ((cs.map fun c => D.int ((ixS c : Nat) + 1))) [] := by
        rw [signs_map]
        have := lc_fun (rd := ones (fixed (cs.map fun c => D.str ⟨#[c]⟩))) (f := lcF (XX n) [("sign", 3)] (.name 3) false (.cst (.bl true)) (.prim .add (.cons (.meth .index (.con 3) (.cons (.var 3) .nil)) (.cons (.cst (.int 1)) .nil))) [some Kd.txt.d, some (.str ⟨cs.toArray⟩), none, none]) (its := (cs.map fun c => D.str ⟨#[c]⟩).map It.one) (n := cs.toArray.size) (h := []) (fun x => match x with
          | .one (.str s) => some (D.int ((ixS (s.cps.toList.headD 0) : Nat) + 1))
          | _ => none) (fun i => ones_fixed _ i []) (fun x hx => by
            obtain ⟨d, hd, rfl⟩ := List.mem_map.mp hx
            obtain ⟨c, hc, rfl⟩ := List.mem_map.mp hd
            rw [lcF_one]
            simp only [Ir.wipe, List.map_cons, List.map_nil, List.set_cons_succ, List.set_cons_zero, ev_prim, ev_meth, ev_con, ev_var, ev_cst, el_nil, el_cons, R.bind_ok, con3, okD_some, K61.v3, kindS, mIS, if_true, q_sign (g.2 c hc), q_addI]
            rfl) (by simp; exact fits (by decide : 10 ≤ 16777216) g.1) (by simp)
        rw [this]
        congr 1
        clear this g
        induction cs with
        | nil => rfl
        | cons c r ih => simp only [List.map_cons, List.filterMap_cons, ih]; rfl
      have hlc : evalE (XX n) (.lc false [("sign", 3)] (.name 3) (.seq (.var 1)) false (.cst (.bl true)) (.prim .add (.cons (.meth .index (.con 3) (.cons (.var 3) .nil)) (.cons (.cst (.int 1)) .nil)))) [some Kd.txt.d, some (.str ⟨cs.toArray⟩), none, none] [] = .ok (.lst (cs.map fun c => D.int ((ixS c : Nat) + 1))) [] := lc_done (seq_str rfl) hl
      have zl : ((cs.map fun c => D.int ((ixS c : Nat) + 1)) ++ [D.int 0]).length ≤ sizeLine := fits (by decide : 11 ≤ 16777216) (by simp; exact g.1)
      have hs : ∀ ys, seqOf [] (D.lst ys) = some ys := fun _ => rfl
      simp only [b_key_of_value, execSS, execS, ev_var, ev_cst, ev_prim, ev_tup, eb_prim, el_nil, el_cons, el_star, R.bind_ok, R.toS_ok, K61.v0, K61.v1, okD_some, q_eq, kd_num, kd_txt, okB_some, truR_bl, Vl.d, hlc, hs, okIf_pos zl, SR.fin]
      simp [nums, enc]
  rw [e]
  show (if noRef (.tup (nums (enc v))) = true then _ else _) = _
  rw [if_pos (show noRef (.tup (nums (enc v))) = true from nr_nums _)]
end K61

set_option Elab.async false
set_option linter.all false
set_option maxRecDepth 100000
set_option maxHeartbeats 4000000
namespace K61
open PySem Ir
abbrev Row := List (Kd × Vl)
def ksD (r : Row) : List D := r.map fun p => p.1.d
def vsD (r : Row) : List D := r.map fun p => p.2.d
def encA (r : Row) : List Int := r.flatMap fun p => enc p.2
def AllG (r : Row) : Prop := ∀ p ∈ r, Good p.1 p.2
theorem encA_len {r : Row} (g : AllG r) : (encA r).length ≤ 11 * r.length := by
  induction r with
  | nil => simp [encA]
  | cons p r ih =>
    have h1 := enc_len (g p (by simp))
    have h2 := ih fun q hq => g q (by simp [hq])
    simp only [encA, List.flatMap_cons, List.length_append, List.length_cons] at h2 ⊢
    omega
theorem nr_ks (r : Row) : noRefL (ksD r) = true := by
  induction r with
  | nil => rfl
  | cons p r ih => show (noRef p.1.d && noRefL (ksD r)) = true; rw [nr_k, ih]; rfl
theorem nr_vs (r : Row) : noRefL (vsD r) = true := by
  induction r with
  | nil => rfl
  | cons p r ih => show (noRef p.2.d && noRefL (vsD r)) = true; rw [nr_d, ih]; rfl
theorem zip_tup {X : Ir.Cx} {a b : E} {ρ : Rho} {h h1 h2 : Hh} {xs ys : List D} (ha : evalE X a ρ h = .ok (.tup xs) h1) (hb : evalE X b ρ h1 = .ok (.tup ys) h2) : evalG X (.zip a b) ρ h = .ok (xs.length, zipRd (fixed xs) (fixed ys)) h2 := by
  show ((evalE X a ρ h).bind fun x h1 => (evalE X b ρ h1).bind fun y h2 => match rdOf h2 x, rdOf h2 y with
    | some s, some t => if isTup x = isTup y then .ok (s.1, zipRd s.2 t.2) h2 else .stuck
    | _, _ => .stuck) = _
  rw [ha, R.bind_ok, hb, R.bind_ok]; rfl
theorem zip_row (r : Row) (i : Nat) : (zipIts (ksD r) (vsD r))[i]? = (r[i]?).map fun p => It.many [p.1.d, p.2.d] := by
  unfold zipIts ksD vsD
  rw [List.getElem?_map, List.zip, List.getElem?_zipWith, List.getElem?_map, List.getElem?_map]
  cases r[i]? <;> rfl
theorem take_enc {r : Row} {i : Nat} {p : Kd × Vl} (e : r[i]? = some p) : encA (r.take (i + 1)) = encA (r.take i) ++ enc p.2 := by
  rw [List.take_add_one, e]
  simp [encA]
theorem for_done {X : Ir.Cx} {tg : Ir.T} {src : G} {b : SS} {ρ : Rho} {h h1 : Hh} {s : Nat × Rd} (hg : evalG X src ρ h = .ok s h1) : execS X 0 (.for_ tg src b) ρ h = forLoop s.2 tg (execSS X 0 b) s.1 0 ρ h1 := by
  show (evalG X src ρ h).toS ρ _ = _
  rw [hg]; rfl
theorem q_ext0 {t : Hh} {xs ys : List D} : prim .extend [.ref 0, .tup ys] (.lst xs :: t) = okIf (xs.length + ys.length ≤ sizeLine) (.ok .non (.lst (xs ++ ys) :: t)) := rfl
theorem q_app0 {t : Hh} {xs : List D} {y : D} : prim .append [.ref 0, y] (.lst xs :: t) = okIf (xs.length < sizeLine) (.ok .non (.lst (xs ++ [y]) :: t)) := rfl
theorem key_made_at {n : Nat} {r : Row} {h : Hh} (g : AllG r) (hl : r.length ≤ 1000) : run pg (n + 2) 0 5 [.tup (ksD r), .tup (vsD r)] h = .ok (.tup (nums (encA r))) h := by
  rw [run_pure (F := f_key_made) rfl rfl rfl (by
    show (noRefL (ksD r) && (noRefL (vsD r) && true)) = true
    rw [nr_ks, nr_vs]; rfl)]
  show modeR 1 h (execSS (XX (n + 1)) 0 b_key_made [some (.tup (ksD r)), some (.tup (vsD r)), none, none, none] []).fin = _
  have z0 : ([] : List D).length ≤ sizeLine := fits (by decide : 5 ≤ 16777216) (by simp)
  have len := encA_len g
  obtain ⟨ρ', h', e1, ⟨a, b, hρ⟩, hh⟩ := for_run (rd := zipRd (fixed (ksD r)) (fixed (vsD r))) (tg := .pair (.cons (.name 3) (.cons (.name 4) .nil))) (f := execSS (XX (n + 1)) 0 (.cons (.expr (.meth .extend (.var 2) (.cons (.call 4 (.cons (.var 3) (.cons (.var 4) .nil))) .nil))) .nil)) (its := zipIts (ksD r) (vsD r)) (n := (ksD r).length) (ρ := [some (.tup (ksD r)), some (.tup (vsD r)), some (.ref 0), none, none]) (h := [.lst []])
    (fun i ρ h => (∃ a b, ρ = [some (.tup (ksD r)), some (.tup (vsD r)), some (.ref 0), a, b]) ∧ h = [.lst (nums (encA (r.take i)))]) (fun i ρ h _ => zip_fixed _ _ i h) (fun i x ρ h hx ⟨⟨a, b, hρ⟩, hh⟩ => by
      subst hρ hh
      rw [zip_row] at hx
      cases z : r[i]? with
      | none => rw [z] at hx; cases hx
      | some p =>
        rw [z] at hx
        obtain rfl : x = .many [p.1.d, p.2.d] := (Option.some.inj hx).symm
        have gp := g p (List.mem_of_getElem? z)
        have lp := enc_len gp
        refine ⟨[some (.tup (ksD r)), some (.tup (vsD r)), some (.ref 0), some p.1.d, some p.2.d], rfl, [some (.tup (ksD r)), some (.tup (vsD r)), some (.ref 0), some p.1.d, some p.2.d], [.lst (nums (encA (r.take (i + 1))))], ?_, ⟨_, _, rfl⟩, rfl⟩
        have f1 : (XX (n + 1)).C 0 4 [p.1.d, p.2.d] [.lst (nums (encA (r.take i)))] = _ := key_of_value_at (n := n) gp
        have lt := encA_len (r := r.take i) fun q hq => g q (List.mem_of_mem_take hq)
        have lr : (r.take i).length ≤ r.length := by rw [List.length_take]; exact Nat.min_le_right _ _
        have zz : (nums (encA (r.take i))).length + (nums (enc p.2)).length ≤ sizeLine := by
          refine fits (by decide : 20000 ≤ 16777216) ?_
          simp only [nums, List.length_map]
          omega
        simp only [execSS, execS, ev_meth, ev_var, ev_call, el_nil, el_cons, R.bind_ok, R.toS_ok, K61.v2, K61.v3, K61.v4, okD_some, kindR, mX, if_true, f1, q_ext0, okIf_pos zz]
        rw [take_enc z, nums_app]) (by rw [zipIts_len, ksD, List.length_map]; exact Nat.min_le_left _ _) ⟨⟨_, _, rfl⟩, by rfl⟩
  have ll : (zipIts (ksD r) (vsD r)).length = r.length := by rw [zipIts_len, ksD, vsD, List.length_map, List.length_map, Nat.min_self]
  rw [ll, List.take_length] at hh
  subst hρ hh
  have e2 : execS (XX (n + 1)) 0 (.for_ (.pair (.cons (.name 3) (.cons (.name 4) .nil))) (.zip (.var 0) (.var 1)) (.cons (.expr (.meth .extend (.var 2) (.cons (.call 4 (.cons (.var 3) (.cons (.var 4) .nil))) .nil))) .nil)) [some (.tup (ksD r)), some (.tup (vsD r)), some (.ref 0), none, none] [.lst []] = .next [some (.tup (ksD r)), some (.tup (vsD r)), some (.ref 0), a, b] [.lst (nums (encA r))] := by
    rw [for_done (zip_tup rfl rfl)]
    exact e1
  have q0 : prim .tuple [.ref 0] [.lst (nums (encA r))] = .ok (.tup (nums (encA r))) [.lst (nums (encA r))] := rfl
  have s0 : execS (XX (n + 1)) 0 (.asg (.name 2) (.newl .nil)) [some (.tup (ksD r)), some (.tup (vsD r)), none, none, none] [] = .next [some (.tup (ksD r)), some (.tup (vsD r)), some (.ref 0), none, none] [.lst []] := by
    simp only [execS, ev_newl, el_nil, R.bind_ok, okIf_pos z0, R.toS_ok, bindT, List.set_cons_succ, List.set_cons_zero]
    rfl
  have e : (execSS (XX (n + 1)) 0 b_key_made [some (.tup (ksD r)), some (.tup (vsD r)), none, none, none] []).fin = .ok (.tup (nums (encA r))) [.lst (nums (encA r))] := by
    unfold b_key_made
    rw [show ∀ (s : Ir.S) (r : SS) (ρ : Rho) (h : Hh), execSS (XX (n + 1)) 0 (.cons s r) ρ h = match execS (XX (n + 1)) 0 s ρ h with
      | .next ρ1 h1 => execSS (XX (n + 1)) 0 r ρ1 h1
      | x => x from fun _ _ _ _ => rfl, s0]
    show (match execS (XX (n + 1)) 0 _ _ _ with
      | .next ρ1 h1 => execSS (XX (n + 1)) 0 _ ρ1 h1
      | x => x).fin = _
    rw [e2]
    show (execSS (XX (n + 1)) 0 _ _ _).fin = _
    simp only [execSS, execS, ev_prim, ev_var, el_nil, el_cons, R.bind_ok, R.toS_ok, K61.v2, okD_some, q0, SR.fin]
  rw [e]
  show (if noRef (.tup (nums (encA r))) = true then _ else _) = _
  rw [if_pos (show noRef (.tup (nums (encA r))) = true from nr_nums _)]
end K61

set_option Elab.async false
set_option linter.all false
set_option maxRecDepth 100000
set_option maxHeartbeats 4000000
namespace K61
open PySem Ir
theorem cut_from {α : Type} {xs : List α} {k : Nat} (h : k ≤ xs.length) : cut xs (some (k : Int)) none = xs.drop k := by
  unfold cut
  have e1 : HT.sIx xs.length 0 (some (k : Int)) = k := by rw [HT.sIx_nat]; omega
  have e2 : HT.sIx xs.length xs.length none = xs.length := rfl
  rw [e1, e2, List.take_of_length_le (by simp)]
theorem cut_mid {α : Type} {xs : List α} {k m : Nat} (h : k + m ≤ xs.length) : cut xs (some (k : Int)) (some ((k : Int) + (m : Int))) = (xs.drop k).take m := by
  unfold cut
  have e1 : HT.sIx xs.length 0 (some (k : Int)) = k := by rw [HT.sIx_nat]; omega
  have e2 : HT.sIx xs.length xs.length (some ((k : Int) + (m : Int))) = k + m := by
    rw [show ((k : Int) + (m : Int)) = ((k + m : Nat) : Int) from by omega, HT.sIx_nat]; omega
  rw [e1, e2]
  congr 1; omega
theorem cut_to {α : Type} {xs : List α} {k : Nat} (h : k ≤ xs.length) : cut xs none (some (k : Int)) = xs.take k := by
  unfold cut
  have e1 : HT.sIx xs.length 0 none = 0 := rfl
  have e2 : HT.sIx xs.length xs.length (some (k : Int)) = k := by rw [HT.sIx_nat]; omega
  rw [e1, e2]; rfl
theorem atI_gen {α : Type} {xs : List α} {k : Int} {d : α} (h0 : 0 ≤ k) (e : xs[k.toNat]? = some d) : L2.atI xs k = some d := by
  have hl := (List.getElem?_eq_some_iff.mp e).1
  have e1 : L2.ixN xs.length k = some k.toNat := by
    unfold L2.ixN
    rw [if_pos h0, if_pos (by omega)]
  unfold L2.atI
  rw [e1]
  exact e
theorem at_mid {pre mid post : List Int} {j : Nat} {v : Int} (e : mid[j]? = some v) : L2.atI (nums (pre ++ (mid ++ post))) ((pre.length : Int) + (j : Int)) = some (.int v) := by
  apply atI_gen (by omega)
  have hj := (List.getElem?_eq_some_iff.mp e).1
  rw [show ((pre.length : Int) + (j : Int)).toNat = pre.length + j from by omega]
  unfold nums
  rw [List.getElem?_map, List.getElem?_append_right (by omega), Nat.add_sub_cancel_left, List.getElem?_append_left hj, e]
  rfl
theorem at_mid0 {pre mid post : List Int} {v : Int} (e : mid[0]? = some v) : L2.atI (nums (pre ++ (mid ++ post))) (pre.length : Int) = some (.int v) := by
  have := at_mid (pre := pre) (post := post) e
  simpa using this
theorem mL {i j : Int} (h : -1000000000 < j ∧ j < 1000000000) : (decide (-(2 ^ 64) < i ∧ i < 2 ^ 64) || decide (-(2 ^ 64) < j ∧ j < 2 ^ 64)) = true := by
  have : decide (-(2 ^ 64) < j ∧ j < 2 ^ 64) = true := decide_eq_true (by omega)
  rw [this, Bool.or_true]
theorem ev_cut {X : Ir.Cx} {fl fh : Bool} {o lo hi : E} {ρ : Rho} {h : Hh} : evalE X (.cut fl fh o lo hi) ρ h = (evalE X o ρ h).bind fun x h1 => (match fl with
    | true => bnd (evalE X lo ρ h1)
    | false => .ok none h1).bind fun l h2 => (match fh with
    | true => bnd (evalE X hi ρ h2)
    | false => .ok none h2).bind fun u h3 => cutR x l u h3 := rfl
theorem bnd_int {h : Hh} {i : Int} : bnd (.ok (.int i) h) = .ok (some i) h := rfl
theorem cutR_tup {h : Hh} {xs : List D} {l u : Option Int} : cutR (.tup xs) l u h = .ok (.tup (cut xs l u)) h := rfl
theorem flat_nums (xs : List Int) : (nums xs).all flat = true := by
  induction xs with
  | nil => rfl
  | cons x r ih => exact ih
theorem first0 (cs : List Nat) (post : List Int) : ∀ n, firstAt (.int 0) (nums (cs.map (fun c => ((ixS c : Nat) : Int) + 1) ++ [0] ++ post)) n = some (n + cs.length) := by
  induction cs with
  | nil => intro n; rfl
  | cons c r ih =>
    intro n
    have z : (((ixS c : Nat) : Int) + 1 == 0) = false := by
      apply beq_false_of_ne; omega
    show (if (((ixS c : Nat) : Int) + 1 == 0) = true then some n else firstAt (.int 0) (nums (r.map (fun c => ((ixS c : Nat) : Int) + 1) ++ [0] ++ post)) (n + 1)) = _
    rw [z, if_neg (by decide), ih (n + 1), List.length_cons]
    congr 1; omega
theorem q_ixI {h : Hh} {xs : List D} {y : D} {m : Nat} (fy : flat y = true) (fx : xs.all flat = true) (e : firstAt y xs 0 = some m) : prim .index [.tup xs, y] h = .ok (.int (m : Nat)) h := by
  show (if (flat y && xs.all flat) = true then (match firstAt y xs 0 with
        | some n => R.ok (D.int (n : Nat)) h
        | none => .stuck) else .stuck) = _
  rw [fy, fx, e]; rfl
theorem q_augI {h : Hh} {i j : Int} : augP .add (.int i) (.int j) h = .ok (.int (i + j)) h := rfl
theorem ex_aug {X : Ir.Cx} {W i : Nat} {p : P} {e : E} {ρ : Rho} {h : Hh} {x : D} (g : getV ρ i = some x) : execS X W (.aug i p e) ρ h = (evalE X e ρ h).toS ρ fun y h1 => (augP p x y h1).toS ρ fun z h2 => .next (ρ.set i (some z)) h2 := by
  show (match getV ρ i with
    | some x => (evalE X e ρ h).toS ρ fun y h1 => (augP p x y h1).toS ρ fun z h2 => SR.next (ρ.set i (some z)) h2
    | none => .stuck) = _
  rw [g]
def b_rm : SS := (.cons (.if_ (.prim .eq (.cons (.var 2) (.cons (.cst (.str "number")) .nil))) 
      (.cons (.expr (.meth .append (.var 3) (.cons (.prim .sub (.cons (.prim .add (.cons (.prim .add (.cons (.prim .mul (.cons (.prim .idx (.cons (.var 1) (.cons (.var 4) .nil))) (.cons (.cst (.int 65536)) .nil))) (.cons (.prim .mul (.cons (.prim .idx (.cons (.var 1) (.cons (.prim .add (.cons (.var 4) (.cons (.cst (.int 1)) .nil))) .nil))) (.cons (.cst (.int 256)) .nil))) .nil))) (.cons (.prim .idx (.cons (.var 1) (.cons (.prim .add (.cons (.var 4) (.cons (.cst (.int 2)) .nil))) .nil))) .nil))) (.cons (.con 0) .nil))) .nil)))
      (.cons (.aug 4 .add (.cst (.int 3))) .nil)) 
      (.cons (.if_ (.prim .eq (.cons (.var 2) (.cons (.cst (.str "text")) .nil))) 
        (.cons (.asg (.name 5) (.meth .index (.cut true false (.var 1) (.var 4) (.cst .non)) (.cons (.cst (.int 0)) .nil)))
        (.cons (.expr (.meth .append (.var 3) (.cons (.meth .join (.cst (.str "")) (.cons (.lc false [("one", 6)] (.name 6) (.seq (.cut true true (.var 1) (.var 4) (.prim .add (.cons (.var 4) (.cons (.var 5) .nil))))) false (.cst (.bl true)) (.prim .idx (.cons (.con 3) (.cons (.prim .sub (.cons (.var 6) (.cons (.cst (.int 1)) .nil))) .nil)))) .nil)) .nil)))
        (.cons (.aug 4 .add (.prim .add (.cons (.var 5) (.cons (.cst (.int 1)) .nil)))) .nil))) 
        (.cons (.expr (.meth .append (.var 3) (.cons (.prim .eq (.cons (.prim .idx (.cons (.var 1) (.cons (.var 4) .nil))) (.cons (.cst (.int 1)) .nil))) .nil)))
        (.cons (.aug 4 .add (.cst (.int 1))) .nil))) .nil)) .nil)
theorem row_step {n : Nat} {kd : Kd} {v : Vl} {pre post : List Int} {acc : List D} {K : D} {s : Option D} (g : Good kd v) (hk : acc.length ≤ 1000) : ∃ s', execSS (XX n) 0 b_rm [some K, some (.tup (nums (pre ++ (enc v ++ post)))), some kd.d, some (.ref 0), some (.int (pre.length : Int)), s, none] [.lst acc] = .next [some K, some (.tup (nums (pre ++ (enc v ++ post)))), some kd.d, some (.ref 0), some (.int ((pre ++ enc v).length : Int)), s', none] [.lst (acc ++ [v.d])] := by
  have zz : acc.length < sizeLine := by rw [sizeLine_eq]; omega
  cases kd with
  | num =>
    cases v <;> first | exact g.elim | skip
    rename_i i
    refine ⟨s, ?_⟩
    have t0 := at_mid0 (pre := pre) (post := post) (mid := enc (.num i)) rfl
    have t1 : L2.atI _ ((pre.length : Int) + 1) = _ := at_mid (pre := pre) (post := post) (mid := enc (.num i)) (j := 1) rfl
    have t2 : L2.atI _ ((pre.length : Int) + 2) = _ := at_mid (pre := pre) (post := post) (mid := enc (.num i)) (j := 2) rfl
    have g1 : (i + 1000000) / 65536 * 65536 + (i + 1000000) / 256 % 256 * 256 + (i + 1000000) % 256 - 1000000 = i := by omega
    simp only [b_rm, execSS, execS, ev_var, ev_cst, ev_con, ev_prim, ev_meth, eb_prim, el_nil, el_cons, R.bind_ok, R.toS_ok, K61.v1, K61.v2, K61.v3, K61.v4, okD_some, q_eq, kd_num, okB_some, truR_bl, kindR, mA, if_true, q_ixT, t0, q_addI, t1, t2, q_mul, okIf_pos (mL (by decide : -1000000000 < (65536 : Int) ∧ (65536 : Int) < 1000000000)), okIf_pos (mL (by decide : -1000000000 < (256 : Int) ∧ (256 : Int) < 1000000000)), con0, q_sub, g1, q_app0, okIf_pos zz, q_augI, List.set_cons_succ, List.set_cons_zero]
    simp [enc, Vl.d]
  | tru =>
    cases v <;> first | exact g.elim | skip
    rename_i b
    refine ⟨s, ?_⟩
    have t0 := at_mid0 (pre := pre) (post := post) (mid := enc (.tru b)) rfl
    have g1 : ((if b then (1 : Int) else 0) == 1) = b := by cases b <;> rfl
    simp only [b_rm, execSS, execS, ev_var, ev_cst, ev_con, ev_prim, ev_meth, eb_prim, el_nil, el_cons, R.bind_ok, R.toS_ok, K61.v1, K61.v2, K61.v3, K61.v4, okD_some, q_eq, kd_num, kd_txt, eq_int, okB_some, truR_bl, kindR, mA, if_true, q_ixT, t0, g1, q_app0, okIf_pos zz, q_augI, List.set_cons_succ, List.set_cons_zero]
    simp [enc, Vl.d]
  | txt =>
    cases v <;> first | exact g.elim | skip
    rename_i cs
    have c1 : cut (nums (pre ++ (enc (.txt cs) ++ post))) (some (pre.length : Int)) none = nums (cs.map (fun c => ((ixS c : Nat) : Int) + 1) ++ [0] ++ post) := by
      rw [cut_from (by simp [nums]), nums, List.map_append, List.drop_left' (by simp)]; rfl
    have c2 : cut (nums (pre ++ (enc (.txt cs) ++ post))) (some (pre.length : Int)) (some ((pre.length : Int) + (cs.length : Int))) = nums (cs.map (fun c => ((ixS c : Nat) : Int) + 1)) := by
      rw [cut_mid (by simp [nums, enc]), nums, List.map_append, List.drop_left' (by simp)]
      simp [enc, nums]
    have i1 : ∀ h, prim .index [.tup (nums (cs.map (fun c => ((ixS c : Nat) : Int) + 1) ++ [0] ++ post)), .int 0] h = .ok (.int (cs.length : Nat)) h := fun h => q_ixI rfl (flat_nums _) (by rw [first0, Nat.zero_add])
    refine ⟨some (.int (cs.length : Int)), ?_⟩
    have hg : evalG (XX n) (.seq (.cut true true (.var 1) (.var 4) (.prim .add (.cons (.var 4) (.cons (.var 5) .nil))))) [some K, some (.tup (nums (pre ++ (enc (.txt cs) ++ post)))), some Kd.txt.d, some (.ref 0), some (.int (pre.length : Int)), some (.int (cs.length : Int)), none] [.lst acc] = .ok (_, _) [.lst acc] := seq_tup (xs := nums (cs.map (fun c => ((ixS c : Nat) : Int) + 1))) (by
      simp only [ev_cut, ev_var, K61.v1, K61.v4, K61.v5, okD_some, R.bind_ok, bnd_int, ev_prim, el_cons, el_nil, q_addI, cutR_tup, c2])
    have hl : lcLoop (ones (fixed (nums (cs.map (fun c => ((ixS c : Nat) : Int) + 1))))) (lcF (XX n) [("one", 6)] (.name 6) false (.cst (.bl true)) (.prim .idx (.cons (.con 3) (.cons (.prim .sub (.cons (.var 6) (.cons (.cst (.int 1)) .nil))) .nil))) [some K, some (.tup (nums (pre ++ (enc (.txt cs) ++ post)))), some Kd.txt.d, some (.ref 0), some (.int (pre.length : Int)), some (.int (cs.length : Int)), none]) (nums (cs.map (fun c => ((ixS c : Nat) : Int) + 1))).length 0 [] [.lst acc] = .ok (cs.map fun c => D.str ⟨#[c]⟩) [.lst acc] := by
      have := lc_fun (rd := ones (fixed (nums (cs.map (fun c => ((ixS c : Nat) : Int) + 1))))) (f := lcF (XX n) [("one", 6)] (.name 6) false (.cst (.bl true)) (.prim .idx (.cons (.con 3) (.cons (.prim .sub (.cons (.var 6) (.cons (.cst (.int 1)) .nil))) .nil))) [some K, some (.tup (nums (pre ++ (enc (.txt cs) ++ post)))), some Kd.txt.d, some (.ref 0), some (.int (pre.length : Int)), some (.int (cs.length : Int)), none]) (its := (nums (cs.map (fun c => ((ixS c : Nat) : Int) + 1))).map It.one) (n := (nums (cs.map (fun c => ((ixS c : Nat) : Int) + 1))).length) (h := [.lst acc]) (fun x => match x with
          | .one (.int j) => some (D.str ⟨#[(SG.cps.toList[(j - 1).toNat]?).getD 0]⟩)
          | _ => none) (fun i => ones_fixed _ i _) (fun x hx => by
            obtain ⟨d, hd, rfl⟩ := List.mem_map.mp hx
            obtain ⟨j, hj, rfl⟩ := List.mem_map.mp hd
            obtain ⟨c, hc, rfl⟩ := List.mem_map.mp hj
            have s7 := sign7 c (g.2 c hc)
            have at7 : L2.atI SG.cps.toList (((ixS c : Nat) : Int) + 1 - 1) = some c := atI_gen (by omega) (by rw [show ((((ixS c : Nat) : Int) + 1 - 1).toNat) = ixS c from by omega]; exact s7)
            have zs : SG.length ≤ sizeLine := fits (by decide : 1000 ≤ 16777216) (by decide +kernel)
            have e0 : (((ixS c : Nat) : Int) + 1 - 1).toNat = ixS c := by omega
            rw [lcF_one]
            simp only [Ir.wipe, List.map_cons, List.map_nil, List.set_cons_succ, List.set_cons_zero, ev_prim, ev_con, ev_var, ev_cst, el_nil, el_cons, R.bind_ok, con3, okD_some, K61.v6, q_sub, q_ixZ, okIf_pos zs, at7, Option.map_some, e0, s7, Option.getD_some]) (by simp [nums]; exact fits (by decide : 10 ≤ 16777216) g.1) (by simp [nums])
      rw [this]
      congr 1
      have gg := g.2
      clear this hg c1 c2 i1 g
      induction cs with
      | nil => rfl
      | cons c r ih =>
        have s7 := sign7 c (gg c (by simp))
        have e0 : (((ixS c : Nat) : Int) + 1 - 1).toNat = ixS c := by omega
        have ih := ih fun d hd => gg d (by simp [hd])
        simp only [nums, List.map_cons, List.filterMap_cons, e0, s7, Option.getD_some] at ih ⊢
        rw [ih]
    have hlc := lc_done (mt := false) hg hl
    have hj := q_join (h := [.lst acc]) (ys := cs.map fun c => D.str ⟨#[c]⟩) (cs := cs) (by
      clear hlc hl hg i1 c1 c2 g
      induction cs with
      | nil => rfl
      | cons c r ih => show (strsOf _).map _ = _; rw [ih]; rfl) (by have := g.1; omega)
    have hend : lcEnd false (cs.map fun c => D.str ⟨#[c]⟩) [.lst acc] = .ok (.lst (cs.map fun c => D.str ⟨#[c]⟩)) [.lst acc] := rfl
    rw [hend] at hlc
    simp only [b_rm, execSS, execS, ev_var, ev_cst, ev_con, ev_prim, ev_meth, ev_cut, bnd_int, cutR_tup, c1, kindT, mIT, i1, eb_prim, el_nil, el_cons, R.bind_ok, R.toS_ok, K61.v1, K61.v2, K61.v3, K61.v4, K61.v5, okD_some, q_eq, kd_num, kd_txt, okB_some, truR_bl, kindR, kindS, mJ, mA, if_true, bindT, List.set_cons_succ, List.set_cons_zero, hlc, hj, q_app0, okIf_pos zz, q_addI, q_augI]
    simp [enc, Vl.d]
end K61

set_option Elab.async false
set_option linter.all false
set_option maxRecDepth 100000
set_option maxHeartbeats 4000000
namespace K61
open PySem Ir
theorem exSS_next {X : Ir.Cx} {W : Nat} {s : Ir.S} {r : SS} {ρ ρ1 : Rho} {h h1 : Hh} (e : execS X W s ρ h = .next ρ1 h1) : execSS X W (.cons s r) ρ h = execSS X W r ρ1 h1 := by
  show (match execS X W s ρ h with
      | .next ρ1 h1 => execSS X W r ρ1 h1
      | x => x) = _
  rw [e]
theorem split_at {r : Row} {i : Nat} {p : Kd × Vl} (e : r[i]? = some p) : encA r = encA (r.take i) ++ (enc p.2 ++ encA (r.drop (i + 1))) := by
  have hi := (List.getElem?_eq_some_iff.mp e).1
  have e2 := (List.getElem?_eq_some_iff.mp e).2
  have h1 : r = r.take i ++ (p :: r.drop (i + 1)) := by
    rw [← e2, ← List.drop_eq_getElem_cons hi, List.take_append_drop]
  have h2 : encA r = encA (r.take i ++ (p :: r.drop (i + 1))) := by rw [← h1]
  rw [h2]
  simp [encA]
theorem row_made_at {n : Nat} {r : Row} {h : Hh} (g : AllG r) (hl : r.length ≤ 1000) : run pg (n + 1) 0 6 [.tup (ksD r), .tup (nums (encA r))] h = .ok (.tup (vsD r)) h := by
  rw [run_pure (F := f_row_made) rfl rfl rfl (by
    show (noRefL (ksD r) && (noRefL (nums (encA r)) && true)) = true
    rw [nr_ks, nr_nums]; rfl)]
  show modeR 1 h (execSS (XX n) 0 b_row_made [some (.tup (ksD r)), some (.tup (nums (encA r))), none, none, none, none, none] []).fin = _
  have z0 : ([] : List D).length ≤ sizeLine := fits (by decide : 5 ≤ 16777216) (by simp)
  obtain ⟨ρ', h', e1, ⟨a, b, hρ⟩, hh⟩ := for_run (rd := ones (fixed (ksD r))) (tg := .name 2) (f := execSS (XX n) 0 b_rm) (its := (ksD r).map It.one) (n := (ksD r).length) (ρ := [some (.tup (ksD r)), some (.tup (nums (encA r))), none, some (.ref 0), some (.int 0), none, none]) (h := [.lst []])
    (fun i ρ h => (∃ a b, ρ = [some (.tup (ksD r)), some (.tup (nums (encA r))), a, some (.ref 0), some (.int ((encA (r.take i)).length : Int)), b, none]) ∧ h = [.lst (vsD (r.take i))]) (fun i ρ h _ => ones_fixed _ i h) (fun i x ρ h hx ⟨⟨a, b, hρ⟩, hh⟩ => by
      subst hρ hh
      rw [List.getElem?_map, ksD, List.getElem?_map] at hx
      cases z : r[i]? with
      | none => rw [z] at hx; cases hx
      | some p =>
        rw [z] at hx
        obtain rfl : x = .one p.1.d := (Option.some.inj hx).symm
        have gp := g p (List.mem_of_getElem? z)
        have lr : (r.take i).length ≤ r.length := by rw [List.length_take]; exact Nat.min_le_right _ _
        obtain ⟨s', st⟩ := row_step (n := n) (kd := p.1) (v := p.2) (pre := encA (r.take i)) (post := encA (r.drop (i + 1))) (acc := vsD (r.take i)) (K := .tup (ksD r)) (s := b) gp (by rw [vsD, List.length_map]; omega)
        rw [← split_at z, ← take_enc z] at st
        refine ⟨[some (.tup (ksD r)), some (.tup (nums (encA r))), some p.1.d, some (.ref 0), some (.int ((encA (r.take i)).length : Int)), b, none], rfl, _, _, st, ⟨_, _, rfl⟩, ?_⟩
        rw [vsD, vsD, List.take_add_one, z, List.map_append]; rfl) (by simp) ⟨⟨_, _, rfl⟩, by rfl⟩
  have ll : ((ksD r).map It.one).length = r.length := by rw [ksD, List.length_map, List.length_map]
  rw [ll, List.take_length] at hρ hh
  subst hρ hh
  have q0 : prim .tuple [.ref 0] [.lst (vsD r)] = .ok (.tup (vsD r)) [.lst (vsD r)] := rfl
  have s0 : execS (XX n) 0 (.par 3 4 (.newl .nil) (.cst (.int 0))) [some (.tup (ksD r)), some (.tup (nums (encA r))), none, none, none, none, none] [] = .next [some (.tup (ksD r)), some (.tup (nums (encA r))), none, some (.ref 0), some (.int 0), none, none] [.lst []] := by
    simp only [execS, ev_newl, ev_cst, el_nil, R.bind_ok, okIf_pos z0, R.toS_ok, bindT, List.set_cons_succ, List.set_cons_zero]
    rfl
  have e : (execSS (XX n) 0 b_row_made [some (.tup (ksD r)), some (.tup (nums (encA r))), none, none, none, none, none] []).fin = .ok (.tup (vsD r)) [.lst (vsD r)] := by
    rw [show b_row_made = .cons (.par 3 4 (.newl .nil) (.cst (.int 0))) (.cons (.for_ (.name 2) (.seq (.var 0)) b_rm) (.cons (.ret (.prim .tuple (.cons (.var 3) .nil))) .nil)) from rfl]
    rw [exSS_next s0]
    rw [exSS_next ((for_done (seq_tup (xs := ksD r) rfl)).trans e1)]
    simp only [execSS, execS, ev_prim, ev_var, el_nil, el_cons, R.bind_ok, R.toS_ok, K61.v3, okD_some, q0, SR.fin]
  rw [e]
  show (if noRef (.tup (vsD r)) = true then _ else _) = _
  rw [if_pos (show noRef (.tup (vsD r)) = true from nr_vs _)]
/-! is_text, is_value, are_values, are_kinds -/
theorem is_text_at {n : Nat} {cs : List Nat} {h : Hh} (g : Good .txt (.txt cs)) : run pg (n + 1) 0 1 [.str ⟨cs.toArray⟩] h = .ok (.bl true) h := by
  rw [run_pure (F := f_is_text) rfl rfl rfl rfl]
  show modeR 1 h (execSS (XX n) 0 b_is_text [some (.str ⟨cs.toArray⟩), none] []).fin = _
  have hl : lcLoop (ones (fixed (signs (⟨cs.toArray⟩ : Str)))) (lcF (XX n) [("sign", 1)] (.name 1) false (.cst (.bl true)) (.prim .inn (.cons (.var 1) (.cons (.con 3) .nil))) [some (.str ⟨cs.toArray⟩), none]) cs.toArray.size 0 [] [] = .ok (cs.map fun _ => D.bl true) [] := by
    rw [signs_map]
    have := lc_fun (rd := ones (fixed (cs.map fun c => D.str ⟨#[c]⟩))) (f := lcF (XX n) [("sign", 1)] (.name 1) false (.cst (.bl true)) (.prim .inn (.cons (.var 1) (.cons (.con 3) .nil))) [some (.str ⟨cs.toArray⟩), none]) (its := (cs.map fun c => D.str ⟨#[c]⟩).map It.one) (n := cs.toArray.size) (h := []) (fun _ => some (.bl true)) (fun i => ones_fixed _ i []) (fun x hx => by
        obtain ⟨d, hd, rfl⟩ := List.mem_map.mp hx
        obtain ⟨c, hc, rfl⟩ := List.mem_map.mp hd
        rw [lcF_one]
        simp only [Ir.wipe, List.map_cons, List.map_nil, List.set_cons_succ, List.set_cons_zero, ev_prim, ev_con, ev_var, el_nil, el_cons, R.bind_ok, con3, okD_some, K61.v1, q_signIn (g.2 c hc)]) (by simp; exact fits (by decide : 10 ≤ 16777216) g.1) (by simp)
    rw [this]
    congr 1
    clear this g
    induction cs with
    | nil => rfl
    | cons c r ih => simp only [List.map_cons, List.filterMap_cons, ih]
  have hlc := lc_done (mt := false) (seq_str (e := .var 0) rfl) hl
  have hend : ∀ ys : List D, lcEnd false ys [] = .ok (.lst ys) [] := fun _ => rfl
  rw [hend] at hlc
  have hb : blsOf (cs.map fun _ => D.bl true) = some (cs.map fun _ => true) := by
    clear hlc hl g
    induction cs with
    | nil => rfl
    | cons c r ih => show (blsOf _).map _ = _; rw [ih]; rfl
  have ha : (cs.map fun _ => true).all id = true := by
    clear hlc hl g hb
    induction cs with
    | nil => rfl
    | cons c r ih => exact ih
  have hsz : (⟨cs.toArray⟩ : Str).length ≤ sizeLine := fits (by decide : 10 ≤ 16777216) g.1
  have g1 : decide (((⟨cs.toArray⟩ : Str).length : Int) ≤ 10) = true := decide_eq_true (by
    have := g.1
    show ((cs.length : Nat) : Int) ≤ 10
    omega)
  have ti : isTy [] (.str ⟨cs.toArray⟩) .str = some true := rfl
  have e : (execSS (XX n) 0 b_is_text [some (.str ⟨cs.toArray⟩), none] []).fin = .ok (.bl true) [] := by
    simp only [b_is_text, execSS, execS, ev_and, ev_prim, ev_var, ev_con, el_nil, el_cons, R.bind_ok, R.toS_ok, K61.v0, okD_some, q_isa, ti, okB_some, truth, q_lenS, okIf_pos hsz, con1, q_le, g1, hlc, q_all, hb, Option.map_some, ha, SR.fin]
  rw [e]; rfl
theorem is_value_at {n : Nat} {kd : Kd} {v : Vl} {h : Hh} (g : Good kd v) : run pg (n + 2) 0 2 [kd.d, v.d] h = .ok (.bl true) h := by
  rw [run_pure (F := f_is_value) rfl rfl rfl (by simp [noRefL, nr_d, nr_k])]
  show modeR 1 h (execSS (XX (n + 1)) 0 b_is_value [some kd.d, some v.d] []).fin = _
  have e : (execSS (XX (n + 1)) 0 b_is_value [some kd.d, some v.d] []).fin = .ok (.bl true) [] := by
    cases kd with
    | num =>
      cases v <;> first | exact g.elim | skip
      rename_i i
      have f1 : (XX (n + 1)).C 0 0 [.int i, .int (-1000000), .int 1000000] [] = .ok (.bl (isWhole (.int i) (-1000000) 1000000)) [] := is_whole_at (n := n) (x := .int i) (a := -1000000) (b := 1000000) (h := []) rfl
      have g1 : isWhole (.int i) (-1000000) 1000000 = true := by
        show (decide (-1000000 ≤ i) && decide (i ≤ 1000000)) = true
        rw [decide_eq_true g.1, decide_eq_true g.2]; rfl
      rw [g1] at f1
      simp only [b_is_value, execSS, execS, ev_call, ev_prim, ev_var, ev_con, ev_cst, eb_prim, el_nil, el_cons, R.bind_ok, R.toS_ok, K61.v0, K61.v1, okD_some, q_eq, kd_num, okB_some, truR_bl, con0, q_neg, Vl.d, f1, SR.fin]
    | txt =>
      cases v <;> first | exact g.elim | skip
      rename_i cs
      have f1 : (XX (n + 1)).C 0 1 [.str ⟨cs.toArray⟩] [] = _ := is_text_at (n := n) g
      simp only [b_is_value, execSS, execS, ev_call, ev_ite, ev_prim, ev_var, ev_con, ev_cst, eb_prim, el_nil, el_cons, R.bind_ok, R.toS_ok, K61.v0, K61.v1, okD_some, q_eq, kd_num, kd_txt, okB_some, truR_bl, Vl.d, f1, SR.fin]
    | tru =>
      cases v <;> first | exact g.elim | skip
      rename_i b
      have ti : isTy [] (.bl b) .bool = some true := rfl
      simp only [b_is_value, execSS, execS, ev_call, ev_ite, ev_prim, ev_var, ev_con, ev_cst, eb_prim, el_nil, el_cons, R.bind_ok, R.toS_ok, K61.v0, K61.v1, okD_some, q_eq, kd_num, kd_txt, okB_some, truR_bl, Vl.d, q_isa, ti, SR.fin]
  rw [e]; rfl
end K61

set_option Elab.async false
set_option linter.all false
set_option maxRecDepth 100000
set_option maxHeartbeats 4000000
namespace K61
open PySem Ir
def badsN : List D := [.non, .tup [.int 1], .int 1000001, .int (-1000001), .bl true]
def badsX : List D := [.non, .tup [.int 1], .str "abcdefghijk", .int 5]
def badsT : List D := [.non, .tup [.int 1], .int 1, .int 0, .str "true"]
def bads : Kd → List D
  | .num => badsN
  | .txt => badsX
  | .tru => badsT
theorem nr_bads {kd : Kd} {x : D} (h : x ∈ bads kd) : noRef x = true := by
  cases kd <;> simp only [bads, badsN, badsX, badsT, List.mem_cons, List.not_mem_nil, or_false] at h
  · rcases h with rfl | rfl | rfl | rfl | rfl <;> rfl
  · rcases h with rfl | rfl | rfl | rfl <;> rfl
  · rcases h with rfl | rfl | rfl | rfl | rfl <;> rfl
theorem bad_num {x : D} (h : x ∈ badsN) : isWhole x (-1000000) 1000000 = false := by
  simp only [badsN, List.mem_cons, List.not_mem_nil, or_false] at h
  rcases h with rfl | rfl | rfl | rfl | rfl <;> rfl
theorem bad_text {n : Nat} {x : D} {h : Hh} (hx : x ∈ badsX) : run pg (n + 1) 0 1 [x] h = .ok (.bl false) h := by
  have nx : noRef x = true := nr_bads (kd := .txt) hx
  rw [run_pure (F := f_is_text) rfl rfl rfl (by simp [noRefL, nx])]
  show modeR 1 h (execSS (XX n) 0 b_is_text [some x, none] []).fin = _
  have e : (execSS (XX n) 0 b_is_text [some x, none] []).fin = .ok (.bl false) [] := by
    simp only [badsX, List.mem_cons, List.not_mem_nil, or_false] at hx
    rcases hx with rfl | rfl | rfl | rfl
    · rfl
    · rfl
    · have hsz : ("abcdefghijk" : Str).length ≤ sizeLine := fits (by decide : 11 ≤ 16777216) (by decide +kernel)
      have g1 : decide ((("abcdefghijk" : Str).length : Int) ≤ 10) = false := by decide +kernel
      have ti : isTy [] (.str "abcdefghijk") .str = some true := rfl
      simp only [b_is_text, execSS, execS, ev_and, ev_prim, ev_var, ev_con, el_nil, el_cons, R.bind_ok, R.toS_ok, K61.v0, okD_some, q_isa, ti, okB_some, truth, q_lenS, okIf_pos hsz, con1, q_le, g1, SR.fin]
    · rfl
  rw [e]; rfl
theorem bad_tru {x : D} (h : x ∈ badsT) : isTy [] x .bool = some false := by
  simp only [badsT, List.mem_cons, List.not_mem_nil, or_false] at h
  rcases h with rfl | rfl | rfl | rfl | rfl <;> rfl
theorem bad_value {n : Nat} {kd : Kd} {x : D} {h : Hh} (hx : x ∈ bads kd) : run pg (n + 2) 0 2 [kd.d, x] h = .ok (.bl false) h := by
  have nx := nr_bads hx
  rw [run_pure (F := f_is_value) rfl rfl rfl (by simp [noRefL, nx, nr_k])]
  show modeR 1 h (execSS (XX (n + 1)) 0 b_is_value [some kd.d, some x] []).fin = _
  have e : (execSS (XX (n + 1)) 0 b_is_value [some kd.d, some x] []).fin = .ok (.bl false) [] := by
    cases kd with
    | num =>
      have f1 : (XX (n + 1)).C 0 0 [x, .int (-1000000), .int 1000000] [] = .ok (.bl (isWhole x (-1000000) 1000000)) [] := is_whole_at (n := n) (x := x) (a := -1000000) (b := 1000000) (h := []) nx
      rw [bad_num hx] at f1
      simp only [b_is_value, execSS, execS, ev_call, ev_prim, ev_var, ev_con, ev_cst, eb_prim, el_nil, el_cons, R.bind_ok, R.toS_ok, K61.v0, K61.v1, okD_some, q_eq, kd_num, okB_some, truR_bl, con0, q_neg, f1, SR.fin]
    | txt =>
      have f1 : (XX (n + 1)).C 0 1 [x] [] = _ := bad_text (n := n) hx
      simp only [b_is_value, execSS, execS, ev_call, ev_ite, ev_prim, ev_var, ev_con, ev_cst, eb_prim, el_nil, el_cons, R.bind_ok, R.toS_ok, K61.v0, K61.v1, okD_some, q_eq, kd_num, kd_txt, okB_some, truR_bl, f1, SR.fin]
    | tru =>
      simp only [b_is_value, execSS, execS, ev_call, ev_ite, ev_prim, ev_var, ev_con, ev_cst, eb_prim, el_nil, el_cons, R.bind_ok, R.toS_ok, K61.v0, K61.v1, okD_some, q_eq, kd_num, kd_txt, okB_some, truR_bl, q_isa, bad_tru hx, SR.fin]
  rw [e]; rfl
/-! are_values -/
abbrev Tri := Kd × D × Bool
theorem lcF_many {X : Ir.Cx} {own : List (Str × Nat)} {i j : Nat} {c elt : E} {ρ : Rho} {d d2 : D} {h : Hh} : lcF X own (.pair (.cons (.name i) (.cons (.name j) .nil))) false c elt ρ (.many [d, d2]) h = (evalE X elt (((Ir.wipe ρ (own.map (·.2))).set i (some d)).set j (some d2)) h).bind fun y h4 => .ok (some y) h4 := rfl
theorem nr_map {α : Type} {f : α → D} {xs : List α} (h : ∀ x ∈ xs, noRef (f x) = true) : noRefL (xs.map f) = true := by
  induction xs with
  | nil => rfl
  | cons x r ih =>
    show (noRef (f x) && noRefL (r.map f)) = true
    rw [h x (by simp), ih fun y hy => h y (by simp [hy])]; rfl
theorem bls_map (bs : List Bool) : blsOf (bs.map D.bl) = some bs := by
  induction bs with
  | nil => rfl
  | cons b r ih => show (blsOf _).map _ = _; rw [ih]; rfl
theorem lend0 {h : Hh} (ys : List D) : lcEnd false ys h = .ok (.lst ys) h := rfl
theorem zip_maps {α : Type} (f g : α → D) (w : List α) : zipIts (w.map f) (w.map g) = w.map fun t => It.many [f t, g t] := by
  unfold zipIts
  induction w with
  | nil => rfl
  | cons x r ih => simp only [List.map_cons, List.zip_cons_cons] at ih ⊢; rw [ih]
theorem ne_int {h : Hh} {i j : Int} : prim .ne [.int i, .int j] h = .ok (.bl !(i == j)) h := by rw [q_ne, eq_int]; rfl
theorem are_values_at {n : Nat} {w : List Tri} {h : Hh} (hw : ∀ t ∈ w, noRef t.2.1 = true ∧ ∀ h, run pg (n + 2) 0 2 [t.1.d, t.2.1] h = .ok (.bl t.2.2) h) (hl : w.length ≤ 1000) : run pg (n + 3) 0 3 [.tup (w.map fun t => t.1.d), .tup (w.map fun t => t.2.1)] h = .ok (.bl (w.all fun t => t.2.2)) h := by
  have r1 : noRefL (w.map fun t => t.1.d) = true := nr_map fun t _ => nr_k _
  have r2 : noRefL (w.map fun t => t.2.1) = true := nr_map fun t ht => (hw t ht).1
  rw [run_pure (F := f_are_values) rfl rfl rfl (by
    show (noRefL _ && (noRefL _ && true)) = true
    rw [r1, r2]; rfl)]
  show modeR 1 h (execSS (XX (n + 2)) 0 b_are_values [some (.tup (w.map fun t => t.1.d)), some (.tup (w.map fun t => t.2.1)), none, none] []).fin = _
  have hl2 := lc_fun (rd := zipRd (fixed (w.map fun t => t.1.d)) (fixed (w.map fun t => t.2.1))) (f := lcF (XX (n + 2)) [("kind", 2), ("thing", 3)] (.pair (.cons (.name 2) (.cons (.name 3) .nil))) false (.cst (.bl true)) (.call 2 (.cons (.var 2) (.cons (.var 3) .nil))) [some (.tup (w.map fun t => t.1.d)), some (.tup (w.map fun t => t.2.1)), none, none]) (its := zipIts (w.map fun t => t.1.d) (w.map fun t => t.2.1)) (n := (w.map fun t => t.1.d).length) (h := []) (fun x => match x with
      | .many [a, b] => match run pg (n + 2) 0 2 [a, b] [] with
        | .ok y _ => some y
        | _ => none
      | _ => none) (fun i => zip_fixed _ _ i []) (fun x hx => by
        rw [zip_maps] at hx
        obtain ⟨t, ht, rfl⟩ := List.mem_map.mp hx
        have f1 : (XX (n + 2)).C 0 2 [t.1.d, t.2.1] [] = _ := (hw t ht).2 []
        rw [lcF_many]
        simp only [Ir.wipe, List.map_cons, List.map_nil, List.set_cons_succ, List.set_cons_zero, ev_call, ev_var, el_nil, el_cons, R.bind_ok, okD_some, K61.v2, K61.v3, f1, (hw t ht).2 []]) (by rw [zipIts_len, List.length_map, List.length_map, Nat.min_self]; exact fits (by decide : 1000 ≤ 16777216) hl) (by rw [zipIts_len]; exact Nat.min_le_left _ _)
  rw [zip_maps] at hl2
  have hm : (w.map fun t => It.many [t.1.d, t.2.1]).filterMap (fun x => match x with
      | .many [a, b] => match run pg (n + 2) 0 2 [a, b] [] with
        | .ok y _ => some y
        | _ => none
      | _ => none) = (w.map fun t => t.2.2).map D.bl := by
    clear hl2 r1 r2 hl
    induction w with
    | nil => rfl
    | cons t r ih =>
      have ih := ih fun u hu => hw u (by simp [hu])
      have e := (hw t (by simp)).2 []
      simp only [List.map_cons, List.filterMap_cons, e]
      rw [ih]
  rw [hm] at hl2
  have hlc := lc_done (mt := false) (zip_tup (a := .var 0) (b := .var 1) rfl rfl) hl2
  rw [lend0] at hlc
  have ti : ∀ xs, isTy [] (.tup xs) .tuple = some true := fun _ => rfl
  have nn : (!(((w.map fun t => t.2.1).length : Int) == ((w.map fun t => t.1.d).length : Int))) = false := by
    rw [List.length_map, List.length_map]; simp
  have e : (execSS (XX (n + 2)) 0 b_are_values [some (.tup (w.map fun t => t.1.d)), some (.tup (w.map fun t => t.2.1)), none, none] []).fin = .ok (.bl (w.all fun t => t.2.2)) [] := by
    simp only [b_are_values, execSS, execS, ev_call, ev_prim, ev_var, ev_cst, eb_or, eb_not, eb_prim, el_nil, el_cons, R.bind_ok, R.toS_ok, K61.v0, K61.v1, okD_some, q_isa, ti, okB_some, truR_bl, Bool.not_true, q_lenT, ne_int, nn, hlc, q_all, bls_map, Option.map_some, SR.fin]
    rw [List.all_map]; rfl
  rw [e]; rfl
theorem are_values_len {n : Nat} {xs ys : List D} {h : Hh} (r1 : noRefL xs = true) (r2 : noRefL ys = true) (hl : ys.length ≠ xs.length) : run pg (n + 3) 0 3 [.tup xs, .tup ys] h = .ok (.bl false) h := by
  rw [run_pure (F := f_are_values) rfl rfl rfl (by
    show (noRefL _ && (noRefL _ && true)) = true
    rw [r1, r2]; rfl)]
  show modeR 1 h (execSS (XX (n + 2)) 0 b_are_values [some (.tup xs), some (.tup ys), none, none] []).fin = _
  have ti : ∀ xs, isTy [] (.tup xs) .tuple = some true := fun _ => rfl
  have nn : (!((ys.length : Int) == (xs.length : Int))) = true := by
    rw [beq_false_of_ne (by omega)]; rfl
  have e : (execSS (XX (n + 2)) 0 b_are_values [some (.tup xs), some (.tup ys), none, none] []).fin = .ok (.bl false) [] := by
    simp only [b_are_values, execSS, execS, ev_call, ev_prim, ev_var, ev_cst, eb_or, eb_not, eb_prim, el_nil, el_cons, R.bind_ok, R.toS_ok, K61.v0, K61.v1, okD_some, q_isa, ti, okB_some, truR_bl, Bool.not_true, q_lenT, ne_int, nn, SR.fin]
  rw [e]; rfl
/-! are_kinds -/
theorem kd_in {h : Hh} (k : Kd) : inOf h k.d (.tup [.str "number", .str "text", .str "truth"]) = some true := by
  have e : ∀ k : Kd, inOf [] k.d (.tup [.str "number", .str "text", .str "truth"]) = some true := fun k => by cases k <;> decide +kernel
  exact e k
theorem are_kinds_at {n : Nat} {ks : List Kd} {h : Hh} (hl : ks.length ≤ 1000) : run pg (n + 1) 0 7 [.tup (ks.map Kd.d)] h = .ok (.bl true) h := by
  have r1 : noRefL (ks.map Kd.d) = true := nr_map fun t _ => nr_k _
  rw [run_pure (F := f_are_kinds) rfl rfl rfl (by
    show (noRefL _ && true) = true
    rw [r1]; rfl)]
  show modeR 1 h (execSS (XX n) 0 b_are_kinds [some (.tup (ks.map Kd.d)), none] []).fin = _
  have hl2 := lc_fun (rd := ones (fixed (ks.map Kd.d))) (f := lcF (XX n) [("kind", 1)] (.name 1) false (.cst (.bl true)) (.and_ (.prim (.isa .str) (.cons (.var 1) .nil)) (.prim .inn (.cons (.var 1) (.cons (.con 2) .nil)))) [some (.tup (ks.map Kd.d)), none]) (its := (ks.map Kd.d).map It.one) (n := (ks.map Kd.d).length) (h := []) (fun _ => some (.bl true)) (fun i => ones_fixed _ i []) (fun x hx => by
        obtain ⟨d, hd, rfl⟩ := List.mem_map.mp hx
        obtain ⟨k, hk, rfl⟩ := List.mem_map.mp hd
        have ti : isTy [] k.d .str = some true := by cases k <;> rfl
        rw [lcF_one]
        simp only [Ir.wipe, List.map_cons, List.map_nil, List.set_cons_succ, List.set_cons_zero, ev_and, ev_prim, ev_con, ev_var, el_nil, el_cons, R.bind_ok, con2, okD_some, K61.v1, q_isa, ti, okB_some, truth, q_inn, kd_in]) (by simp only [List.length_map]; exact fits (by decide : 1000 ≤ 16777216) hl) (by simp)
  have hm : ((ks.map Kd.d).map It.one).filterMap (fun _ => some (D.bl true)) = (ks.map fun _ => true).map D.bl := by
    clear hl2 r1 hl
    induction ks with
    | nil => rfl
    | cons t r ih => simp only [List.map_cons, List.filterMap_cons]; rw [ih]
  rw [hm] at hl2
  have hlc := lc_done (mt := false) (seq_tup (e := .var 0) rfl) hl2
  rw [lend0] at hlc
  have ti : ∀ xs, isTy [] (.tup xs) .tuple = some true := fun _ => rfl
  have ha : (ks.map fun _ => true).all id = true := by simp
  have e : (execSS (XX n) 0 b_are_kinds [some (.tup (ks.map Kd.d)), none] []).fin = .ok (.bl true) [] := by
    simp only [b_are_kinds, execSS, execS, ev_and, ev_prim, ev_var, el_nil, el_cons, R.bind_ok, R.toS_ok, K61.v0, okD_some, q_isa, ti, okB_some, truth, hlc, q_all, bls_map, Option.map_some, ha, SR.fin]
  rw [e]; rfl
theorem are_kinds_list {n : Nat} {xs : List D} {h : Hh} (r1 : noRefL xs = true) : run pg (n + 1) 0 7 [.lst xs] h = .ok (.bl false) h := by
  rw [run_pure (F := f_are_kinds) rfl rfl rfl (by
    show (noRefL _ && true) = true
    rw [r1]; rfl)]
  rfl
end K61

set_option Elab.async false
set_option linter.all false
set_option maxRecDepth 100000
set_option maxHeartbeats 4000000
namespace K61
open PySem Ir
theorem are_values_row {n : Nat} {r : Row} {h : Hh} (g : AllG r) (hl : r.length ≤ 1000) : run pg (n + 3) 0 3 [.tup (ksD r), .tup (vsD r)] h = .ok (.bl true) h := by
  have := are_values_at (n := n) (h := h) (w := r.map fun p => (p.1, p.2.d, true)) (fun t ht => by
    obtain ⟨p, hp, rfl⟩ := List.mem_map.mp ht
    exact ⟨nr_d _, fun h => is_value_at (g p hp)⟩) (by rw [List.length_map]; exact hl)
  rw [List.map_map, List.map_map] at this
  refine Eq.trans this ?_
  rw [List.all_map]
  congr 2
  simp
theorem row_key_at {n : Nat} {r : Row} {h : Hh} (g : AllG r) (hl : r.length ≤ 1000) : run pg (n + 4) 0 8 [.tup (ksD r), .tup (vsD r)] h = .ok (.tup (nums (encA r))) h := by
  rw [run_pure (F := f_row_key) rfl rfl rfl (by
    show (noRefL (ksD r) && (noRefL (vsD r) && true)) = true
    rw [nr_ks, nr_vs]; rfl)]
  show modeR 1 h (execSS (XX (n + 3)) 0 b_row_key [some (.tup (ksD r)), some (.tup (vsD r))] []).fin = _
  have f0 := are_kinds_at (n := n + 2) (ks := r.map fun p => p.1) (h := []) (by rw [List.length_map]; exact hl)
  rw [List.map_map] at f0
  have f1 : (XX (n + 3)).C 0 7 [.tup (ksD r)] [] = .ok (.bl true) [] := f0
  have f2 : (XX (n + 3)).C 0 3 [.tup (ksD r), .tup (vsD r)] [] = .ok (.bl true) [] := are_values_row (n := n) (h := []) g hl
  have f3 : (XX (n + 3)).C 0 5 [.tup (ksD r), .tup (vsD r)] [] = .ok (.tup (nums (encA r))) [] := key_made_at (n := n + 1) (h := []) g hl
  have e : (execSS (XX (n + 3)) 0 b_row_key [some (.tup (ksD r)), some (.tup (vsD r))] []).fin = .ok (.tup (nums (encA r))) [] := by
    simp only [b_row_key, execSS, execS, ev_call, ev_var, eb_or, eb_not, eb_call, el_nil, el_cons, R.bind_ok, R.toS_ok, K61.v0, K61.v1, okD_some, f1, f2, f3, truR_bl, Bool.not_true, SR.fin]
  rw [e]
  show (if noRef (.tup (nums (encA r))) = true then _ else _) = _
  rw [if_pos (show noRef (.tup (nums (encA r))) = true from nr_nums _)]
theorem row_key_exc1 {n : Nat} {xs : List D} {y : D} {h : Hh} (r1 : noRefL xs = true) (ry : noRef y = true) : run pg (n + 4) 0 8 [.lst xs, y] h = .exc ⟨0, []⟩ h := by
  rw [run_pure (F := f_row_key) rfl rfl rfl (by
    show (noRefL _ && (noRef y && true)) = true
    rw [r1, ry]; rfl)]
  show modeR 1 h (execSS (XX (n + 3)) 0 b_row_key [some (.lst xs), some y] []).fin = _
  have f1 : (XX (n + 3)).C 0 7 [.lst xs] [] = .ok (.bl false) [] := are_kinds_list (n := n + 2) (h := []) r1
  have e : (execSS (XX (n + 3)) 0 b_row_key [some (.lst xs), some y] []).fin = .exc ⟨0, []⟩ [] := by
    simp only [b_row_key, execSS, execS, ev_call, ev_var, eb_or, eb_not, eb_call, el_nil, el_cons, R.bind_ok, R.toS_ok, K61.v0, K61.v1, okD_some, f1, truR_bl, Bool.not_true, Bool.not_false, SR.fin]
  rw [e]; rfl
theorem row_key_exc2 {n : Nat} {ks : List Kd} {ys : List D} {h : Hh} (hl : ks.length ≤ 1000) (ry : noRefL ys = true) (f0 : run pg (n + 3) 0 3 [.tup (ks.map Kd.d), .tup ys] [] = .ok (.bl false) []) : run pg (n + 4) 0 8 [.tup (ks.map Kd.d), .tup ys] h = .exc ⟨0, []⟩ h := by
  have r1 : noRefL (ks.map Kd.d) = true := nr_map fun t _ => nr_k _
  rw [run_pure (F := f_row_key) rfl rfl rfl (by
    show (noRefL _ && (noRefL _ && true)) = true
    rw [r1, ry]; rfl)]
  show modeR 1 h (execSS (XX (n + 3)) 0 b_row_key [some (.tup (ks.map Kd.d)), some (.tup ys)] []).fin = _
  have f1 : (XX (n + 3)).C 0 7 [.tup (ks.map Kd.d)] [] = .ok (.bl true) [] := are_kinds_at (n := n + 2) (h := []) hl
  have f2 : (XX (n + 3)).C 0 3 [.tup (ks.map Kd.d), .tup ys] [] = .ok (.bl false) [] := f0
  have e : (execSS (XX (n + 3)) 0 b_row_key [some (.tup (ks.map Kd.d)), some (.tup ys)] []).fin = .exc ⟨0, []⟩ [] := by
    simp only [b_row_key, execSS, execS, ev_call, ev_var, eb_or, eb_not, eb_call, el_nil, el_cons, R.bind_ok, R.toS_ok, K61.v0, K61.v1, okD_some, f1, f2, truR_bl, Bool.not_true, Bool.not_false, SR.fin]
  rw [e]; rfl
theorem row_of_key_at {n : Nat} {r : Row} {h : Hh} (g : AllG r) (hl : r.length ≤ 1000) : run pg (n + 4) 0 9 [.tup (ksD r), .tup (nums (encA r))] h = .ok (.tup (vsD r)) h := by
  rw [run_pure (F := f_row_of_key) rfl rfl rfl (by
    show (noRefL (ksD r) && (noRefL (nums (encA r)) && true)) = true
    rw [nr_ks, nr_nums]; rfl)]
  show modeR 1 h (execSS (XX (n + 3)) 0 b_row_of_key [some (.tup (ksD r)), some (.tup (nums (encA r)))] []).fin = _
  have f0 := are_kinds_at (n := n + 2) (ks := r.map fun p => p.1) (h := []) (by rw [List.length_map]; exact hl)
  rw [List.map_map] at f0
  have f1 : (XX (n + 3)).C 0 7 [.tup (ksD r)] [] = .ok (.bl true) [] := f0
  have f3 : (XX (n + 3)).C 0 6 [.tup (ksD r), .tup (nums (encA r))] [] = .ok (.tup (vsD r)) [] := row_made_at (n := n + 2) (h := []) g hl
  have e : (execSS (XX (n + 3)) 0 b_row_of_key [some (.tup (ksD r)), some (.tup (nums (encA r)))] []).fin = .ok (.tup (vsD r)) [] := by
    simp only [b_row_of_key, execSS, execS, ev_call, ev_var, eb_or, eb_not, eb_call, el_nil, el_cons, R.bind_ok, R.toS_ok, K61.v0, K61.v1, okD_some, f1, f3, truR_bl, Bool.not_true, SR.fin]
  rw [e]
  show (if noRef (.tup (vsD r)) = true then _ else _) = _
  rw [if_pos (show noRef (.tup (vsD r)) = true from nr_vs _)]
/-! _law_alike -/
theorem eq_bl {h : Hh} {i j : Bool} : eqOf h (.bl i) (.bl j) = some (i == j) := by
  cases i <;> cases j <;> rfl
theorem strOk7 {cs : List Nat} (h : ∀ c ∈ cs, c ∈ C7) (hl : cs.length ≤ 10) : PyData.strOk ⟨cs.toArray⟩ = true := by
  have e : ∀ c ∈ cs, c < 128 := fun c hc => by
    have := h c hc
    simp only [C7, List.mem_cons, List.not_mem_nil, or_false] at this
    omega
  show cs.toArray.all (fun x => decide (x < 1114112)) = true
  rw [List.all_toArray, List.all_eq_true]
  exact fun c hc => decide_eq_true (by have := e c hc; omega)
theorem alike_val {n : Nat} {kd : Kd} {v : Vl} {h : Hh} (g : Good kd v) : run pg (n + 1) 0 12 [v.d, v.d] h = .ok (.bl true) h := by
  rw [run_pure (F := f__law_alike) rfl rfl rfl (by simp [noRefL, nr_d])]
  show modeR 1 h (execSS (XX n) 0 b__law_alike [some v.d, some v.d, none] []).fin = _
  have e : (execSS (XX n) 0 b__law_alike [some v.d, some v.d, none] []).fin = .ok (.bl true) [] := by
    cases v with
    | num i =>
      have t1 : isTys [] (.int i) [.tuple, .list] = some false := rfl
      have t2 : isTy [] (.int i) .str = some false := rfl
      have t3 : isTy [] (.int i) .int = some true := rfl
      have t4 : isTy [] (.int i) .bool = some false := rfl
      simp only [b__law_alike, execSS, execS, ev_and, ev_prim, ev_var, eb_or, eb_prim, el_nil, el_cons, R.bind_ok, R.toS_ok, K61.v0, K61.v1, okD_some, q_isas, q_isa, t1, t2, t3, t4, okB_some, truR_bl, q_isNI, Vl.d, truth, q_eq, eq_bl, eq_int, SR.fin, beq_self_eq_true]
    | tru b =>
      have t1 : isTys [] (.bl b) [.tuple, .list] = some false := rfl
      have t2 : isTy [] (.bl b) .str = some false := rfl
      have t3 : isTy [] (.bl b) .int = some true := rfl
      have t4 : isTy [] (.bl b) .bool = some true := rfl
      simp only [b__law_alike, execSS, execS, ev_and, ev_prim, ev_var, eb_or, eb_prim, el_nil, el_cons, R.bind_ok, R.toS_ok, K61.v0, K61.v1, okD_some, q_isas, q_isa, t1, t2, t3, t4, okB_some, truR_bl, q_isNB, Vl.d, truth, q_eq, eq_bl, eq_int, SR.fin, beq_self_eq_true]
    | txt cs =>
      cases kd <;> first | exact g.elim | skip
      have t1 : isTys [] (.str ⟨cs.toArray⟩) [.tuple, .list] = some false := rfl
      have t2 : isTy [] (.str ⟨cs.toArray⟩) .str = some true := rfl
      have so := strOk7 g.2 g.1
      simp only [b__law_alike, execSS, execS, ev_and, ev_prim, ev_var, eb_or, eb_prim, el_nil, el_cons, R.bind_ok, R.toS_ok, K61.v0, K61.v1, okD_some, q_isas, q_isa, t1, t2, okB_some, truR_bl, q_isNS, Vl.d, truth, q_eq, eq_bl, eq_str so so, SR.fin, beq_self_eq_true]
  rw [e]; rfl
end K61

set_option Elab.async false
set_option linter.all false
set_option maxRecDepth 100000
set_option maxHeartbeats 4000000
namespace K61
open PySem Ir PyProof.Rows
def Vl.py : Vl → PyData
  | .num i => .int i
  | .txt cs => .str ⟨cs.toArray⟩
  | .tru b => .bool b
def pyR (r : Row) : List PyData := r.map fun p => p.2.py
theorem toPy_vs (r : Row) : toPyL (vsD r) = some (pyR r) := by
  induction r with
  | nil => rfl
  | cons p r ih =>
    have e : toPy p.2.d = some p.2.py := by cases p.2 <;> rfl
    show (match toPy p.2.d, toPyL (vsD r) with
      | some p, some q => some (p :: q)
      | _, _ => none) = _
    rw [e, ih]; rfl
theorem toPy_nums (xs : List Int) : toPyL (nums xs) = some (xs.map PyData.int) := by
  induction xs with
  | nil => rfl
  | cons x r ih =>
    show (match some (PyData.int x), toPyL (nums r) with
      | some p, some q => some (p :: q)
      | _, _ => none) = _
    rw [ih]; rfl
def Flat (p : PyData) : Prop := PyData.canLay0 p = true ∧ PyData.depth p = 0
theorem flat_all {ps : List PyData} (h : ∀ p ∈ ps, Flat p) : PyData.canLayAll0 ps = true ∧ PyData.depthAll ps = 0 := by
  induction ps with
  | nil => exact ⟨rfl, rfl⟩
  | cons p r ih =>
    obtain ⟨a, b⟩ := ih fun q hq => h q (by simp [hq])
    obtain ⟨c, d⟩ := h p (by simp)
    rw [PyData.canLayAll0.eq_2, PyData.depthAll.eq_2, a, b, c, d]
    exact ⟨rfl, rfl⟩
theorem flat_vs {r : Row} (g : AllG r) : ∀ p ∈ pyR r, Flat p := by
  intro p hp
  obtain ⟨q, hq, rfl⟩ := List.mem_map.mp hp
  have gq := g q hq
  obtain ⟨k, v⟩ := q
  cases v with
  | num i => exact ⟨rfl, rfl⟩
  | tru b => exact ⟨rfl, rfl⟩
  | txt cs =>
    cases k <;> first | exact gq.elim | skip
    exact ⟨strOk7 gq.2 gq.1, rfl⟩
theorem flat_ints (xs : List Int) : ∀ p ∈ xs.map PyData.int, Flat p := by
  intro p hp
  obtain ⟨q, hq, rfl⟩ := List.mem_map.mp hp
  exact ⟨rfl, rfl⟩
theorem shaped_tup {ps : List PyData} (h : ∀ p ∈ ps, Flat p) : SeqAt.shaped (.tuple ps) = true := by
  obtain ⟨a, b⟩ := flat_all h
  unfold SeqAt.shaped
  rw [PyData.canLay0.eq_6, PyData.depth.eq_2, a, b]; rfl
theorem eq_tup {h : Hh} {xs ys : List D} {ps qs : List PyData} (e1 : toPyL xs = some ps) (e2 : toPyL ys = some qs) (f1 : ∀ p ∈ ps, Flat p) (f2 : ∀ p ∈ qs, Flat p) : eqOf h (.tup xs) (.tup ys) = some (PyData.eqvAll ps qs) := by
  have t1 : toPyH h (.tup xs) = some (.tuple ps) := by
    show (toPyL xs).map PyData.tuple = _
    rw [e1]; rfl
  have t2 : toPyH h (.tup ys) = some (.tuple qs) := by
    show (toPyL ys).map PyData.tuple = _
    rw [e2]; rfl
  unfold eqOf
  rw [t1, t2]
  simp only [shaped_tup f1, shaped_tup f2, Bool.and_self, if_true]
  rw [PyData.eqv]
def rv (r : Row) : List Vl := r.map fun p => p.2
def rk (r : Row) : List Kd := r.map fun p => p.1
theorem eqv_ints (xs : List Int) : ∀ ys : List Int, PyData.eqvAll (xs.map PyData.int) (ys.map PyData.int) = true ↔ xs = ys := by
  induction xs with
  | nil => intro ys; cases ys <;> simp [PyData.eqvAll]
  | cons x r ih =>
    intro ys
    cases ys with
    | nil => simp [PyData.eqvAll]
    | cons y t => simp [PyData.eqvAll, PyData.eqv, ih]
theorem eqv_vs : ∀ {r s : Row}, AllG r → AllG s → rk r = rk s → (PyData.eqvAll (pyR r) (pyR s) = true ↔ rv r = rv s)
  | [], [], _, _, _ => by simp [pyR, rv, PyData.eqvAll]
  | [], _ :: _, _, _, h => by simp [rk] at h
  | _ :: _, [], _, _, h => by simp [rk] at h
  | (k, v) :: r, (l, w) :: s, g1, g2, h => by
    simp only [rk, List.map_cons, List.cons.injEq] at h
    obtain ⟨h1, h2⟩ := h
    subst h1
    have ih := eqv_vs (r := r) (s := s) (fun q hq => g1 q (by simp [hq])) (fun q hq => g2 q (by simp [hq])) h2
    have a := g1 (k, v) (by simp)
    have b := g2 (k, w) (by simp)
    have e : PyData.eqv v.py w.py = true ↔ v = w := by
      cases k <;> cases v <;> first | exact a.elim | skip
      all_goals cases w <;> first | exact b.elim | skip
      · simp [Vl.py, PyData.eqv]
      · simp [Vl.py, PyData.eqv]
      · simp [Vl.py, PyData.eqv]
    simp only [pyR, List.map_cons, PyData.eqvAll, Bool.and_eq_true, rv, List.cons.injEq, e] at ih ⊢
    rw [ih]
theorem d_inj {v w : Vl} (h : v.d = w.d) : v = w := by
  cases v <;> cases w <;> simp [Vl.d] at h ⊢ <;> exact h
theorem vs_inj : ∀ {r s : Row}, vsD r = vsD s → rv r = rv s
  | [], [], _ => rfl
  | [], _ :: _, h => by simp [vsD] at h
  | _ :: _, [], h => by simp [vsD] at h
  | p :: r, q :: s, h => by
    simp only [vsD, List.map_cons, List.cons.injEq] at h
    simp only [rv, List.map_cons, d_inj h.1, List.cons.injEq, true_and]
    exact vs_inj h.2
theorem enc_rv : ∀ {r s : Row}, rv r = rv s → encA r = encA s
  | [], [], _ => rfl
  | [], _ :: _, h => by simp [rv] at h
  | _ :: _, [], h => by simp [rv] at h
  | p :: r, q :: s, h => by
    simp only [rv, List.map_cons, List.cons.injEq] at h
    have := enc_rv (r := r) (s := s) h.2
    simp only [encA, List.flatMap_cons, h.1] at this ⊢
    rw [this]
theorem enc_inj {r s : Row} (g1 : AllG r) (g2 : AllG s) (hk : rk r = rk s) (l1 : r.length ≤ 1000) (l2 : s.length ≤ 1000) : encA r = encA s ↔ rv r = rv s := by
  refine ⟨fun e => vs_inj ?_, enc_rv⟩
  have kk : ksD r = ksD s := by
    have : (rk r).map Kd.d = (rk s).map Kd.d := by rw [hk]
    rw [rk, rk, List.map_map, List.map_map] at this
    exact this
  have a := row_made_at (n := 0) (h := []) g1 l1
  have b := row_made_at (n := 0) (h := []) g2 l2
  rw [kk, e, b] at a
  injection a with a
  injection a with a
  exact a.symm
theorem eq_agree {h : Hh} {r s : Row} (g1 : AllG r) (g2 : AllG s) (hk : rk r = rk s) (l1 : r.length ≤ 1000) (l2 : s.length ≤ 1000) : ∃ b, eqOf h (.tup (vsD r)) (.tup (vsD s)) = some b ∧ eqOf h (.tup (nums (encA r))) (.tup (nums (encA s))) = some b := by
  refine ⟨_, eq_tup (toPy_vs r) (toPy_vs s) (flat_vs g1) (flat_vs g2), ?_⟩
  rw [eq_tup (toPy_nums _) (toPy_nums _) (flat_ints _) (flat_ints _)]
  congr 1
  rw [Bool.eq_iff_iff, eqv_ints, eqv_vs g1 g2 hk, enc_inj g1 g2 hk l1 l2]
end K61

set_option Elab.async false
set_option linter.all false
set_option maxRecDepth 100000
set_option maxHeartbeats 4000000
namespace K61
open PySem Ir PyProof.Rows
abbrev LX := PyProof.Rows.lexLt itemOrd
def ltV : Vl → Vl → Bool
  | .num i, .num j => decide (i < j)
  | .txt a, .txt b => decide (a < b)
  | .tru a, .tru b => !a && b
  | _, _ => false
def ltR : List Vl → List Vl → Bool
  | v :: r, w :: s => ltV v w || (!ltV w v && ltR r s)
  | _, _ => false
def ltI : List Int → List Int → Bool
  | [], [] => false
  | [], _ :: _ => true
  | _ :: _, [] => false
  | x :: r, y :: t => decide (x < y) || (!decide (y < x) && ltI r t)
theorem lx_cons (x y : Int ⊕ List Nat) (r t : List (Int ⊕ List Nat)) : LX (x :: r) (y :: t) = (itemLt x y || (!itemLt y x && LX r t)) := lex_cons (O := itemOrd) x y r t
theorem lx_ints : ∀ xs ys : List Int, LX (PySem.W.keyToksAll (xs.map PyData.int)) (PySem.W.keyToksAll (ys.map PyData.int)) = ltI xs ys
  | [], [] => by decide +kernel
  | [], y :: t => by
    show LX [.inl 0] (.inl 1 :: _) = true
    rw [lx_cons]; rfl
  | x :: r, [] => by
    show LX (.inl 1 :: _) [.inl 0] = false
    rw [lx_cons]; rfl
  | x :: r, y :: t => by
    show LX (.inl 1 :: .inl x :: PySem.W.keyToksAll (r.map PyData.int)) (.inl 1 :: .inl y :: PySem.W.keyToksAll (t.map PyData.int)) = _
    rw [lx_cons, lx_cons, lx_ints r t]
    show (false || (!false && (decide (x < y) || (!decide (y < x) && ltI r t)))) = _
    rw [Bool.false_or, Bool.not_false, Bool.true_and]; rfl
theorem lx_val {k : Kd} {v w : Vl} (a : Good k v) (b : Good k w) (r t : List (Int ⊕ List Nat)) : LX (PySem.W.keyToks v.py ++ r) (PySem.W.keyToks w.py ++ t) = (ltV v w || (!ltV w v && LX r t)) := by
  cases k <;> cases v <;> first | exact a.elim | skip
  all_goals cases w <;> first | exact b.elim | skip
  · exact lx_cons _ _ _ _
  · exact lx_cons _ _ _ _
  · rename_i p q
    refine (lx_cons _ _ _ _).trans ?_
    cases p <;> cases q <;> rfl
theorem lx_vs : ∀ {r s : Row}, AllG r → AllG s → rk r = rk s → LX (PySem.W.keyToksAll (pyR r)) (PySem.W.keyToksAll (pyR s)) = ltR (rv r) (rv s)
  | [], [], _, _, _ => by decide +kernel
  | [], _ :: _, _, _, h => by simp [rk] at h
  | _ :: _, [], _, _, h => by simp [rk] at h
  | (k, v) :: r, (l, w) :: s, g1, g2, h => by
    simp only [rk, List.map_cons, List.cons.injEq] at h
    obtain ⟨h1, h2⟩ := h
    subst h1
    have ih := lx_vs (r := r) (s := s) (fun q hq => g1 q (by simp [hq])) (fun q hq => g2 q (by simp [hq])) h2
    show LX (.inl 1 :: (PySem.W.keyToks v.py ++ PySem.W.keyToksAll (pyR r))) (.inl 1 :: (PySem.W.keyToks w.py ++ PySem.W.keyToksAll (pyR s))) = _
    rw [lx_cons, lx_val (g1 (k, v) (by simp)) (g2 (k, w) (by simp)), ih]
    show (false || (!false && _)) = _
    rw [Bool.false_or, Bool.not_false, Bool.true_and]; rfl
theorem ix_lt : ∀ c ∈ C7, ∀ d ∈ C7, (decide (((ixS c : Nat) : Int) + 1 < ((ixS d : Nat) : Int) + 1)) = decide (c < d) := by decide +kernel
theorem c_eq : ∀ c ∈ C7, ∀ d ∈ C7, ¬ c < d → ¬ d < c → c = d := fun c _ d _ h1 h2 => by omega
theorem enc_txt (cs : List Nat) (hc : ∀ c ∈ cs, c ∈ C7) : ∀ ds : List Nat, (∀ d ∈ ds, d ∈ C7) → ∀ a b : List Int, ltI (enc (.txt cs) ++ a) (enc (.txt ds) ++ b) = (decide (cs < ds) || (!decide (ds < cs) && ltI a b)) := by
  induction cs with
  | nil =>
    intro ds hd a b
    cases ds with
    | nil =>
      show (decide ((0 : Int) < 0) || (!decide ((0 : Int) < 0) && ltI a b)) = _
      simp
    | cons d ds =>
      show (decide ((0 : Int) < ((ixS d : Nat) : Int) + 1) || _) = _
      rw [decide_eq_true (by omega)]
      simp
  | cons c cs ih =>
    intro ds hd a b
    cases ds with
    | nil =>
      show (decide (((ixS c : Nat) : Int) + 1 < 0) || (!decide ((0 : Int) < ((ixS c : Nat) : Int) + 1) && _)) = _
      rw [decide_eq_false (by omega), decide_eq_true (by omega)]
      simp
    | cons d ds =>
      have ih := ih (fun x hx => hc x (by simp [hx])) ds (fun x hx => hd x (by simp [hx])) a b
      have hc1 := hc c (by simp)
      have hd1 := hd d (by simp)
      show (decide (((ixS c : Nat) : Int) + 1 < ((ixS d : Nat) : Int) + 1) || (!decide (((ixS d : Nat) : Int) + 1 < ((ixS c : Nat) : Int) + 1) && ltI (enc (.txt cs) ++ a) (enc (.txt ds) ++ b))) = _
      rw [ix_lt c hc1 d hd1, ix_lt d hd1 c hc1, ih]
      by_cases h1 : c < d
      · have : c :: cs < d :: ds := List.cons_lt_cons_iff.mpr (Or.inl h1)
        simp [h1, this]
      · by_cases h2 : d < c
        · have q1 : d :: ds < c :: cs := List.cons_lt_cons_iff.mpr (Or.inl h2)
          have q2 : ¬ (c :: cs < d :: ds) := fun z => by
            rcases List.cons_lt_cons_iff.mp z with z | z
            · omega
            · omega
          simp [h1, h2, q1, q2]
        · obtain rfl : c = d := by omega
          simp
theorem enc_lex {k : Kd} {v w : Vl} (a : Good k v) (b : Good k w) (r t : List Int) : ltI (enc v ++ r) (enc w ++ t) = (ltV v w || (!ltV w v && ltI r t)) := by
  cases k <;> cases v <;> first | exact a.elim | skip
  all_goals cases w <;> first | exact b.elim | skip
  · rename_i i j
    show (decide ((i + 1000000) / 65536 < (j + 1000000) / 65536) || (!decide ((j + 1000000) / 65536 < (i + 1000000) / 65536) && (decide ((i + 1000000) / 256 % 256 < (j + 1000000) / 256 % 256) || (!decide ((j + 1000000) / 256 % 256 < (i + 1000000) / 256 % 256) && (decide ((i + 1000000) % 256 < (j + 1000000) % 256) || (!decide ((j + 1000000) % 256 < (i + 1000000) % 256) && ltI r t)))))) = (decide (i < j) || (!decide (j < i) && ltI r t))
    generalize ltI r t = L
    rw [Bool.eq_iff_iff]
    cases L <;> simp only [Bool.or_eq_true, Bool.and_eq_true, Bool.not_eq_true', decide_eq_true_eq, decide_eq_false_iff_not, Bool.false_eq_true, and_false, or_false, and_true] <;> omega
  · exact enc_txt _ a.2 _ b.2 _ _
  · rename_i p q
    cases p <;> cases q <;> (simp [enc, ltI, ltV])
theorem enc_ltR : ∀ {r s : Row}, AllG r → AllG s → rk r = rk s → ltI (encA r) (encA s) = ltR (rv r) (rv s)
  | [], [], _, _, _ => rfl
  | [], _ :: _, _, _, h => by simp [rk] at h
  | _ :: _, [], _, _, h => by simp [rk] at h
  | (k, v) :: r, (l, w) :: s, g1, g2, h => by
    simp only [rk, List.map_cons, List.cons.injEq] at h
    obtain ⟨h1, h2⟩ := h
    subst h1
    have ih := enc_ltR (r := r) (s := s) (fun q hq => g1 q (by simp [hq])) (fun q hq => g2 q (by simp [hq])) h2
    show ltI (enc v ++ encA r) (enc w ++ encA s) = _
    rw [enc_lex (g1 (k, v) (by simp)) (g2 (k, w) (by simp)), ih]; rfl
theorem alike_ints : ∀ xs ys : List Int, PySem.W.alikeAll (xs.map PyData.int) (ys.map PyData.int) = true
  | [], _ => by rw [List.map_nil, PySem.W.alikeAll]
  | _ :: _, [] => by rw [List.map_nil, List.map_cons, PySem.W.alikeAll]
  | x :: r, y :: t => by
    rw [List.map_cons, List.map_cons, PySem.W.alikeAll, alike_ints r t]; rfl
theorem alike_vs : ∀ {r s : Row}, AllG r → AllG s → rk r = rk s → PySem.W.alikeAll (pyR r) (pyR s) = true
  | [], s, _, _, _ => by rw [pyR, List.map_nil, PySem.W.alikeAll]
  | _ :: _, [], _, _, h => by simp [rk] at h
  | (k, v) :: r, (l, w) :: s, g1, g2, h => by
    simp only [rk, List.map_cons, List.cons.injEq] at h
    obtain ⟨h1, h2⟩ := h
    subst h1
    have ih := alike_vs (r := r) (s := s) (fun q hq => g1 q (by simp [hq])) (fun q hq => g2 q (by simp [hq])) h2
    have a := g1 (k, v) (by simp)
    have b := g2 (k, w) (by simp)
    rw [pyR, pyR, List.map_cons, List.map_cons, PySem.W.alikeAll]
    rw [pyR, pyR] at ih
    rw [ih]
    cases k <;> cases v <;> first | exact a.elim | skip
    all_goals cases w <;> first | exact b.elim | skip
    all_goals rfl
theorem lt_tup {h : Hh} {xs ys : List D} {ps qs : List PyData} (e1 : toPyL xs = some ps) (e2 : toPyL ys = some qs) (f1 : ∀ p ∈ ps, Flat p) (al : PySem.W.alikeAll ps qs = true) : ltOf h (.tup xs) (.tup ys) = some (LX (PySem.W.keyToksAll ps) (PySem.W.keyToksAll qs)) := by
  show (match toPyL xs, toPyL ys with
    | some p, some q => if (PySem.W.alike (.tuple p) (.tuple q) && decide (PyData.depth (.tuple p) ≤ 64)) = true then some (PySem.W.dataLt (.tuple p) (.tuple q)) else none
    | _, _ => none) = _
  rw [e1, e2]
  have d : PyData.depth (.tuple ps) = 1 := by rw [PyData.depth.eq_2, (flat_all f1).2]
  have al2 : PySem.W.alike (.tuple ps) (.tuple qs) = true := by rw [PySem.W.alike]; exact al
  simp only [al2, d]
  rfl
theorem lt_agree {h : Hh} {r s : Row} (g1 : AllG r) (g2 : AllG s) (hk : rk r = rk s) : ∃ b, ltOf h (.tup (vsD r)) (.tup (vsD s)) = some b ∧ ltOf h (.tup (nums (encA r))) (.tup (nums (encA s))) = some b := by
  refine ⟨_, lt_tup (toPy_vs r) (toPy_vs s) (flat_vs g1) (alike_vs g1 g2 hk), ?_⟩
  rw [lt_tup (toPy_nums _) (toPy_nums _) (flat_ints _) (alike_ints _ _), lx_ints, lx_vs g1 g2 hk, enc_ltR g1 g2 hk]
end K61

set_option Elab.async false
set_option linter.all false
set_option maxRecDepth 100000
set_option maxHeartbeats 4000000
namespace K61
open PySem Ir
theorem lcF_if {X : Ir.Cx} {own : List (Str × Nat)} {i : Nat} {c elt : E} {ρ : Rho} {d : D} {h h3 : Hh} (e : evalB X c ((Ir.wipe ρ (own.map fun x : Str × Nat => x.2)).set i (some d)) h = .ok false h3) : lcF X own (.name i) true c elt ρ (.one d) h = .ok none h3 := by
  show (match evalB X c ((Ir.wipe ρ (own.map fun x : Str × Nat => x.2)).set i (some d)) h with
        | .ok true h3 => (evalE X elt ((Ir.wipe ρ (own.map fun x : Str × Nat => x.2)).set i (some d)) h3).bind fun y h4 => R.ok (some y) h4
        | .ok false h3 => .ok none h3
        | _ => .stuck) = _
  rw [e]
theorem fm_none {α β : Type} (xs : List α) : xs.filterMap (fun _ => (none : Option β)) = [] := by
  induction xs with
  | nil => rfl
  | cons x r ih => rw [List.filterMap_cons]; exact ih
theorem eq_nil {h : Hh} : eqOf h (.lst []) (.lst []) = some true := by
  have e : eqOf [] (.lst []) (.lst []) = some true := by decide +kernel
  exact e
theorem ex_ret {X : Ir.Cx} {W : Nat} {e : E} {ρ : Rho} {h h1 : Hh} {d : D} (q : evalE X e ρ h = .ok d h1) : execS X W (.ret e) ρ h = .ret d h1 := by
  show (evalE X e ρ h).toS ρ _ = _
  rw [q]; rfl
theorem ss_ret {X : Ir.Cx} {W : Nat} {s : Ir.S} {r : SS} {ρ : Rho} {h h1 : Hh} {d : D} (q : execS X W s ρ h = .ret d h1) : execSS X W (.cons s r) ρ h = .ret d h1 := by
  show (match execS X W s ρ h with
      | .next ρ1 h1 => execSS X W r ρ1 h1
      | x => x) = _
  rw [q]
theorem ex_ifT {X : Ir.Cx} {W : Nat} {c : E} {a b : SS} {ρ : Rho} {h h1 : Hh} (q : evalB X c ρ h = .ok true h1) : execS X W (.if_ c a b) ρ h = execSS X W a ρ h1 := by
  show (evalB X c ρ h).toS ρ _ = _
  rw [q]; rfl
theorem ex_ifF {X : Ir.Cx} {W : Nat} {c : E} {a b : SS} {ρ : Rho} {h h1 : Hh} (q : evalB X c ρ h = .ok false h1) : execS X W (.if_ c a b) ρ h = execSS X W b ρ h1 := by
  show (evalB X c ρ h).toS ρ _ = _
  rw [q]; rfl
theorem alike_row {n : Nat} {r : Row} {h : Hh} (g : AllG r) (hl : r.length < 1000) : run pg (n + 2) 0 12 [.tup (vsD r), .tup (vsD r)] h = .ok (.bl true) h := by
  rw [run_pure (F := f__law_alike) rfl rfl rfl (by
    show (noRefL (vsD r) && (noRefL (vsD r) && true)) = true
    rw [nr_vs]; rfl)]
  show modeR 1 h (execSS (XX (n + 1)) 0 b__law_alike [some (.tup (vsD r)), some (.tup (vsD r)), none] []).fin = _
  have hv : (vsD r).length = r.length := by rw [vsD, List.length_map]
  have hg : evalG (XX (n + 1)) (.range1 (.prim .len (.cons (.var 1) .nil))) [some (.tup (vsD r)), some (.tup (vsD r)), none] [] = .ok (((vsD r).length : Int).toNat, ones (rgInts 0 ((vsD r).length : Int).toNat)) [] := rg1 (by simp only [ev_prim, ev_var, el_cons, el_nil, K61.v1, okD_some, R.bind_ok, q_lenT]) (by omega) (by omega)
  have hl2 := lc_fun (rd := ones (rgInts 0 ((vsD r).length : Int).toNat)) (f := lcF (XX (n + 1)) [("_law_k", 2)] (.name 2) true (.not_ (.call 12 (.cons (.prim .idx (.cons (.var 0) (.cons (.var 2) .nil))) (.cons (.prim .idx (.cons (.var 1) (.cons (.var 2) .nil))) .nil)))) (.var 2) [some (.tup (vsD r)), some (.tup (vsD r)), none]) (its := rgIts 0 ((vsD r).length : Int).toNat) (n := ((vsD r).length : Int).toNat) (h := []) (fun _ => none) (fun i => ones_rg 0 _ i []) (fun x hx => by
    obtain ⟨i, hi, rfl⟩ := List.mem_map.mp hx
    have hi := List.mem_range.mp hi
    have hi2 : i < r.length := by omega
    have at1 : L2.atI (vsD r) (0 + (i : Int)) = some r[i].2.d := atI_gen (by omega) (by
      rw [show (0 + (i : Int)).toNat = i from by omega, vsD, List.getElem?_map, List.getElem?_eq_getElem hi2]; rfl)
    have f1 : (XX (n + 1)).C 0 12 [r[i].2.d, r[i].2.d] [] = .ok (.bl true) [] := alike_val (n := n) (h := []) (g r[i] (List.getElem_mem hi2))
    refine lcF_if ?_
    simp only [Ir.wipe, List.map_cons, List.map_nil, List.set_cons_succ, List.set_cons_zero, eb_not, eb_call, ev_prim, ev_var, el_nil, el_cons, R.bind_ok, okD_some, K61.v0, K61.v1, K61.v2, q_ixT, at1, f1, truR_bl, Bool.not_true]) (by rw [rgIts_len]; exact fits (by decide : 1000 ≤ 16777216) (by omega)) (by rw [rgIts_len]; exact Nat.le_refl _)
  rw [fm_none] at hl2
  have hlc := lc_done (mt := false) hg hl2
  rw [lend0] at hlc
  have z0 : ([] : List D).length ≤ sizeLine := fits (by decide : 5 ≤ 16777216) (by simp)
  have t1 : ∀ xs, isTys [] (.tup xs) [.tuple, .list] = some true := fun _ => rfl
  have t2 : ∀ xs, isTy [] (.tup xs) .list = some false := fun _ => rfl
  have ne_bl : prim .ne [.bl false, .bl false] [] = .ok (.bl false) [] := by rw [q_ne, eq_bl]; rfl
  have q2 : prim .eq [.lst [], .lst []] [] = .ok (.bl true) [] := by rw [q_eq, eq_nil]; rfl
  have c1 : evalB (XX (n + 1)) (.prim (.isas [.tuple, .list]) (.cons (.var 1) .nil)) [some (.tup (vsD r)), some (.tup (vsD r)), none] [] = .ok true [] := rfl
  have c2 : evalB (XX (n + 1)) (.or_ (.not_ (.prim (.isas [.tuple, .list]) (.cons (.var 0) .nil))) (.prim .ne (.cons (.prim (.isa .list) (.cons (.var 0) .nil)) (.cons (.prim (.isa .list) (.cons (.var 1) .nil)) .nil)))) [some (.tup (vsD r)), some (.tup (vsD r)), none] [] = .ok false [] := by
    have d1 : evalB (XX (n + 1)) (.not_ (.prim (.isas [.tuple, .list]) (.cons (.var 0) .nil))) [some (.tup (vsD r)), some (.tup (vsD r)), none] [] = .ok false [] := rfl
    have d2 : evalB (XX (n + 1)) (.prim .ne (.cons (.prim (.isa .list) (.cons (.var 0) .nil)) (.cons (.prim (.isa .list) (.cons (.var 1) .nil)) .nil))) [some (.tup (vsD r)), some (.tup (vsD r)), none] [] = truR (prim .ne [.bl false, .bl false] []) := rfl
    rw [eb_or, d1, R.bind_ok, d2, ne_bl]; rfl
  have c3 : evalB (XX (n + 1)) (.prim .ne (.cons (.prim .len (.cons (.var 0) .nil)) (.cons (.prim .len (.cons (.var 1) .nil)) .nil))) [some (.tup (vsD r)), some (.tup (vsD r)), none] [] = .ok false [] := by
    have d2 : evalB (XX (n + 1)) (.prim .ne (.cons (.prim .len (.cons (.var 0) .nil)) (.cons (.prim .len (.cons (.var 1) .nil)) .nil))) [some (.tup (vsD r)), some (.tup (vsD r)), none] [] = truR (prim .ne [.int (vsD r).length, .int (vsD r).length] []) := rfl
    rw [d2, ne_int, beq_self_eq_true]; rfl
  have c4 : evalE (XX (n + 1)) (.prim .eq (.cons (.lc false [("_law_k", 2)] (.name 2) (.range1 (.prim .len (.cons (.var 1) .nil))) true (.not_ (.call 12 (.cons (.prim .idx (.cons (.var 0) (.cons (.var 2) .nil))) (.cons (.prim .idx (.cons (.var 1) (.cons (.var 2) .nil))) .nil)))) (.var 2)) (.cons (.lst .nil) .nil))) [some (.tup (vsD r)), some (.tup (vsD r)), none] [] = .ok (.bl true) [] := by
    rw [ev_prim, el_cons, hlc, R.bind_ok, el_cons, ev_lst, el_nil, R.bind_ok, okIf_pos z0, R.bind_ok, el_nil, R.bind_ok, R.bind_ok, R.bind_ok, q2]
  have e : (execSS (XX (n + 1)) 0 b__law_alike [some (.tup (vsD r)), some (.tup (vsD r)), none] []).fin = .ok (.bl true) [] := by
    unfold b__law_alike
    refine congrArg SR.fin (ss_ret ?_)
    refine (ex_ifT c1).trans ?_
    refine (exSS_next (ex_ifF c2)).trans ?_
    refine (exSS_next (ex_ifF c3)).trans ?_
    exact ss_ret (ex_ret c4)
  rw [e]; rfl
end K61

set_option Elab.async false
set_option linter.all false
set_option maxRecDepth 100000
set_option maxHeartbeats 4000000
namespace K61
open PySem Ir
theorem enc_byte {k : Kd} {v : Vl} (g : Good k v) : ∀ x ∈ enc v, 0 ≤ x ∧ x < 256 := by
  intro x hx
  cases k <;> cases v <;> first | exact g.elim | skip
  · have g1 := g.1
    have g2 := g.2
    simp only [enc, List.mem_cons, List.not_mem_nil, or_false] at hx
    rcases hx with rfl | rfl | rfl <;> omega
  · simp only [enc, List.mem_append, List.mem_map, List.mem_cons, List.not_mem_nil, or_false] at hx
    rcases hx with ⟨c, hc, rfl⟩ | rfl
    · have := g.2 c hc
      simp only [C7, List.mem_cons, List.not_mem_nil, or_false] at this
      rcases this with rfl | rfl | rfl | rfl | rfl | rfl | rfl <;> decide
    · omega
  · rename_i b
    simp only [enc, List.mem_cons, List.not_mem_nil, or_false] at hx
    subst hx
    cases b <;> decide
theorem encA_byte {r : Row} (g : AllG r) : ∀ x ∈ encA r, 0 ≤ x ∧ x < 256 := by
  intro x hx
  obtain ⟨p, hp, hx⟩ := List.mem_flatMap.mp hx
  exact enc_byte (g p hp) x hx
end K61

set_option Elab.async false
set_option linter.all false
set_option maxRecDepth 100000
set_option maxHeartbeats 4000000
namespace K61
open PySem Ir
/-- the law's names, as they fill: script, row, kinds, lines, keys, sizes, bad, odd, line, key, size, one, first, turn, other, second, kind, value -/
abbrev rho (a0 a1 a2 a3 a4 a5 a6 a7 a8 a9 a10 a11 a12 a13 a14 a15 a16 a17 : Option D) : Rho := [a0, a1, a2, a3, a4, a5, a6, a7, a8, a9, a10, a11, a12, a13, a14, a15, a16, a17]
def kinds3 : List D := [.str "number", .str "text", .str "truth"]
theorem kind3_at {y : D} (h : y ∈ kinds3) : ∃ k : Kd, y = k.d := by
  simp only [kinds3, List.mem_cons, List.not_mem_nil, or_false] at h
  rcases h with rfl | rfl | rfl
  · exact ⟨.num, rfl⟩
  · exact ⟨.txt, rfl⟩
  · exact ⟨.tru, rfl⟩
theorem kds_all : ∀ {ys : List D}, (∀ y ∈ ys, ∃ k : Kd, y = k.d) → ∃ ks : List Kd, ys = ks.map Kd.d
  | [], _ => ⟨[], rfl⟩
  | y :: ys, h => by
    obtain ⟨k, rfl⟩ := h y (by simp)
    obtain ⟨ks, rfl⟩ := kds_all (ys := ys) fun z hz => h z (by simp [hz])
    exact ⟨k :: ks, rfl⟩
theorem law_kinds {n : Nat} {ns : List Int} {k x c : Int} {t : Hh} (hk : 0 ≤ k) : ∃ (ks : List Kd) (k' x' c' : Int), execS (XX (n + 2)) 0 (.asg (.name 2) (.prim .tuple (.cons (.lc false [("_law_turn", 13)] (.name 13) (.range1 (.call 10 (.cons (.var 1) (.cons (.cst (.int 5)) .nil)))) false (.cst (.bl true)) (.call 11 (.cons (.var 1) (.cons (.lst (.cons (.cst (.str "number")) (.cons (.cst (.str "text")) (.cons (.cst (.str "truth")) .nil)))) .nil)))) .nil)))
    (rho (some (.scr ns)) (some (.ref 0)) none none none none none none none none none none none none none none none none) (rowO ns k x c :: t) = .next (rho (some (.scr ns)) (some (.ref 0)) (some (.tup (ks.map Kd.d))) none none none none none none none none none none none none none none none) (rowO ns k' x' c' :: t) ∧ ks.length ≤ 4 ∧ 0 ≤ k' := by
  obtain ⟨w2, k2, x2, c2, e2, q1, q2, q3⟩ := taken_at (n := n + 1) (ns := ns) (k := k) (x := x) (c := c) (m := 5) (t := t) hk (by decide) (by decide)
  have f2 : (XX (n + 2)).C 0 10 [.ref 0, .int 5] (rowO ns k x c :: t) = _ := e2
  have b3 : ([D.str "number", .str "text", .str "truth"] : List D).length ≤ sizeLine := fits (by decide : 5 ≤ 16777216) (by simp)
  have b4 : kinds3.length ≤ sizeLine := b3
  have hs : ([D.str "number", .str "text", .str "truth"] : List D) = kinds3 := rfl
  have hg : evalG (XX (n + 2)) (.range1 (.call 10 (.cons (.var 1) (.cons (.cst (.int 5)) .nil)))) (rho (some (.scr ns)) (some (.ref 0)) none none none none none none none none none none none none none none none none) (rowO ns k x c :: t) = .ok (w2.toNat, ones (rgInts 0 w2.toNat)) (rowO ns k2 x2 c2 :: t) := by
    refine rg1 ?_ q1 (by omega)
    simp only [ev_call, ev_var, ev_cst, el_cons, el_nil, R.bind_ok, v1, okD_some, f2]
  obtain ⟨ys, h', l1, ⟨k3, x3, c3, z1, z2⟩, l3, l4⟩ := lc_run (rd := ones (rgInts 0 w2.toNat)) (f := lcF (XX (n + 2)) [("_law_turn", 13)] (.name 13) false (.cst (.bl true)) (.call 11 (.cons (.var 1) (.cons (.lst (.cons (.cst (.str "number")) (.cons (.cst (.str "text")) (.cons (.cst (.str "truth")) .nil)))) .nil))) (rho (some (.scr ns)) (some (.ref 0)) none none none none none none none none none none none none none none none none)) (its := rgIts 0 w2.toNat) (n := w2.toNat) (h := rowO ns k2 x2 c2 :: t) (RowAt ns t) (fun _ y => ∃ k : Kd, y = k.d) (fun i h _ => ones_rg 0 _ i h) (fun it hit h ⟨k, x, c, hk, hh⟩ => by
      obtain ⟨i, _, rfl⟩ := List.mem_map.mp hit
      subst hh
      obtain ⟨y, k', x', c', e, y1, y2⟩ := pick_at (n := n) (ns := ns) (k := k) (x := x) (c := c) (t := t) (xs := kinds3) hk (by decide) (by decide)
      refine ⟨y, rowO ns k' x' c' :: t, ?_, ⟨k', x', c', y2, rfl⟩, kind3_at y1⟩
      have g1 : (XX (n + 2)).C 0 11 [.ref 0, .lst kinds3] (rowO ns k x c :: t) = _ := e
      rw [lcF_one]
      simp only [Ir.wipe, List.map_cons, List.map_nil, List.set_cons_succ, List.set_cons_zero, ev_call, ev_lst, ev_cst, ev_var, el_nil, el_cons, R.bind_ok, v1, okD_some, hs, okIf_pos b4, g1]) (by rw [rgIts_len]; exact fits (by decide : 1000 ≤ 16777216) (by omega)) (by rw [rgIts_len]; exact Nat.le_refl _) ⟨k2, x2, c2, q3, rfl⟩
  rw [rgIts_len] at l3
  obtain ⟨ks, hks⟩ := kds_all (ys := ys) fun y hy => by
    obtain ⟨j, hj, rfl⟩ := List.mem_iff_getElem.mp hy
    have hj2 : j < (rgIts 0 w2.toNat).length := by rw [rgIts_len]; omega
    obtain ⟨y', e, q⟩ := l4 j _ (List.getElem?_eq_getElem hj2)
    rw [List.getElem?_eq_getElem hj] at e
    cases e
    exact q
  subst z2
  refine ⟨ks, k3, x3, c3, ?_, by rw [hks, List.length_map] at l3; omega, z1⟩
  have hlc := lc_done (mt := false) hg l1
  rw [lend0, hks] at hlc
  have e0 : execS (XX (n + 2)) 0 (.asg (.name 2) (.prim .tuple (.cons (.lc false [("_law_turn", 13)] (.name 13) (.range1 (.call 10 (.cons (.var 1) (.cons (.cst (.int 5)) .nil)))) false (.cst (.bl true)) (.call 11 (.cons (.var 1) (.cons (.lst (.cons (.cst (.str "number")) (.cons (.cst (.str "text")) (.cons (.cst (.str "truth")) .nil)))) .nil)))) .nil))) (rho (some (.scr ns)) (some (.ref 0)) none none none none none none none none none none none none none none none none) (rowO ns k x c :: t) = (((((evalE (XX (n + 2)) (.lc false [("_law_turn", 13)] (.name 13) (.range1 (.call 10 (.cons (.var 1) (.cons (.cst (.int 5)) .nil)))) false (.cst (.bl true)) (.call 11 (.cons (.var 1) (.cons (.lst (.cons (.cst (.str "number")) (.cons (.cst (.str "text")) (.cons (.cst (.str "truth")) .nil)))) .nil)))) (rho (some (.scr ns)) (some (.ref 0)) none none none none none none none none none none none none none none none none) (rowO ns k x c :: t)).bind fun x h1 => R.ok [x] h1).bind fun ds h1 => prim .tuple ds h1)).toS (rho (some (.scr ns)) (some (.ref 0)) none none none none none none none none none none none none none none none none) fun x h1 => .next (rho (some (.scr ns)) (some (.ref 0)) (some x) none none none none none none none none none none none none none none none) h1) := rfl
  rw [e0, hlc, R.bind_ok, R.bind_ok, q_tupL]; rfl
end K61

set_option Elab.async false
set_option linter.all false
set_option maxRecDepth 100000
set_option maxHeartbeats 4000000
namespace K61
open PySem Ir
theorem exists_map {α : Type} {f : α → D} {P : α → Prop} : ∀ {ys : List D}, (∀ y ∈ ys, ∃ a, y = f a ∧ P a) → ∃ as : List α, ys = as.map f ∧ ∀ a ∈ as, P a
  | [], _ => ⟨[], rfl, fun _ h => by cases h⟩
  | y :: ys, h => by
    obtain ⟨a, rfl, pa⟩ := h y (by simp)
    obtain ⟨as, rfl, q⟩ := exists_map (ys := ys) fun z hz => h z (by simp [hz])
    exact ⟨a :: as, rfl, fun b hb => by
      rcases List.mem_cons.mp hb with rfl | hb
      · exact pa
      · exact q b hb⟩
theorem lc_map_go {α : Type} {rd : Rd} {f : It → Hh → R (Option D)} {xs : List α} {c : α → It} {g : α → D} {h : Hh} (hrd : ∀ i, rd i h = some (xs.map c)[i]?) (hf : ∀ a ∈ xs, f (c a) h = .ok (some (g a)) h) (hl : xs.length ≤ sizeLine) :
    ∀ (k i n : Nat) (acc : List D), i + k = xs.length → acc.length ≤ i → k ≤ n → lcLoop rd f n i acc h = .ok (acc ++ (xs.drop i).map g) h
  | 0, i, n, acc, e, ha, _ => by
    have z : rd i h = some none := by rw [hrd i, List.getElem?_eq_none (by rw [List.length_map]; omega)]
    rw [List.drop_eq_nil_of_le (by omega)]
    cases n <;> (unfold lcLoop; rw [z, List.map_nil, List.append_nil])
  | k + 1, i, n, acc, e, ha, hn => by
    cases n with
    | zero => omega
    | succ n =>
      have hlt : i < xs.length := by omega
      have z : rd i h = some (some (c xs[i])) := by rw [hrd i, List.getElem?_map, List.getElem?_eq_getElem hlt]; rfl
      have e1 := hf xs[i] (List.getElem_mem hlt)
      rw [List.drop_eq_getElem_cons hlt, List.map_cons]
      unfold lcLoop
      rw [z]
      simp only [e1]
      rw [if_pos (by omega), lc_map_go hrd hf hl k (i + 1) n (acc ++ [g xs[i]]) (by omega) (by simp; omega) (by omega), List.append_assoc]
      rfl
theorem lc_map {α : Type} {rd : Rd} {f : It → Hh → R (Option D)} {xs : List α} (c : α → It) (g : α → D) {n : Nat} {h : Hh} (hrd : ∀ i, rd i h = some (xs.map c)[i]?) (hf : ∀ a ∈ xs, f (c a) h = .ok (some (g a)) h) (hl : xs.length ≤ sizeLine) (hn : xs.length ≤ n) : lcLoop rd f n 0 [] h = .ok (xs.map g) h := by
  have := lc_map_go hrd hf hl xs.length 0 n [] (by omega) (Nat.zero_le _) hn
  rw [this]; rfl
theorem row_of : ∀ {ks : List Kd} {ys : List D}, ys.length = ks.length → (∀ (j : Nat) (k : Kd), ks[j]? = some k → ∃ y, ys[j]? = some y ∧ ∃ v : Vl, y = v.d ∧ Good k v) → ∃ r : Row, ys = vsD r ∧ rk r = ks ∧ AllG r
  | [], [], _, _ => ⟨[], rfl, rfl, fun p hp => by cases hp⟩
  | k :: ks, y :: ys, hl, h => by
    obtain ⟨y', e, v, rfl, g⟩ := h 0 k rfl
    cases e
    obtain ⟨r, rfl, rfl, ga⟩ := row_of (ks := ks) (ys := ys) (by simpa using hl) fun j k hj => h (j + 1) k hj
    exact ⟨(k, v) :: r, rfl, rfl, fun p hp => by
      rcases List.mem_cons.mp hp with rfl | hp
      · exact g
      · exact ga p hp⟩
theorem ksD_rk (r : Row) : ksD r = (rk r).map Kd.d := by rw [ksD, rk, List.map_map]; rfl
def eLine : E := .prim .tuple (.cons (.lc false [("_law_kind", 16)] (.name 16) (.seq (.var 2)) false (.cst (.bl true)) (.call 13 (.cons (.var 1) (.cons (.var 16) .nil)))) .nil)
theorem line_at {ns : List Int} {k x c : Int} {t : Hh} {ks : List Kd} {a3 a13 : Option D} (hk : 0 ≤ k) (hl : ks.length ≤ 4) : ∃ (r : Row) (k' x' c' : Int), evalE (XX 59) eLine (rho (some (.scr ns)) (some (.ref 0)) (some (.tup (ks.map Kd.d))) a3 none none none none none none none none none a13 none none none none) (rowO ns k x c :: t) = .ok (.tup (vsD r)) (rowO ns k' x' c' :: t) ∧ rk r = ks ∧ AllG r ∧ 0 ≤ k' := by
  obtain ⟨ys, h', l1, ⟨k3, x3, c3, z1, z2⟩, l3, l4⟩ := lc_run (rd := ones (fixed (ks.map Kd.d))) (f := lcF (XX 59) [("_law_kind", 16)] (.name 16) false (.cst (.bl true)) (.call 13 (.cons (.var 1) (.cons (.var 16) .nil))) (rho (some (.scr ns)) (some (.ref 0)) (some (.tup (ks.map Kd.d))) a3 none none none none none none none none none a13 none none none none)) (its := (ks.map Kd.d).map It.one) (n := (ks.map Kd.d).length) (h := rowO ns k x c :: t) (RowAt ns t) (fun it y => ∀ kd : Kd, it = .one kd.d → ∃ v : Vl, y = v.d ∧ Good kd v) (fun i h _ => ones_fixed _ i h) (fun it hit h ⟨k, x, c, hk, hh⟩ => by
      obtain ⟨d, hd, rfl⟩ := List.mem_map.mp hit
      obtain ⟨kd, _, rfl⟩ := List.mem_map.mp hd
      subst hh
      obtain ⟨v, k', x', c', e, g, y2⟩ := value_at (n := 56) (ns := ns) (k := k) (x := x) (c := c) (t := t) hk kd
      refine ⟨v.d, rowO ns k' x' c' :: t, ?_, ⟨k', x', c', y2, rfl⟩, fun kd2 e2 => ⟨v, rfl, ?_⟩⟩
      · have g1 : (XX 59).C 0 13 [.ref 0, kd.d] (rowO ns k x c :: t) = _ := e
        have w1 : getV [some (.scr ns), some (.ref 0), some (.tup (ks.map Kd.d)), a3, none, none, none, none, none, none, none, none, none, a13, none, none, some kd.d, none] 16 = some kd.d := rfl
        rw [lcF_one]
        simp only [Ir.wipe, rho, List.map_cons, List.map_nil, List.set_cons_succ, List.set_cons_zero, ev_call, ev_var, el_nil, el_cons, R.bind_ok, v1, okD_some, w1, g1]
      · have : kd = kd2 := by cases kd <;> cases kd2 <;> first | rfl | cases e2
        subst this; exact g) (by simp; exact fits (by decide : 1000 ≤ 16777216) (by omega)) (by simp) ⟨k, x, c, hk, rfl⟩
  obtain ⟨r, hr, rkr, gr⟩ := row_of (ks := ks) (ys := ys) (by simpa using l3) fun j kd hj => by
    obtain ⟨y, e, q⟩ := l4 j (.one kd.d) (by rw [List.getElem?_map, List.getElem?_map, hj]; rfl)
    exact ⟨y, e, q kd rfl⟩
  subst z2 hr
  refine ⟨r, k3, x3, c3, ?_, rkr, gr, z1⟩
  have hlc := lc_done (mt := false) (seq_tup (e := .var 2) (X := XX 59) (ρ := (rho (some (.scr ns)) (some (.ref 0)) (some (.tup (ks.map Kd.d))) a3 none none none none none none none none none a13 none none none none)) (h := rowO ns k x c :: t) rfl) l1
  rw [lend0] at hlc
  rw [eLine, ev_prim, el_cons, hlc, R.bind_ok, el_nil, R.bind_ok, R.bind_ok, q_tupL]
end K61

set_option Elab.async false
set_option linter.all false
set_option maxRecDepth 100000
set_option maxHeartbeats 4000000
namespace K61
open PySem Ir
def st3 : Ir.S := .asg (.name 3) (.lc true [("_law_turn", 13)] (.name 13) (.range1 (.cst (.int 6))) false (.cst (.bl true)) eLine)
abbrev linesO (rs : List Row) : O := .lst (rs.map fun r => .tup (vsD r))
def GoodR (ks : List Kd) (r : Row) : Prop := rk r = ks ∧ AllG r
theorem law_lines {ns : List Int} {k x c : Int} {ks : List Kd} (hk : 0 ≤ k) (hl : ks.length ≤ 4) : ∃ (rs : List Row) (k' x' c' : Int), execS (XX 59) 0 st3 (rho (some (.scr ns)) (some (.ref 0)) (some (.tup (ks.map Kd.d))) none none none none none none none none none none none none none none none) [rowO ns k x c] = .next (rho (some (.scr ns)) (some (.ref 0)) (some (.tup (ks.map Kd.d))) (some (.ref 1)) none none none none none none none none none none none none none none) [rowO ns k' x' c', linesO rs] ∧ rs.length = 6 ∧ (∀ r ∈ rs, GoodR ks r) ∧ 0 ≤ k' := by
  have hg : evalG (XX 59) (.range1 (.cst (.int 6))) (rho (some (.scr ns)) (some (.ref 0)) (some (.tup (ks.map Kd.d))) none none none none none none none none none none none none none none none) [rowO ns k x c] = .ok ((6 : Int).toNat, ones (rgInts 0 (6 : Int).toNat)) [rowO ns k x c] := rg1 rfl (by decide) (by decide)
  obtain ⟨ys, h', l1, ⟨k3, x3, c3, z1, z2⟩, l3, l4⟩ := lc_run (rd := ones (rgInts 0 (6 : Int).toNat)) (f := lcF (XX 59) [("_law_turn", 13)] (.name 13) false (.cst (.bl true)) eLine (rho (some (.scr ns)) (some (.ref 0)) (some (.tup (ks.map Kd.d))) none none none none none none none none none none none none none none none)) (its := rgIts 0 (6 : Int).toNat) (n := (6 : Int).toNat) (h := [rowO ns k x c]) (RowAt ns []) (fun _ y => ∃ r : Row, y = .tup (vsD r) ∧ GoodR ks r) (fun i h _ => ones_rg 0 _ i h) (fun it hit h ⟨k, x, c, hk, hh⟩ => by
      obtain ⟨i, _, rfl⟩ := List.mem_map.mp hit
      subst hh
      obtain ⟨r, k', x', c', e, g1, g2, y2⟩ := line_at (ns := ns) (k := k) (x := x) (c := c) (t := []) (a3 := none) (a13 := some (.int (0 + (i : Int)))) hk hl
      refine ⟨_, rowO ns k' x' c' :: [], ?_, ⟨k', x', c', y2, rfl⟩, r, rfl, g1, g2⟩
      rw [lcF_one]
      show (evalE (XX 59) eLine (rho _ _ _ _ _ _ _ _ _ _ _ _ _ _ _ _ _ _) _).bind _ = _
      rw [e]; rfl) (by rw [rgIts_len]; exact fits (by decide : 1000 ≤ 16777216) (by decide)) (by rw [rgIts_len]; exact Nat.le_refl _) ⟨k, x, c, hk, rfl⟩
  rw [rgIts_len] at l3
  obtain ⟨rs, hrs, hg2⟩ := exists_map (f := fun r : Row => D.tup (vsD r)) (P := GoodR ks) (ys := ys) fun y hy => by
    obtain ⟨j, hj, rfl⟩ := List.mem_iff_getElem.mp hy
    have hj2 : j < (rgIts 0 (6 : Int).toNat).length := by rw [rgIts_len]; omega
    obtain ⟨y', e, q⟩ := l4 j _ (List.getElem?_eq_getElem hj2)
    rw [List.getElem?_eq_getElem hj] at e
    cases e
    exact q
  subst z2 hrs
  refine ⟨rs, k3, x3, c3, ?_, by simpa using l3, hg2, z1⟩
  have hlc := lc_done (mt := true) hg l1
  show (evalE (XX 59) _ _ _).toS _ _ = _
  rw [hlc]; rfl
theorem cut_to1 {xs : List D} : cut xs none (some 1) = xs.take 1 := by
  cases xs with
  | nil => rfl
  | cons x r => exact cut_to (k := 1) (by simp)
theorem cut_from1 {xs : List D} : cut xs (some 1) none = xs.drop 1 := by
  cases xs with
  | nil => rfl
  | cons x r => exact cut_from (k := 1) (by simp)
def st4 : Ir.S := .expr (.meth .append (.var 3) (.cons (.prim .add (.cons (.cut false true (.prim .idx (.cons (.var 3) (.cons (.cst (.int 0)) .nil))) (.cst .non) (.cst (.int 1))) (.cons (.cut true false (.prim .idx (.cons (.var 3) (.cons (.cst (.int 1)) .nil))) (.cst (.int 1)) (.cst .non)) .nil))) .nil))
theorem law_seven {ns : List Int} {k x c : Int} {ks : List Kd} {rs : List Row} (hl : ks.length ≤ 4) (h6 : rs.length = 6) (hg : ∀ r ∈ rs, GoodR ks r) : ∃ (rs' : List Row), execS (XX 59) 0 st4 (rho (some (.scr ns)) (some (.ref 0)) (some (.tup (ks.map Kd.d))) (some (.ref 1)) none none none none none none none none none none none none none none) [rowO ns k x c, linesO rs] = .next (rho (some (.scr ns)) (some (.ref 0)) (some (.tup (ks.map Kd.d))) (some (.ref 1)) none none none none none none none none none none none none none none) [rowO ns k x c, linesO rs'] ∧ rs'.length = 7 ∧ (∀ r ∈ rs', GoodR ks r) := by
  obtain ⟨r0, r1, rest, rfl⟩ : ∃ r0 r1 rest, rs = r0 :: r1 :: rest := by
    match rs, h6 with
    | r0 :: r1 :: rest, _ => exact ⟨r0, r1, rest, rfl⟩
  have g0 := hg r0 (by simp)
  have g1 := hg r1 (by simp)
  have l0 : r0.length = ks.length := by rw [← g0.1, rk, List.length_map]
  have l1 : r1.length = ks.length := by rw [← g1.1, rk, List.length_map]
  refine ⟨(r0 :: r1 :: rest) ++ [r0.take 1 ++ r1.drop 1], ?_, by simp at h6 ⊢; exact h6, fun r hr => ?_⟩
  · have i0 : prim .idx [.ref 1, .int 0] [rowO ns k x c, linesO (r0 :: r1 :: rest)] = .ok (.tup (vsD r0)) [rowO ns k x c, linesO (r0 :: r1 :: rest)] := by
      rw [q_ixR (xs := (r0 :: r1 :: rest).map fun r => .tup (vsD r)) rfl]
      rw [atI_gen (d := .tup (vsD r0)) (by decide) rfl]; rfl
    have i1 : prim .idx [.ref 1, .int 1] [rowO ns k x c, linesO (r0 :: r1 :: rest)] = .ok (.tup (vsD r1)) [rowO ns k x c, linesO (r0 :: r1 :: rest)] := by
      rw [q_ixR (xs := (r0 :: r1 :: rest).map fun r => .tup (vsD r)) rfl]
      rw [atI_gen (d := .tup (vsD r1)) (by decide) rfl]; rfl
    have kr : kindOf [rowO ns k x c, linesO (r0 :: r1 :: rest)] (.ref 1) = some .lst := rfl
    have z1 : ((vsD r0).take 1).length + ((vsD r1).drop 1).length ≤ sizeLine := fits (by decide : 100 ≤ 16777216) (by simp [vsD]; omega)
    have z2 : ((r0 :: r1 :: rest).map fun r => D.tup (vsD r)).length < sizeLine := by
      have := fits (n := 8) (by decide : 100 ≤ 16777216) (by decide)
      simp at h6 ⊢; omega
    have ap : prim .append [.ref 1, .tup ((vsD r0).take 1 ++ (vsD r1).drop 1)] [rowO ns k x c, linesO (r0 :: r1 :: rest)] = .ok .non [rowO ns k x c, linesO ((r0 :: r1 :: rest) ++ [r0.take 1 ++ r1.drop 1])] := by
      rw [q_append (xs := (r0 :: r1 :: rest).map fun r => .tup (vsD r)) rfl, okIf_pos z2]
      congr 1
      show [rowO ns k x c, O.lst (((r0 :: r1 :: rest).map fun r => D.tup (vsD r)) ++ [D.tup ((vsD r0).take 1 ++ (vsD r1).drop 1)])] = _
      simp [linesO, vsD, List.map_take, List.map_drop]
    simp only [st4, rho, execS, ev_meth, ev_prim, ev_var, ev_cst, ev_cut, el_cons, el_nil, v3, okD_some, R.bind_ok, kr, mA, if_true, i0, i1, bnd_int, cutR_tup, cut_to1, cut_from1, q_addT, okIf_pos z1, ap, R.toS_ok]
  · rw [List.mem_append] at hr
    rcases hr with hr | hr
    · exact hg r hr
    · simp only [List.mem_cons, List.not_mem_nil, or_false] at hr
      subst hr
      refine ⟨?_, fun p hp => ?_⟩
      · rw [rk, List.map_append, List.map_take, List.map_drop]
        have e0 : r0.map (fun p => p.1) = ks := g0.1
        have e1 : r1.map (fun p => p.1) = ks := g1.1
        rw [e0, e1, List.take_append_drop]
      · rcases List.mem_append.mp hp with hp | hp
        · exact g0.2 p (List.mem_of_mem_take hp)
        · exact g1.2 p (List.mem_of_mem_drop hp)
end K61

set_option Elab.async false
set_option linter.all false
set_option maxRecDepth 100000
set_option maxHeartbeats 4000000
namespace K61
open PySem Ir
def st5 : Ir.S := .asg (.name 4) (.lc false [("_law_line", 8)] (.name 8) (.seq (.var 3)) false (.cst (.bl true)) (.call 8 (.cons (.var 2) (.cons (.var 8) .nil))))
abbrev keysD (rs : List Row) : List D := rs.map fun r => .tup (nums (encA r))
theorem seq_cell {X : Ir.Cx} {e : E} {ρ : Rho} {h h1 : Hh} {n : Nat} {xs : List D} (he : evalE X e ρ h = .ok (.ref n) h1) (hn : h1[n]? = some (.lst xs)) : evalG X (.seq e) ρ h = .ok (xs.length, ones (live n)) h1 := by
  show ((evalE X e ρ h).bind fun x h1 => match x with
    | .str s => R.ok (s.cps.size, ones (fixed (signs s))) h1
    | x => match rdOf h1 x with
      | some s => .ok (s.1, ones s.2) h1
      | none => .stuck) = _
  rw [he, R.bind_ok]
  show (match (match h1[n]? with
    | some (.lst xs) => some (xs.length, live n)
    | _ => none) with
      | some s => R.ok (s.1, ones s.2) h1
      | none => .stuck) = _
  rw [hn]
theorem ks_le {ks : List Kd} {r : Row} (hl : ks.length ≤ 4) (g : GoodR ks r) : r.length ≤ 4 := by
  have : r.length = ks.length := by rw [← g.1, rk, List.length_map]
  omega
theorem law_keys {ns : List Int} {k x c : Int} {ks : List Kd} {rs : List Row} (hl : ks.length ≤ 4) (h7 : rs.length = 7) (hg : ∀ r ∈ rs, GoodR ks r) : execS (XX 59) 0 st5 (rho (some (.scr ns)) (some (.ref 0)) (some (.tup (ks.map Kd.d))) (some (.ref 1)) none none none none none none none none none none none none none none) [rowO ns k x c, linesO rs] = .next (rho (some (.scr ns)) (some (.ref 0)) (some (.tup (ks.map Kd.d))) (some (.ref 1)) (some (.lst (keysD rs))) none none none none none none none none none none none none none) [rowO ns k x c, linesO rs] := by
  have l1 := lc_map (rd := ones (live 1)) (f := lcF (XX 59) [("_law_line", 8)] (.name 8) false (.cst (.bl true)) (.call 8 (.cons (.var 2) (.cons (.var 8) .nil))) (rho (some (.scr ns)) (some (.ref 0)) (some (.tup (ks.map Kd.d))) (some (.ref 1)) none none none none none none none none none none none none none none)) (xs := rs) (fun r => It.one (.tup (vsD r))) (fun r => .tup (nums (encA r))) (n := (rs.map fun r => D.tup (vsD r)).length) (h := [rowO ns k x c, linesO rs]) (fun i => by
      rw [ones_live (xs := rs.map fun r => .tup (vsD r)) rfl, List.map_map]; rfl) (fun r hr => by
      have g := hg r hr
      have f1 : (XX 59).C 0 8 [.tup (ksD r), .tup (vsD r)] [rowO ns k x c, linesO rs] = _ := row_key_at (n := 55) g.2 (by have := ks_le hl g; omega)
      rw [ksD_rk, g.1] at f1
      have w8 : getV [some (.scr ns), some (.ref 0), some (.tup (ks.map Kd.d)), some (.ref 1), none, none, none, none, some (.tup (vsD r)), none, none, none, none, none, none, none, none, none] 8 = some (.tup (vsD r)) := rfl
      rw [lcF_one]
      simp only [Ir.wipe, rho, List.map_cons, List.map_nil, List.set_cons_succ, List.set_cons_zero, ev_call, ev_var, el_nil, el_cons, R.bind_ok, v2, okD_some, w8, f1]) (fits (by decide : 100 ≤ 16777216) (by omega)) (by rw [List.length_map]; exact Nat.le_refl _)
  have hlc := lc_done (mt := false) (seq_cell (e := .var 3) (X := XX 59) (ρ := (rho (some (.scr ns)) (some (.ref 0)) (some (.tup (ks.map Kd.d))) (some (.ref 1)) none none none none none none none none none none none none none none)) (h := [rowO ns k x c, linesO rs]) (n := 1) rfl rfl) l1
  rw [lend0] at hlc
  show (evalE (XX 59) _ _ _).toS _ _ = _
  rw [hlc]; rfl
def st6 : Ir.S := .asg (.name 5) (.newd [.inr "number", .inr "truth"] (.cons (.cst (.int 3)) (.cons (.cst (.int 1)) .nil)))
abbrev szO : O := .dct [(.inr "number", .int 3), (.inr "truth", .int 1)]
theorem ev_newd {X : Ir.Cx} {ks : List Ir.Key} {es : L} {ρ : Rho} {h h1 : Hh} {ds : List D} (he : evalL X es ρ (h ++ [.dct []]) = .ok ds h1) (e1 : h1[h.length]? = some (.dct [])) (hl : ks.length = ds.length ∧ ks.length ≤ 15) : evalE X (.newd ks es) ρ h = .ok (.ref h.length) (h1.set h.length (.dct ((ks.zip ds).foldl (fun acc kv => dPut kv.1 kv.2 acc) []))) := by
  show ((evalL X es ρ (h ++ [.dct []])).bind fun ds h1 => match h1[h.length]? with
    | some (.dct []) => okIf (ks.length = ds.length ∧ ks.length ≤ 15) (R.ok (.ref h.length) (h1.set h.length (.dct ((ks.zip ds).foldl (fun acc kv => dPut kv.1 kv.2 acc) []))))
    | _ => .stuck) = _
  rw [he, R.bind_ok, e1]
  exact okIf_pos hl
theorem sz_fold : ([(Sum.inr "number" : Ir.Key), .inr "truth"].zip [D.int 3, .int 1]).foldl (fun acc kv => dPut kv.1 kv.2 acc) [] = [(.inr "number", .int 3), (.inr "truth", .int 1)] := by
  have d1 : ¬ ((Sum.inr "number" : Ir.Key) = .inr "truth") := by decide +kernel
  simp [dPut, d1]
theorem law_sizes {h : Hh} {a0 a1 a2 a3 a4 : Option D} : execS (XX 59) 0 st6 (rho a0 a1 a2 a3 a4 none none none none none none none none none none none none none) h = .next (rho a0 a1 a2 a3 a4 (some (.ref h.length)) none none none none none none none none none none none none) (h ++ [szO]) := by
  show (evalE (XX 59) _ _ _).toS _ _ = _
  rw [ev_newd (h1 := h ++ [.dct []]) (ds := [.int 3, .int 1]) rfl (by simp) ⟨rfl, by decide⟩, sz_fold]
  rw [List.set_append_right _ _ (Nat.le_refl _), Nat.sub_self]
  rfl
/-! ### the first loop -/
def szV : Vl → Int
  | .num _ => 3
  | .txt cs => cs.length + 1
  | .tru _ => 1
theorem szV_enc (v : Vl) : szV v = ((enc v).length : Int) := by cases v <;> simp [szV, enc]
theorem sz_sum (r : Row) : (r.map fun p => szV p.2).sum = ((encA r).length : Int) := by
  induction r with
  | nil => rfl
  | cons p r ih => rw [List.map_cons, List.sum_cons, ih, szV_enc]; simp [encA]
theorem ints_map {α : Type} (f : α → Int) (xs : List α) : intsOf (xs.map fun a => D.int (f a)) = some (xs.map f) := by
  induction xs with
  | nil => rfl
  | cons x r ih => show (intsOf _).map _ = _; rw [ih]; rfl
def eSize : E := .ite (.din false (.var 16) (.var 5)) (.dget (.var 5) (.var 16)) (.prim .add (.cons (.prim .len (.cons (.var 17) .nil)) (.cons (.cst (.int 1)) .nil)))
def eSum : E := .prim .sum (.cons (.lc false [("_law_kind", 16), ("_law_value_here", 17)] (.pair (.cons (.name 16) (.cons (.name 17) .nil))) (.zip (.var 2) (.var 8)) false (.cst (.bl true)) eSize) .nil)
theorem lcF_two {X : Ir.Cx} {own : List (Str × Nat)} {i j : Nat} {c elt : E} {ρ : Rho} {a b : D} {h : Hh} : lcF X own (.pair (.cons (.name i) (.cons (.name j) .nil))) false c elt ρ (.many [a, b]) h = (evalE X elt (((Ir.wipe ρ (own.map (·.2))).set i (some a)).set j (some b)) h).bind fun y h4 => .ok (some y) h4 := rfl
theorem size_at {O0 O1 : O} {T : Hh} {ks : List Kd} {a0 a1 a3 a4 a8 a9 a10 : Option D} {k : Kd} {v : Vl} (g : Good k v) : evalE (XX 59) eSize (rho a0 a1 (some (.tup (ks.map Kd.d))) a3 a4 (some (.ref 2)) none none a8 a9 a10 none none none none none (some k.d) (some v.d)) (O0 :: O1 :: szO :: T) = .ok (.int (szV v)) (O0 :: O1 :: szO :: T) := by
  cases k with
  | num => cases v <;> first | exact g.elim | rfl
  | tru => cases v <;> first | exact g.elim | rfl
  | txt =>
    cases v <;> first | exact g.elim | skip
    rename_i cs
    have hl := g.1
    have z : (⟨cs.toArray⟩ : Str).length ≤ sizeLine := fits (by decide : 10 ≤ 16777216) hl
    have b1 : evalB (XX 59) (.din false (.var 16) (.var 5)) (rho a0 a1 (some (.tup (ks.map Kd.d))) a3 a4 (some (.ref 2)) none none a8 a9 a10 none none none none none (some Kd.txt.d) (some (Vl.txt cs).d)) (O0 :: O1 :: szO :: T) = .ok false (O0 :: O1 :: szO :: T) := rfl
    rw [eSize, ev_ite, b1, R.bind_ok]
    show (evalE (XX 59) (.prim .add (.cons (.prim .len (.cons (.var 17) .nil)) (.cons (.cst (.int 1)) .nil))) _ _) = _
    rw [ev_prim, el_cons, ev_prim, el_cons]
    show (((R.ok [D.str ⟨cs.toArray⟩] _).bind fun ds h1 => prim .len ds h1).bind _).bind _ = _
    rw [R.bind_ok, q_lenS, okIf_pos z]
    rfl
theorem sum_at {O0 O1 : O} {T : Hh} {ks : List Kd} {a0 a1 a3 a4 a9 a10 : Option D} {r : Row} (hl : ks.length ≤ 4) (g : GoodR ks r) : evalE (XX 59) eSum (rho a0 a1 (some (.tup (ks.map Kd.d))) a3 a4 (some (.ref 2)) none none (some (.tup (vsD r))) a9 a10 none none none none none none none) (O0 :: O1 :: szO :: T) = .ok (.int (encA r).length) (O0 :: O1 :: szO :: T) := by
  have l1 := lc_map (rd := zipRd (fixed (ks.map Kd.d)) (fixed (vsD r))) (f := lcF (XX 59) [("_law_kind", 16), ("_law_value_here", 17)] (.pair (.cons (.name 16) (.cons (.name 17) .nil))) false (.cst (.bl true)) eSize (rho a0 a1 (some (.tup (ks.map Kd.d))) a3 a4 (some (.ref 2)) none none (some (.tup (vsD r))) a9 a10 none none none none none none none)) (xs := r) (fun p => It.many [p.1.d, p.2.d]) (fun p => .int (szV p.2)) (n := (ks.map Kd.d).length) (h := (O0 :: O1 :: szO :: T)) (fun i => by
      rw [zip_fixed, ← g.1, ← ksD_rk, ksD, vsD, zip_maps]) (fun p hp => by
      rw [lcF_two]
      show (evalE (XX 59) eSize (rho a0 a1 (some (.tup (ks.map Kd.d))) a3 a4 (some (.ref 2)) none none _ a9 a10 none none none none none (some p.1.d) (some p.2.d)) _).bind _ = _
      rw [size_at (g.2 p hp)]; rfl) (fits (by decide : 100 ≤ 16777216) (by have := ks_le hl g; omega)) (by rw [List.length_map, ← g.1, rk, List.length_map]; exact Nat.le_refl _)
  have hlc := lc_done (mt := false) (zip_tup (X := XX 59) (a := .var 2) (b := .var 8) (ρ := (rho a0 a1 (some (.tup (ks.map Kd.d))) a3 a4 (some (.ref 2)) none none (some (.tup (vsD r))) a9 a10 none none none none none none none)) rfl rfl) l1
  rw [lend0] at hlc
  rw [eSum, ev_prim, el_cons, hlc, R.bind_ok, el_nil, R.bind_ok, R.bind_ok, q_sum, ints_map, Option.map_some, sz_sum]; rfl
end K61

set_option Elab.async false
set_option linter.all false
set_option maxRecDepth 100000
set_option maxHeartbeats 4000000
namespace K61
open PySem Ir
def bt1 : SS := .cons (.asg (.name 10) eSum)
    (.cons (.if_ (.or_ (.prim .ne (.cons (.prim .len (.cons (.var 9) .nil)) (.cons (.var 10) .nil))) (.not_ (.call 12 (.cons (.call 9 (.cons (.var 2) (.cons (.var 9) .nil))) (.cons (.var 8) .nil))))) 
      (.cons (.ret (.cst (.bl false))) .nil) .nil)
    (.cons (.if_ (.prim .ne (.cons (.lc false [("_law_one", 11)] (.name 11) (.seq (.var 9)) true (.or_ (.prim (.isa .bool) (.cons (.var 11) .nil)) (.or_ (.not_ (.prim (.isa .int) (.cons (.var 11) .nil))) (.not_ (.chain .le .lt (.cst (.int 0)) (.var 11) (.cst (.int 256)))))) (.var 11)) (.cons (.lst .nil) .nil))) 
      (.cons (.ret (.cst (.bl false))) .nil) .nil) .nil))
theorem byte_ok {X : Ir.Cx} {a0 a1 a2 a3 a4 a5 a6 a7 a8 a9 a10 : Option D} {h : Hh} {i : Int} (h0 : 0 ≤ i ∧ i < 256) : evalB X (.or_ (.prim (.isa .bool) (.cons (.var 11) .nil)) (.or_ (.not_ (.prim (.isa .int) (.cons (.var 11) .nil))) (.not_ (.chain .le .lt (.cst (.int 0)) (.var 11) (.cst (.int 256)))))) (rho a0 a1 a2 a3 a4 a5 a6 a7 a8 a9 a10 (some (.int i)) none none none none none none) h = .ok false h := by
  have e1 : evalB X (.prim (.isa .bool) (.cons (.var 11) .nil)) (rho a0 a1 a2 a3 a4 a5 a6 a7 a8 a9 a10 (some (.int i)) none none none none none none) h = .ok false h := rfl
  have e2 : evalB X (.not_ (.prim (.isa .int) (.cons (.var 11) .nil))) (rho a0 a1 a2 a3 a4 a5 a6 a7 a8 a9 a10 (some (.int i)) none none none none none none) h = .ok false h := rfl
  have e3 : evalB X (.not_ (.chain .le .lt (.cst (.int 0)) (.var 11) (.cst (.int 256)))) (rho a0 a1 a2 a3 a4 a5 a6 a7 a8 a9 a10 (some (.int i)) none none none none none none) h = .ok false h := by
    have c : chainR .le .lt (.int 0) (.int i) (evalE X (.cst (.int 256)) (rho a0 a1 a2 a3 a4 a5 a6 a7 a8 a9 a10 (some (.int i)) none none none none none none)) h = .ok (.bl true) h := by
      unfold chainR
      rw [q_le, decide_eq_true h0.1]
      show ((R.ok (D.int 256) h).bind fun z h2 => match prim .lt [.int i, z] h2 with
        | .ok (.bl b) h3 => R.ok (D.bl b) h3
        | _ => .stuck) = _
      rw [R.bind_ok, q_lt]
      show (match okB h (some (decide (i < 256))) with
        | .ok (.bl b) h3 => R.ok (D.bl b) h3
        | _ => .stuck) = _
      rw [decide_eq_true h0.2]; rfl
    rw [eb_not]
    show (truR (chainR .le .lt (.int 0) (.int i) (evalE X (.cst (.int 256)) (rho a0 a1 a2 a3 a4 a5 a6 a7 a8 a9 a10 (some (.int i)) none none none none none none)) h)).bind _ = _
    rw [c]; rfl
  rw [eb_or, e1, R.bind_ok, eb_or, e2, R.bind_ok, e3]
theorem loop1_body {ns : List Int} {k x c : Int} {T : Hh} {ks : List Kd} {rs : List Row} {a9 a10 : Option D} {r : Row} (hl : ks.length ≤ 4) (g : GoodR ks r) : execSS (XX 59) 0 bt1 (rho (some (.scr ns)) (some (.ref 0)) (some (.tup (ks.map Kd.d))) (some (.ref 1)) (some (.lst (keysD rs))) (some (.ref 2)) none none (some (.tup (vsD r))) (some (.tup (nums (encA r)))) a10 none none none none none none none) (rowO ns k x c :: linesO rs :: szO :: T) = .next (rho (some (.scr ns)) (some (.ref 0)) (some (.tup (ks.map Kd.d))) (some (.ref 1)) (some (.lst (keysD rs))) (some (.ref 2)) none none (some (.tup (vsD r))) (some (.tup (nums (encA r)))) (some (.int (encA r).length)) none none none none none none none) (rowO ns k x c :: linesO rs :: szO :: T) := by
  have le := ks_le hl g
  have s1 : execS (XX 59) 0 (.asg (.name 10) eSum) (rho (some (.scr ns)) (some (.ref 0)) (some (.tup (ks.map Kd.d))) (some (.ref 1)) (some (.lst (keysD rs))) (some (.ref 2)) none none (some (.tup (vsD r))) (some (.tup (nums (encA r)))) a10 none none none none none none none) (rowO ns k x c :: linesO rs :: szO :: T) = .next (rho (some (.scr ns)) (some (.ref 0)) (some (.tup (ks.map Kd.d))) (some (.ref 1)) (some (.lst (keysD rs))) (some (.ref 2)) none none (some (.tup (vsD r))) (some (.tup (nums (encA r)))) (some (.int (encA r).length)) none none none none none none none) (rowO ns k x c :: linesO rs :: szO :: T) := by
    show (evalE (XX 59) eSum _ _).toS _ _ = _
    rw [sum_at hl g]; rfl
  have c1 : evalB (XX 59) (.prim .ne (.cons (.prim .len (.cons (.var 9) .nil)) (.cons (.var 10) .nil))) (rho (some (.scr ns)) (some (.ref 0)) (some (.tup (ks.map Kd.d))) (some (.ref 1)) (some (.lst (keysD rs))) (some (.ref 2)) none none (some (.tup (vsD r))) (some (.tup (nums (encA r)))) (some (.int (encA r).length)) none none none none none none none) (rowO ns k x c :: linesO rs :: szO :: T) = .ok false (rowO ns k x c :: linesO rs :: szO :: T) := by
    show truR (prim .ne [.int (nums (encA r)).length, .int (encA r).length] _) = _
    rw [ne_int, nums, List.length_map, beq_self_eq_true]; rfl
  have c2 : evalB (XX 59) (.not_ (.call 12 (.cons (.call 9 (.cons (.var 2) (.cons (.var 9) .nil))) (.cons (.var 8) .nil)))) (rho (some (.scr ns)) (some (.ref 0)) (some (.tup (ks.map Kd.d))) (some (.ref 1)) (some (.lst (keysD rs))) (some (.ref 2)) none none (some (.tup (vsD r))) (some (.tup (nums (encA r)))) (some (.int (encA r).length)) none none none none none none none) (rowO ns k x c :: linesO rs :: szO :: T) = .ok false (rowO ns k x c :: linesO rs :: szO :: T) := by
    have f1 : run pg 59 0 9 [.tup (ks.map Kd.d), .tup (nums (encA r))] (rowO ns k x c :: linesO rs :: szO :: T) = _ := (congrArg (fun z => run pg 59 0 9 [.tup z, .tup (nums (encA r))] (rowO ns k x c :: linesO rs :: szO :: T)) (by rw [← g.1, ← ksD_rk])).trans (row_of_key_at (n := 55) g.2 (by omega))
    have f2 := alike_row (n := 57) (h := (rowO ns k x c :: linesO rs :: szO :: T)) g.2 (by omega)
    rw [eb_not, eb_call, el_cons, ev_call]
    show (truR (((((run pg 59 0 9 [.tup (ks.map Kd.d), .tup (nums (encA r))] (rowO ns k x c :: linesO rs :: szO :: T))).bind fun x h1 => (R.ok [D.tup (vsD r)] h1).bind fun xs h2 => R.ok (x :: xs) h2)).bind fun ds h1 => run pg 59 0 12 ds h1)).bind _ = _
    rw [f1, R.bind_ok, R.bind_ok, R.bind_ok, f2]; rfl
  have c3 : evalB (XX 59) (.prim .ne (.cons (.lc false [("_law_one", 11)] (.name 11) (.seq (.var 9)) true (.or_ (.prim (.isa .bool) (.cons (.var 11) .nil)) (.or_ (.not_ (.prim (.isa .int) (.cons (.var 11) .nil))) (.not_ (.chain .le .lt (.cst (.int 0)) (.var 11) (.cst (.int 256)))))) (.var 11)) (.cons (.lst .nil) .nil))) (rho (some (.scr ns)) (some (.ref 0)) (some (.tup (ks.map Kd.d))) (some (.ref 1)) (some (.lst (keysD rs))) (some (.ref 2)) none none (some (.tup (vsD r))) (some (.tup (nums (encA r)))) (some (.int (encA r).length)) none none none none none none none) (rowO ns k x c :: linesO rs :: szO :: T) = .ok false (rowO ns k x c :: linesO rs :: szO :: T) := by
    have hb := encA_byte g.2
    have hl2 := encA_len g.2
    have l1 := lc_fun (rd := ones (fixed (nums (encA r)))) (f := lcF (XX 59) [("_law_one", 11)] (.name 11) true (.or_ (.prim (.isa .bool) (.cons (.var 11) .nil)) (.or_ (.not_ (.prim (.isa .int) (.cons (.var 11) .nil))) (.not_ (.chain .le .lt (.cst (.int 0)) (.var 11) (.cst (.int 256)))))) (.var 11) (rho (some (.scr ns)) (some (.ref 0)) (some (.tup (ks.map Kd.d))) (some (.ref 1)) (some (.lst (keysD rs))) (some (.ref 2)) none none (some (.tup (vsD r))) (some (.tup (nums (encA r)))) (some (.int (encA r).length)) none none none none none none none)) (its := (nums (encA r)).map It.one) (n := (nums (encA r)).length) (h := (rowO ns k x c :: linesO rs :: szO :: T)) (fun _ => none) (fun i => ones_fixed _ i _) (fun it hit => by
      obtain ⟨d, hd, rfl⟩ := List.mem_map.mp hit
      obtain ⟨i, hi, rfl⟩ := List.mem_map.mp hd
      exact lcF_if (byte_ok (hb i hi))) (by rw [List.length_map, nums, List.length_map]; exact fits (by decide : 1000 ≤ 16777216) (by omega)) (by rw [List.length_map]; exact Nat.le_refl _)
    rw [fm_none] at l1
    have hlc := lc_done (mt := false) (seq_tup (e := .var 9) (X := XX 59) (ρ := (rho (some (.scr ns)) (some (.ref 0)) (some (.tup (ks.map Kd.d))) (some (.ref 1)) (some (.lst (keysD rs))) (some (.ref 2)) none none (some (.tup (vsD r))) (some (.tup (nums (encA r)))) (some (.int (encA r).length)) none none none none none none none)) (h := (rowO ns k x c :: linesO rs :: szO :: T)) rfl) l1
    rw [lend0] at hlc
    have z0 : ([] : List D).length ≤ sizeLine := fits (by decide : 5 ≤ 16777216) (by simp)
    rw [eb_prim, el_cons, hlc, R.bind_ok, el_cons, ev_lst, el_nil, R.bind_ok, okIf_pos z0, R.bind_ok, el_nil, R.bind_ok, R.bind_ok, R.bind_ok, q_ne, eq_nil]; rfl
  unfold bt1
  refine (exSS_next s1).trans ?_
  refine (exSS_next (ex_ifF (by rw [eb_or, c1, R.bind_ok, c2]))).trans ?_
  refine (exSS_next (ex_ifF c3)).trans ?_
  rfl
theorem zip_cell {X : Ir.Cx} {a b : E} {ρ : Rho} {h h1 h2 : Hh} {n : Nat} {xs ys : List D} (ha : evalE X a ρ h = .ok (.ref n) h1) (hb : evalE X b ρ h1 = .ok (.lst ys) h2) (hn : h2[n]? = some (.lst xs)) : evalG X (.zip a b) ρ h = .ok (xs.length, zipRd (live n) (fixed ys)) h2 := by
  show ((evalE X a ρ h).bind fun x h1 => (evalE X b ρ h1).bind fun y h2 => match rdOf h2 x, rdOf h2 y with
    | some s, some t => if isTup x = isTup y then .ok (s.1, zipRd s.2 t.2) h2 else .stuck
    | _, _ => .stuck) = _
  rw [ha, R.bind_ok, hb, R.bind_ok]
  have e : rdOf h2 (.ref n) = some (xs.length, live n) := by
    show (match h2[n]? with
    | some (.lst xs) => some (xs.length, live n)
    | _ => none) = _
    rw [hn]
  rw [e]; rfl
def st7 : Ir.S := .for_ (.pair (.cons (.name 8) (.cons (.name 9) .nil))) (.zip (.var 3) (.var 4)) bt1
theorem law_loop1 {ns : List Int} {k x c : Int} {ks : List Kd} {rs : List Row} (hl : ks.length ≤ 4) (h7 : rs.length = 7) (hg : ∀ r ∈ rs, GoodR ks r) : ∃ a8 a9 a10, execS (XX 59) 0 st7 (rho (some (.scr ns)) (some (.ref 0)) (some (.tup (ks.map Kd.d))) (some (.ref 1)) (some (.lst (keysD rs))) (some (.ref 2)) none none none none none none none none none none none none) [rowO ns k x c, linesO rs, szO] = .next (rho (some (.scr ns)) (some (.ref 0)) (some (.tup (ks.map Kd.d))) (some (.ref 1)) (some (.lst (keysD rs))) (some (.ref 2)) none none a8 a9 a10 none none none none none none none) [rowO ns k x c, linesO rs, szO] := by
  obtain ⟨ρ', h', e1, ⟨a8, a9, a10, hρ⟩, hh⟩ := for_run (rd := zipRd (live 1) (fixed (keysD rs))) (tg := .pair (.cons (.name 8) (.cons (.name 9) .nil))) (f := execSS (XX 59) 0 bt1) (its := rs.map fun r => It.many [.tup (vsD r), .tup (nums (encA r))]) (n := (rs.map fun r => D.tup (vsD r)).length) (ρ := rho (some (.scr ns)) (some (.ref 0)) (some (.tup (ks.map Kd.d))) (some (.ref 1)) (some (.lst (keysD rs))) (some (.ref 2)) none none none none none none none none none none none none) (h := [rowO ns k x c, linesO rs, szO])
    (fun i ρ h => (∃ a8 a9 a10, ρ = rho (some (.scr ns)) (some (.ref 0)) (some (.tup (ks.map Kd.d))) (some (.ref 1)) (some (.lst (keysD rs))) (some (.ref 2)) none none a8 a9 a10 none none none none none none none) ∧ h = [rowO ns k x c, linesO rs, szO]) (fun i ρ h hi => by
      obtain ⟨_, rfl⟩ := hi
      rw [zip_live (xs := rs.map fun r => .tup (vsD r)) rfl, zip_maps]) (fun i it ρ h hx ⟨⟨a8, a9, a10, hρ⟩, hh⟩ => by
      subst hρ hh
      rw [List.getElem?_map] at hx
      cases z : rs[i]? with
      | none => rw [z] at hx; cases hx
      | some r =>
        rw [z] at hx
        obtain rfl : it = .many [.tup (vsD r), .tup (nums (encA r))] := (Option.some.inj hx).symm
        refine ⟨_, rfl, _, _, loop1_body (T := []) (a9 := a9) (a10 := a10) hl (hg r (List.mem_of_getElem? z)), ⟨_, _, _, rfl⟩, rfl⟩) (by simp) ⟨⟨_, _, _, rfl⟩, rfl⟩
  subst hρ hh
  refine ⟨a8, a9, a10, ?_⟩
  rw [st7, for_done (zip_cell (n := 1) (xs := rs.map fun r => .tup (vsD r)) (h := [rowO ns k x c, linesO rs, szO]) (h1 := [rowO ns k x c, linesO rs, szO]) rfl rfl rfl)]
  exact e1
def bt2 : SS := .cons (.if_ (.or_ (.prim .ne (.cons (.prim .lt (.cons (.var 11) (.cons (.var 14) .nil))) (.cons (.prim .lt (.cons (.var 12) (.cons (.var 15) .nil))) .nil))) (.prim .ne (.cons (.prim .eq (.cons (.var 11) (.cons (.var 14) .nil))) (.cons (.prim .eq (.cons (.var 12) (.cons (.var 15) .nil))) .nil)))) 
        (.cons (.ret (.cst (.bl false))) .nil) .nil) .nil
def st8i : Ir.S := .for_ (.pair (.cons (.name 14) (.cons (.name 15) .nil))) (.zip (.var 3) (.var 4)) bt2
def st8 : Ir.S := .for_ (.pair (.cons (.name 11) (.cons (.name 12) .nil))) (.zip (.var 3) (.var 4)) (.cons st8i .nil)
theorem loop2_body {h : Hh} {a0 a1 a2 a3 a4 a5 a8 a9 a10 : Option D} {ks : List Kd} {r s : Row} (hl : ks.length ≤ 4) (g1 : GoodR ks r) (g2 : GoodR ks s) : execSS (XX 59) 0 bt2 (rho a0 a1 a2 a3 a4 a5 none none a8 a9 a10 (some (.tup (vsD r))) (some (.tup (nums (encA r)))) none (some (.tup (vsD s))) (some (.tup (nums (encA s)))) none none) h = .next (rho a0 a1 a2 a3 a4 a5 none none a8 a9 a10 (some (.tup (vsD r))) (some (.tup (nums (encA r)))) none (some (.tup (vsD s))) (some (.tup (nums (encA s)))) none none) h := by
  have le1 := ks_le hl g1
  have le2 := ks_le hl g2
  obtain ⟨b1, p1, q1⟩ := lt_agree (h := h) g1.2 g2.2 (g1.1.trans g2.1.symm)
  obtain ⟨b2, p2, q2⟩ := eq_agree (h := h) g1.2 g2.2 (g1.1.trans g2.1.symm) (by omega) (by omega)
  have ne_b : ∀ b : Bool, prim .ne [.bl b, .bl b] h = .ok (.bl false) h := fun b => by rw [q_ne, eq_bl, beq_self_eq_true]; rfl
  have c1 : evalB (XX 59) (.prim .ne (.cons (.prim .lt (.cons (.var 11) (.cons (.var 14) .nil))) (.cons (.prim .lt (.cons (.var 12) (.cons (.var 15) .nil))) .nil))) (rho a0 a1 a2 a3 a4 a5 none none a8 a9 a10 (some (.tup (vsD r))) (some (.tup (nums (encA r)))) none (some (.tup (vsD s))) (some (.tup (nums (encA s)))) none none) h = .ok false h := by
    show truR ((((prim .lt [.tup (vsD r), .tup (vsD s)] h).bind fun x h1 => (((prim .lt [.tup (nums (encA r)), .tup (nums (encA s))] h1).bind fun x h1 => R.ok [x] h1).bind fun xs h2 => R.ok (x :: xs) h2))).bind fun ds h1 => prim .ne ds h1) = _
    rw [q_lt, p1, okB_some, R.bind_ok, q_lt, q1, okB_some, R.bind_ok, R.bind_ok, R.bind_ok, ne_b]; rfl
  have c2 : evalB (XX 59) (.prim .ne (.cons (.prim .eq (.cons (.var 11) (.cons (.var 14) .nil))) (.cons (.prim .eq (.cons (.var 12) (.cons (.var 15) .nil))) .nil))) (rho a0 a1 a2 a3 a4 a5 none none a8 a9 a10 (some (.tup (vsD r))) (some (.tup (nums (encA r)))) none (some (.tup (vsD s))) (some (.tup (nums (encA s)))) none none) h = .ok false h := by
    show truR ((((prim .eq [.tup (vsD r), .tup (vsD s)] h).bind fun x h1 => (((prim .eq [.tup (nums (encA r)), .tup (nums (encA s))] h1).bind fun x h1 => R.ok [x] h1).bind fun xs h2 => R.ok (x :: xs) h2))).bind fun ds h1 => prim .ne ds h1) = _
    rw [q_eq, p2, okB_some, R.bind_ok, q_eq, q2, okB_some, R.bind_ok, R.bind_ok, R.bind_ok, ne_b]; rfl
  unfold bt2
  refine (exSS_next (ex_ifF (by rw [eb_or, c1, R.bind_ok, c2]))).trans ?_
  rfl
theorem law_loop2 {ns : List Int} {k x c : Int} {ks : List Kd} {rs : List Row} {a8 a9 a10 : Option D} (hl : ks.length ≤ 4) (hg : ∀ r ∈ rs, GoodR ks r) : ∃ a11 a12 a14 a15, execS (XX 59) 0 st8 (rho (some (.scr ns)) (some (.ref 0)) (some (.tup (ks.map Kd.d))) (some (.ref 1)) (some (.lst (keysD rs))) (some (.ref 2)) none none a8 a9 a10 none none none none none none none) [rowO ns k x c, linesO rs, szO] = .next (rho (some (.scr ns)) (some (.ref 0)) (some (.tup (ks.map Kd.d))) (some (.ref 1)) (some (.lst (keysD rs))) (some (.ref 2)) none none a8 a9 a10 a11 a12 none a14 a15 none none) [rowO ns k x c, linesO rs, szO] := by
  have inner : ∀ r ∈ rs, ∀ a14 a15, ∃ b14 b15, execSS (XX 59) 0 (.cons st8i .nil) (rho (some (.scr ns)) (some (.ref 0)) (some (.tup (ks.map Kd.d))) (some (.ref 1)) (some (.lst (keysD rs))) (some (.ref 2)) none none a8 a9 a10 (some (.tup (vsD r))) (some (.tup (nums (encA r)))) none a14 a15 none none) [rowO ns k x c, linesO rs, szO] = .next (rho (some (.scr ns)) (some (.ref 0)) (some (.tup (ks.map Kd.d))) (some (.ref 1)) (some (.lst (keysD rs))) (some (.ref 2)) none none a8 a9 a10 (some (.tup (vsD r))) (some (.tup (nums (encA r)))) none b14 b15 none none) [rowO ns k x c, linesO rs, szO] := by
    intro r hr a14 a15
    obtain ⟨ρ', h', e1, ⟨b14, b15, hρ⟩, hh⟩ := for_run (rd := zipRd (live 1) (fixed (keysD rs))) (tg := .pair (.cons (.name 14) (.cons (.name 15) .nil))) (f := execSS (XX 59) 0 bt2) (its := rs.map fun r => It.many [.tup (vsD r), .tup (nums (encA r))]) (n := (rs.map fun r => D.tup (vsD r)).length) (ρ := rho (some (.scr ns)) (some (.ref 0)) (some (.tup (ks.map Kd.d))) (some (.ref 1)) (some (.lst (keysD rs))) (some (.ref 2)) none none a8 a9 a10 (some (.tup (vsD r))) (some (.tup (nums (encA r)))) none a14 a15 none none) (h := [rowO ns k x c, linesO rs, szO])
      (fun i ρ h => (∃ a14 a15, ρ = rho (some (.scr ns)) (some (.ref 0)) (some (.tup (ks.map Kd.d))) (some (.ref 1)) (some (.lst (keysD rs))) (some (.ref 2)) none none a8 a9 a10 (some (.tup (vsD r))) (some (.tup (nums (encA r)))) none a14 a15 none none) ∧ h = [rowO ns k x c, linesO rs, szO]) (fun i ρ h hi => by
        obtain ⟨_, rfl⟩ := hi
        rw [zip_live (xs := rs.map fun r => .tup (vsD r)) rfl, zip_maps]) (fun i it ρ h hx ⟨⟨a14, a15, hρ⟩, hh⟩ => by
        subst hρ hh
        rw [List.getElem?_map] at hx
        cases z : rs[i]? with
        | none => rw [z] at hx; cases hx
        | some s =>
          rw [z] at hx
          obtain rfl : it = .many [.tup (vsD s), .tup (nums (encA s))] := (Option.some.inj hx).symm
          refine ⟨_, rfl, _, _, loop2_body hl (hg r hr) (hg s (List.mem_of_getElem? z)), ⟨_, _, rfl⟩, rfl⟩) (by simp) ⟨⟨_, _, rfl⟩, rfl⟩
    subst hρ hh
    refine ⟨b14, b15, ?_⟩
    refine (exSS_next ((for_done (zip_cell (n := 1) (xs := rs.map fun r => .tup (vsD r)) (h := [rowO ns k x c, linesO rs, szO]) (h1 := [rowO ns k x c, linesO rs, szO]) rfl rfl rfl)).trans e1)).trans ?_
    rfl
  obtain ⟨ρ', h', e1, ⟨a11, a12, a14, a15, hρ⟩, hh⟩ := for_run (rd := zipRd (live 1) (fixed (keysD rs))) (tg := .pair (.cons (.name 11) (.cons (.name 12) .nil))) (f := execSS (XX 59) 0 (.cons st8i .nil)) (its := rs.map fun r => It.many [.tup (vsD r), .tup (nums (encA r))]) (n := (rs.map fun r => D.tup (vsD r)).length) (ρ := rho (some (.scr ns)) (some (.ref 0)) (some (.tup (ks.map Kd.d))) (some (.ref 1)) (some (.lst (keysD rs))) (some (.ref 2)) none none a8 a9 a10 none none none none none none none) (h := [rowO ns k x c, linesO rs, szO])
    (fun i ρ h => (∃ a11 a12 a14 a15, ρ = rho (some (.scr ns)) (some (.ref 0)) (some (.tup (ks.map Kd.d))) (some (.ref 1)) (some (.lst (keysD rs))) (some (.ref 2)) none none a8 a9 a10 a11 a12 none a14 a15 none none) ∧ h = [rowO ns k x c, linesO rs, szO]) (fun i ρ h hi => by
      obtain ⟨_, rfl⟩ := hi
      rw [zip_live (xs := rs.map fun r => .tup (vsD r)) rfl, zip_maps]) (fun i it ρ h hx ⟨⟨a11, a12, a14, a15, hρ⟩, hh⟩ => by
      subst hρ hh
      rw [List.getElem?_map] at hx
      cases z : rs[i]? with
      | none => rw [z] at hx; cases hx
      | some r =>
        rw [z] at hx
        obtain rfl : it = .many [.tup (vsD r), .tup (nums (encA r))] := (Option.some.inj hx).symm
        obtain ⟨b14, b15, e⟩ := inner r (List.mem_of_getElem? z) a14 a15
        exact ⟨_, rfl, _, _, e, ⟨_, _, _, _, rfl⟩, rfl⟩) (by simp) ⟨⟨_, _, _, _, rfl⟩, rfl⟩
  subst hρ hh
  refine ⟨a11, a12, a14, a15, ?_⟩
  rw [st8, for_done (zip_cell (n := 1) (xs := rs.map fun r => .tup (vsD r)) (h := [rowO ns k x c, linesO rs, szO]) (h1 := [rowO ns k x c, linesO rs, szO]) rfl rfl rfl)]
  exact e1
end K61

set_option Elab.async false
set_option linter.all false
set_option maxRecDepth 100000
set_option maxHeartbeats 4000000
namespace K61
open PySem Ir
def st9 : Ir.S := .asg (.name 6) (.newd [.inr "number", .inr "text", .inr "truth"] (.cons (.lst (.cons (.cst (.int 1000001)) (.cons (.prim .neg (.cons (.cst (.int 1000001)) .nil)) (.cons (.cst (.bl true)) .nil)))) (.cons (.lst (.cons (.cst (.str "abcdefghijk")) (.cons (.cst (.int 5)) .nil))) (.cons (.lst (.cons (.cst (.int 1)) (.cons (.cst (.int 0)) (.cons (.cst (.str "true")) .nil)))) .nil))))
def bd : Kd → List D
  | .num => [.int 1000001, .int (-1000001), .bl true]
  | .txt => [.str "abcdefghijk", .int 5]
  | .tru => [.int 1, .int 0, .str "true"]
abbrev badO : O := .dct [(.inr "number", .lst (bd .num)), (.inr "text", .lst (bd .txt)), (.inr "truth", .lst (bd .tru))]
theorem bd_fold : ([(Sum.inr "number" : Ir.Key), .inr "text", .inr "truth"].zip [D.lst (bd .num), .lst (bd .txt), .lst (bd .tru)]).foldl (fun acc kv => dPut kv.1 kv.2 acc) [] = [(.inr "number", .lst (bd .num)), (.inr "text", .lst (bd .txt)), (.inr "truth", .lst (bd .tru))] := by
  have d1 : ¬ ((Sum.inr "number" : Ir.Key) = .inr "truth") := by decide +kernel
  have d2 : ¬ ((Sum.inr "number" : Ir.Key) = .inr "text") := by decide +kernel
  have d3 : ¬ ((Sum.inr "text" : Ir.Key) = .inr "truth") := by decide +kernel
  simp [dPut, d1, d2, d3]
theorem law_bads {h : Hh} {a0 a1 a2 a3 a4 a5 a8 a9 a10 a11 a12 a14 a15 : Option D} : execS (XX 59) 0 st9 (rho a0 a1 a2 a3 a4 a5 none none a8 a9 a10 a11 a12 none a14 a15 none none) h = .next (rho a0 a1 a2 a3 a4 a5 (some (.ref h.length)) none a8 a9 a10 a11 a12 none a14 a15 none none) (h ++ [badO]) := by
  have z3 : ∀ x y z : D, ([x, y, z] : List D).length ≤ sizeLine := fun x y z => fits (by decide : 5 ≤ 16777216) (by simp)
  have z2 : ∀ x y : D, ([x, y] : List D).length ≤ sizeLine := fun x y => fits (by decide : 5 ≤ 16777216) (by simp)
  show (evalE (XX 59) _ _ _).toS _ _ = _
  rw [ev_newd (h1 := h ++ [.dct []]) (ds := [D.lst (bd .num), .lst (bd .txt), .lst (bd .tru)]) (by
    simp only [el_cons, ev_lst, ev_cst, ev_prim, el_nil, R.bind_ok, q_neg, okIf_pos (z3 _ _ _), okIf_pos (z2 _ _)]
    rfl) (by simp) ⟨rfl, by decide⟩, bd_fold]
  rw [List.set_append_right _ _ (Nat.le_refl _), Nat.sub_self]
  rfl
def eKind : E := .prim .idx (.cons (.prim .add (.cons (.var 2) (.cons (.tup (.cons (.cst (.str "truth")) .nil)) .nil))) (.cons (.prim .max2 (.cons (.cst (.int 0)) (.cons (.prim .sub (.cons (.prim .len (.cons (.var 2) .nil)) (.cons (.cst (.int 1)) .nil))) .nil))) .nil))
def eOdd : E := .call 11 (.cons (.var 1) (.cons (.prim .add (.cons (.lst (.cons (.cst .non) (.cons (.tup (.cons (.cst (.int 1)) .nil)) .nil))) (.cons (.dget2 (.var 6) eKind (.lst .nil)) .nil))) .nil))
def st10 : Ir.S := .asg (.name 7) (.prim .add (.cons (.cut false true (.prim .idx (.cons (.var 3) (.cons (.cst (.int 0)) .nil))) (.cst .non) (.prim .neg (.cons (.cst (.int 1)) .nil))) (.cons (.tup (.cons eOdd .nil)) .nil)))
/-- the kind of the last column, truth if there is none -/
def lastK (ks : List Kd) : Kd := ks.getLastD .tru
theorem kind_at {h : Hh} {ks : List Kd} {a0 a1 a3 a4 a5 a6 a8 a9 a10 a11 a12 a14 a15 : Option D} (hl : ks.length ≤ 4) : evalE (XX 59) eKind (rho a0 a1 (some (.tup (ks.map Kd.d))) a3 a4 a5 a6 none a8 a9 a10 a11 a12 none a14 a15 none none) h = .ok (lastK ks).d h := by
  have z1 : ∀ x : D, ([x] : List D).length ≤ sizeLine := fun x => fits (by decide : 5 ≤ 16777216) (by simp)
  have za : (ks.map Kd.d).length + [D.str "truth"].length ≤ sizeLine := fits (by decide : 100 ≤ 16777216) (by simp; omega)
  have w2 : evalE (XX 59) (.var 2) (rho a0 a1 (some (.tup (ks.map Kd.d))) a3 a4 a5 a6 none a8 a9 a10 a11 a12 none a14 a15 none none) h = .ok (.tup (ks.map Kd.d)) h := rfl
  have hm : ∃ m : Int, (if ((ks.map Kd.d).length : Int) - 1 > 0 then ((ks.map Kd.d).length : Int) - 1 else 0) = m ∧ L2.atI (ks.map Kd.d ++ [D.str "truth"]) m = some (lastK ks).d := by
    refine ⟨_, rfl, ?_⟩
    match ks, hl with
    | [], _ => rfl
    | [a], _ => cases a <;> rfl
    | [a, b], _ => cases b <;> rfl
    | [a, b, c], _ => cases c <;> rfl
    | [a, b, c, d], _ => cases d <;> rfl
  obtain ⟨m, hm1, hm2⟩ := hm
  simp only [eKind, ev_prim, el_cons, el_nil, ev_cst, ev_tup, w2, R.bind_ok, okIf_pos (z1 _), q_addT, okIf_pos za, q_lenT, q_sub, q_max2, hm1, q_ixT, hm2, okD_some]
theorem bads_bd (k : Kd) : ∀ y ∈ [D.non, .tup [.int 1]] ++ bd k, y ∈ bads k := by
  intro y hy
  cases k <;> exact hy
theorem odd_at {ns : List Int} {k x c : Int} {O1 O2 : O} {ks : List Kd} {a0 a3 a4 a5 a8 a9 a10 a11 a12 a14 a15 : Option D} (hk : 0 ≤ k) (hl : ks.length ≤ 4) : ∃ (y : D) (k' x' c' : Int), evalE (XX 59) eOdd (rho a0 (some (.ref 0)) (some (.tup (ks.map Kd.d))) a3 a4 a5 (some (.ref 3)) none a8 a9 a10 a11 a12 none a14 a15 none none) [rowO ns k x c, O1, O2, badO] = .ok y [rowO ns k' x' c', O1, O2, badO] ∧ y ∈ bads (lastK ks) := by
  have z1 : ∀ x : D, ([x] : List D).length ≤ sizeLine := fun x => fits (by decide : 5 ≤ 16777216) (by simp)
  have z2 : ∀ x y : D, ([x, y] : List D).length ≤ sizeLine := fun x y => fits (by decide : 5 ≤ 16777216) (by simp)
  have z0 : ([] : List D).length ≤ sizeLine := fits (by decide : 5 ≤ 16777216) (by simp)
  have lb : (bd (lastK ks)).length ≤ 3 := by cases lastK ks <;> decide
  have zb : ([D.non, .tup [.int 1]] : List D).length + (bd (lastK ks)).length ≤ sizeLine := fits (by decide : 100 ≤ 16777216) (by simp; omega)
  obtain ⟨y, k', x', c', e, y1, y2⟩ := pick_at (n := 57) (ns := ns) (k := k) (x := x) (c := c) (t := [O1, O2, badO]) (xs := [D.non, .tup [.int 1]] ++ bd (lastK ks)) hk (by simp) (by simp; omega)
  refine ⟨y, k', x', c', ?_, bads_bd _ y y1⟩
  have f1 : (XX 59).C 0 11 [.ref 0, .lst ([D.non, .tup [.int 1]] ++ bd (lastK ks))] [rowO ns k x c, O1, O2, badO] = _ := e
  have dd : evalE (XX 59) (.dget2 (.var 6) eKind (.lst .nil)) (rho a0 (some (.ref 0)) (some (.tup (ks.map Kd.d))) a3 a4 a5 (some (.ref 3)) none a8 a9 a10 a11 a12 none a14 a15 none none) [rowO ns k x c, O1, O2, badO] = .ok (.lst (bd (lastK ks))) [rowO ns k x c, O1, O2, badO] := by
    show ((evalE (XX 59) eKind _ [rowO ns k x c, O1, O2, badO]).bind fun y h2 => (evalE (XX 59) (.lst .nil) (rho a0 (some (.ref 0)) (some (.tup (ks.map Kd.d))) a3 a4 a5 (some (.ref 3)) none a8 a9 a10 a11 a12 none a14 a15 none none) h2).bind fun z h3 => match dctOf h3 (.ref 3), keyOf y with
      | some (_, kvs), some k => R.ok ((dLook k kvs).getD z) h3
      | _, _ => .stuck) = _
    rw [kind_at hl, R.bind_ok, ev_lst, el_nil, R.bind_ok, okIf_pos z0, R.bind_ok]
    have dl : (dLook (.inr (match lastK ks with | .num => "number" | .txt => "text" | .tru => "truth")) [((.inr "number" : Ir.Key), D.lst (bd .num)), (.inr "text", .lst (bd .txt)), (.inr "truth", .lst (bd .tru))]) = some (.lst (bd (lastK ks))) := by
      cases lastK ks <;> rfl
    have ko : keyOf (lastK ks).d = some (.inr (match lastK ks with | .num => "number" | .txt => "text" | .tru => "truth")) := by cases lastK ks <;> rfl
    rw [ko]
    show R.ok ((dLook _ [((.inr "number" : Ir.Key), D.lst (bd .num)), (.inr "text", .lst (bd .txt)), (.inr "truth", .lst (bd .tru))]).getD _) _ = _
    rw [dl]; rfl
  have w1 : evalE (XX 59) (.var 1) (rho a0 (some (.ref 0)) (some (.tup (ks.map Kd.d))) a3 a4 a5 (some (.ref 3)) none a8 a9 a10 a11 a12 none a14 a15 none none) [rowO ns k x c, O1, O2, badO] = .ok (.ref 0) [rowO ns k x c, O1, O2, badO] := rfl
  simp only [eOdd, ev_call, ev_prim, el_cons, el_nil, w1, ev_cst, ev_tup, ev_lst, dd, R.bind_ok, okIf_pos (z1 _), okIf_pos (z2 _ _), q_addL, okIf_pos zb, f1]
theorem law_odd {ns : List Int} {k x c : Int} {O2 : O} {ks : List Kd} {r : Row} {rs : List Row} {a0 a4 a5 a8 a9 a10 a11 a12 a14 a15 : Option D} (hk : 0 ≤ k) (hl : ks.length ≤ 4) (g : GoodR ks r) : ∃ (y : D) (k' x' c' : Int), execS (XX 59) 0 st10 (rho a0 (some (.ref 0)) (some (.tup (ks.map Kd.d))) (some (.ref 1)) a4 a5 (some (.ref 3)) none a8 a9 a10 a11 a12 none a14 a15 none none) [rowO ns k x c, linesO (r :: rs), O2, badO] = .next (rho a0 (some (.ref 0)) (some (.tup (ks.map Kd.d))) (some (.ref 1)) a4 a5 (some (.ref 3)) (some (.tup (vsD r.dropLast ++ [y]))) a8 a9 a10 a11 a12 none a14 a15 none none) [rowO ns k' x' c', linesO (r :: rs), O2, badO] ∧ y ∈ bads (lastK ks) := by
  obtain ⟨y, k', x', c', e, hy⟩ := odd_at (ns := ns) (k := k) (x := x) (c := c) (O1 := linesO (r :: rs)) (O2 := O2) (a0 := a0) (a3 := some (.ref 1)) (a4 := a4) (a5 := a5) (a8 := a8) (a9 := a9) (a10 := a10) (a11 := a11) (a12 := a12) (a14 := a14) (a15 := a15) hk hl
  refine ⟨y, k', x', c', ?_, hy⟩
  have le := ks_le hl g
  have z1 : ∀ x : D, ([x] : List D).length ≤ sizeLine := fun x => fits (by decide : 5 ≤ 16777216) (by simp)
  have i0 : prim .idx [.ref 1, .int 0] [rowO ns k x c, linesO (r :: rs), O2, badO] = .ok (.tup (vsD r)) [rowO ns k x c, linesO (r :: rs), O2, badO] := by
    rw [q_ixR (xs := (r :: rs).map fun r => .tup (vsD r)) rfl]
    rw [atI_gen (d := .tup (vsD r)) (by decide) rfl]; rfl
  have cc : cut (vsD r) none (some (-1)) = vsD r.dropLast := by
    match r, le with
    | [], _ => rfl
    | [_], _ => rfl
    | [_, _], _ => rfl
    | [_, _, _], _ => rfl
    | [_, _, _, _], _ => rfl
  have zz : (vsD r.dropLast).length + [y].length ≤ sizeLine := fits (by decide : 100 ≤ 16777216) (by simp [vsD]; omega)
  have w3 : evalE (XX 59) (.var 3) (rho a0 (some (.ref 0)) (some (.tup (ks.map Kd.d))) (some (.ref 1)) a4 a5 (some (.ref 3)) none a8 a9 a10 a11 a12 none a14 a15 none none) [rowO ns k x c, linesO (r :: rs), O2, badO] = .ok (.ref 1) [rowO ns k x c, linesO (r :: rs), O2, badO] := rfl
  show (evalE (XX 59) _ _ _).toS _ _ = _
  simp only [ev_prim, ev_cut, el_cons, el_nil, w3, ev_cst, ev_tup, e, R.bind_ok, i0, q_neg, bnd_int, cutR_tup, cc, okIf_pos (z1 _), q_addT, okIf_pos zz, R.toS_ok]
  rfl
end K61

set_option Elab.async false
set_option linter.all false
set_option maxRecDepth 100000
set_option maxHeartbeats 4000000
namespace K61
open PySem Ir
theorem told_exc {x : Nat} {fs : List (Str × D)} {body : E} {ρ : Rho} {h h1 : Hh} (e : evalE { XX 59 with n := 57, C := fun j => (XX 59).C (j + 2) } body ρ h = .exc ⟨x, fs⟩ h1) : evalE (XX 59) (.told 0 0 body) ρ h = .ok (.bl true) h1 := by
  show (if 2 ≤ (XX 59).n then toldR (XX 59).sub 0 (evalE { XX 59 with n := 57, C := fun j => (XX 59).C (j + 2) } body ρ h) else .stuck) = _
  rw [e]; rfl
theorem toldB_exc {x : Nat} {fs : List (Str × D)} {body : E} {ρ : Rho} {h h1 : Hh} (e : evalE { XX 59 with n := 57, C := fun j => (XX 59).C (j + 2) } body ρ h = .exc ⟨x, fs⟩ h1) : evalB (XX 59) (.told 0 0 body) ρ h = .ok true h1 := by
  show truR (evalE (XX 59) (.told 0 0 body) ρ h) = _
  rw [told_exc e]; rfl
theorem nr_app {xs ys : List D} (h1 : noRefL xs = true) (h2 : noRefL ys = true) : noRefL (xs ++ ys) = true := by
  induction xs with
  | nil => exact h2
  | cons x r ih =>
    have e : noRefL (x :: r) = (noRef x && noRefL r) := rfl
    rw [e, Bool.and_eq_true] at h1
    show (noRef x && noRefL (r ++ ys)) = true
    rw [h1.1, ih h1.2]; rfl
theorem odd_exc {ks : List Kd} {r : Row} {y : D} {h : Hh} (hl : ks.length ≤ 4) (hn : ks ≠ []) (g : GoodR ks r) (hy : y ∈ bads (lastK ks)) : run pg 57 0 8 [.tup (ks.map Kd.d), .tup (vsD r.dropLast ++ [y])] h = .exc ⟨0, []⟩ h := by
  have le := ks_le hl g
  have ny := nr_bads hy
  have e0 : ks = rk r.dropLast ++ [lastK ks] := by
    have h1 : ks = ks.dropLast ++ [ks.getLast hn] := (List.dropLast_concat_getLast hn).symm
    have h2 : lastK ks = ks.getLast hn := by
      unfold lastK
      rw [List.getLastD_eq_getLast?, List.getLast?_eq_some_getLast hn]; rfl
    have h3 : rk r.dropLast = ks.dropLast := by rw [← g.1, rk, rk, List.map_dropLast]
    rw [h3, h2]; exact h1
  refine row_key_exc2 (n := 53) (by omega) (nr_app (nr_vs _) (by show (noRef y && true) = true; rw [ny]; rfl)) ?_
  have := are_values_at (n := 53) (h := []) (w := r.dropLast.map (fun p => (p.1, p.2.d, true)) ++ [(lastK ks, y, false)]) (fun t ht => by
    rcases List.mem_append.mp ht with ht | ht
    · obtain ⟨p, hp, rfl⟩ := List.mem_map.mp ht
      exact ⟨nr_d _, fun h => is_value_at (g.2 p (List.dropLast_subset _ hp))⟩
    · simp only [List.mem_cons, List.not_mem_nil, or_false] at ht
      subst ht
      exact ⟨ny, fun h => bad_value hy⟩) (by simp; omega)
  rw [List.map_append, List.map_append, List.map_map, List.map_map, List.all_append] at this
  have e1 : ks.map Kd.d = r.dropLast.map ((fun t : Tri => t.1.d) ∘ fun p => (p.1, p.2.d, true)) ++ [(lastK ks, y, false)].map (fun t : Tri => t.1.d) := by
    conv => lhs; rw [e0]
    rw [List.map_append, rk, List.map_map]; rfl
  rw [e1]
  refine Eq.trans this ?_
  simp
theorem ne_empty {h : Hh} : prim .ne [.tup [], .tup []] h = .ok (.bl false) h := by
  have e : eqOf [] (.tup []) (.tup []) = some true := by decide +kernel
  rw [q_ne, show eqOf h (.tup []) (.tup []) = some true from e]; rfl
theorem toPy_kd : ∀ ks : List Kd, ∃ ps : List PyData, toPyL (ks.map Kd.d) = some ps ∧ (∀ p ∈ ps, Flat p) ∧ ps.length = ks.length
  | [] => ⟨[], rfl, fun _ h => (by cases h), rfl⟩
  | k :: r => by
    obtain ⟨ps, e, f, l⟩ := toPy_kd r
    have hk : ∃ p, toPy k.d = some p ∧ Flat p := by
      cases k
      · exact ⟨.str "number", rfl, by decide +kernel, rfl⟩
      · exact ⟨.str "text", rfl, by decide +kernel, rfl⟩
      · exact ⟨.str "truth", rfl, by decide +kernel, rfl⟩
    obtain ⟨p, e1, f1⟩ := hk
    refine ⟨p :: ps, ?_, fun q hq => ?_, by simp [l]⟩
    · show (match toPy k.d, toPyL (r.map Kd.d) with
      | some p, some q => some (p :: q)
      | _, _ => none) = _
      rw [e, e1]
    · rcases List.mem_cons.mp hq with rfl | hq
      · exact f1
      · exact f q hq
theorem ne_kinds {h : Hh} {ks : List Kd} (hn : ks ≠ []) : prim .ne [.tup (ks.map Kd.d), .tup []] h = .ok (.bl true) h := by
  obtain ⟨ps, e, f, l⟩ := toPy_kd ks
  rw [q_ne, eq_tup (qs := []) e rfl f (fun _ h => by cases h)]
  cases ps with
  | nil => rw [List.length_nil] at l; exact absurd (List.length_eq_zero_iff.mp l.symm) hn
  | cons p r => rfl
def st11 : Ir.S := .if_ (.and_ (.prim .ne (.cons (.var 2) (.cons (.tup .nil) .nil))) (.not_ (.told 0 0 (.call 8 (.cons (.var 2) (.cons (.var 7) .nil)))))) 
    (.cons (.ret (.cst (.bl false))) .nil) .nil
theorem law_told1 {h : Hh} {ks : List Kd} {r : Row} {y : D} {a0 a1 a3 a4 a5 a6 a8 a9 a10 a11 a12 a14 a15 : Option D} (hl : ks.length ≤ 4) (g : GoodR ks r) (hy : y ∈ bads (lastK ks)) : execS (XX 59) 0 st11 (rho a0 a1 (some (.tup (ks.map Kd.d))) a3 a4 a5 a6 (some (.tup (vsD r.dropLast ++ [y]))) a8 a9 a10 a11 a12 none a14 a15 none none) h = .next (rho a0 a1 (some (.tup (ks.map Kd.d))) a3 a4 a5 a6 (some (.tup (vsD r.dropLast ++ [y]))) a8 a9 a10 a11 a12 none a14 a15 none none) h := by
  have z0 : ([] : List D).length ≤ sizeLine := fits (by decide : 5 ≤ 16777216) (by simp)
  have w2 : evalE (XX 59) (.var 2) (rho a0 a1 (some (.tup (ks.map Kd.d))) a3 a4 a5 a6 (some (.tup (vsD r.dropLast ++ [y]))) a8 a9 a10 a11 a12 none a14 a15 none none) h = .ok (.tup (ks.map Kd.d)) h := rfl
  unfold st11
  refine (ex_ifF ?_).trans rfl
  by_cases hn : ks = []
  · subst hn
    rw [eb_and, eb_prim, el_cons, w2, R.bind_ok, el_cons, ev_tup, el_nil, R.bind_ok, okIf_pos z0, R.bind_ok, el_nil, R.bind_ok, R.bind_ok, R.bind_ok]
    show (truR (prim .ne [.tup [], .tup []] h)).bind _ = _
    rw [ne_empty]; rfl
  · rw [eb_and, eb_prim, el_cons, w2, R.bind_ok, el_cons, ev_tup, el_nil, R.bind_ok, okIf_pos z0, R.bind_ok, el_nil, R.bind_ok, R.bind_ok, R.bind_ok, ne_kinds hn]
    show (evalB (XX 59) (.not_ (.told 0 0 (.call 8 (.cons (.var 2) (.cons (.var 7) .nil))))) _ h) = _
    rw [eb_not, toldB_exc (x := 0) (fs := []) (h1 := h)]
    · rfl
    · show run pg 57 0 8 [.tup (ks.map Kd.d), .tup (vsD r.dropLast ++ [y])] h = _
      exact odd_exc hl hn g hy
def st12 : Ir.S := .ret (.and_ (.told 0 0 (.call 8 (.cons (.var 2) (.cons (.prim .add (.cons (.prim .idx (.cons (.var 3) (.cons (.cst (.int 0)) .nil))) (.cons (.tup (.cons (.cst (.int 1)) .nil)) .nil))) .nil)))) (.told 0 0 (.call 8 (.cons (.lst (.cons (.cst (.str "number")) .nil)) (.cons (.tup (.cons (.cst (.int 1)) .nil)) .nil)))))
theorem law_end {ns : List Int} {k x c : Int} {O2 : O} {ks : List Kd} {r : Row} {rs : List Row} {a0 a4 a5 a6 a7 a8 a9 a10 a11 a12 a14 a15 : Option D} (hl : ks.length ≤ 4) (g : GoodR ks r) : execS (XX 59) 0 st12 (rho a0 (some (.ref 0)) (some (.tup (ks.map Kd.d))) (some (.ref 1)) a4 a5 a6 a7 a8 a9 a10 a11 a12 none a14 a15 none none) [rowO ns k x c, linesO (r :: rs), O2, badO] = .ret (.bl true) [rowO ns k x c, linesO (r :: rs), O2, badO] := by
  have le := ks_le hl g
  have z1 : ∀ x : D, ([x] : List D).length ≤ sizeLine := fun x => fits (by decide : 5 ≤ 16777216) (by simp)
  have zz : (vsD r).length + [D.int 1].length ≤ sizeLine := fits (by decide : 100 ≤ 16777216) (by simp [vsD]; omega)
  have i0 : prim .idx [.ref 1, .int 0] [rowO ns k x c, linesO (r :: rs), O2, badO] = .ok (.tup (vsD r)) [rowO ns k x c, linesO (r :: rs), O2, badO] := by
    rw [q_ixR (xs := (r :: rs).map fun r => .tup (vsD r)) rfl]
    rw [atI_gen (d := .tup (vsD r)) (by decide) rfl]; rfl
  have t1 : evalE (XX 59) (.told 0 0 (.call 8 (.cons (.var 2) (.cons (.prim .add (.cons (.prim .idx (.cons (.var 3) (.cons (.cst (.int 0)) .nil))) (.cons (.tup (.cons (.cst (.int 1)) .nil)) .nil))) .nil)))) (rho a0 (some (.ref 0)) (some (.tup (ks.map Kd.d))) (some (.ref 1)) a4 a5 a6 a7 a8 a9 a10 a11 a12 none a14 a15 none none) [rowO ns k x c, linesO (r :: rs), O2, badO] = .ok (.bl true) [rowO ns k x c, linesO (r :: rs), O2, badO] := by
    refine told_exc (x := 0) (fs := []) ?_
    generalize hX : ({ XX 59 with n := 57, C := fun j => (XX 59).C (j + 2) } : Ir.Cx) = X'
    have w2 : evalE X' (.var 2) (rho a0 (some (.ref 0)) (some (.tup (ks.map Kd.d))) (some (.ref 1)) a4 a5 a6 a7 a8 a9 a10 a11 a12 none a14 a15 none none) [rowO ns k x c, linesO (r :: rs), O2, badO] = .ok (.tup (ks.map Kd.d)) [rowO ns k x c, linesO (r :: rs), O2, badO] := rfl
    have w3 : evalE X' (.var 3) (rho a0 (some (.ref 0)) (some (.tup (ks.map Kd.d))) (some (.ref 1)) a4 a5 a6 a7 a8 a9 a10 a11 a12 none a14 a15 none none) [rowO ns k x c, linesO (r :: rs), O2, badO] = .ok (.ref 1) [rowO ns k x c, linesO (r :: rs), O2, badO] := rfl
    simp only [ev_call, ev_prim, el_cons, el_nil, w2, w3, ev_cst, ev_tup, R.bind_ok, i0, okIf_pos (z1 _), q_addT, okIf_pos zz]
    subst hX
    show run pg 57 0 8 [.tup (ks.map Kd.d), .tup (vsD r ++ [.int 1])] _ = _
    have r1 : noRefL (ks.map Kd.d) = true := nr_map fun t _ => nr_k _
    have r2 : noRefL (vsD r ++ [.int 1]) = true := nr_app (nr_vs _) rfl
    exact row_key_exc2 (n := 53) (by omega) r2 (are_values_len (n := 53) r1 r2 (by
      have : r.length = ks.length := by rw [← g.1, rk, List.length_map]
      simp [vsD]; omega))
  have t2 : evalE (XX 59) (.told 0 0 (.call 8 (.cons (.lst (.cons (.cst (.str "number")) .nil)) (.cons (.tup (.cons (.cst (.int 1)) .nil)) .nil)))) (rho a0 (some (.ref 0)) (some (.tup (ks.map Kd.d))) (some (.ref 1)) a4 a5 a6 a7 a8 a9 a10 a11 a12 none a14 a15 none none) [rowO ns k x c, linesO (r :: rs), O2, badO] = .ok (.bl true) [rowO ns k x c, linesO (r :: rs), O2, badO] := by
    refine told_exc (x := 0) (fs := []) ?_
    generalize hX : ({ XX 59 with n := 57, C := fun j => (XX 59).C (j + 2) } : Ir.Cx) = X'
    simp only [ev_call, el_cons, el_nil, ev_cst, ev_tup, ev_lst, R.bind_ok, okIf_pos (z1 _)]
    subst hX
    show run pg 57 0 8 [.lst [.str "number"], .tup [.int 1]] _ = _
    exact row_key_exc1 (n := 53) rfl rfl
  unfold st12
  refine ex_ret ?_
  rw [ev_and, t1, R.bind_ok]
  exact t2
theorem ex_asg {X : Ir.Cx} {W : Nat} {t : Ir.T} {e : E} {ρ ρ1 : Rho} {h h1 : Hh} {d : D} (q : evalE X e ρ h = .ok d h1) (b : bindT t d ρ = some ρ1) : execS X W (.asg t e) ρ h = .next ρ1 h1 := by
  show (evalE X e ρ h).toS ρ (fun x h1 => match bindT t x ρ with
    | some ρ1 => .next ρ1 h1
    | none => .stuck) = _
  rw [q]
  show (match bindT t d ρ with
    | some ρ1 => SR.next ρ1 h1
    | none => .stuck) = _
  rw [b]
theorem law_true (ns : List Int) : ∃ h', run pg 60 0 14 [.scr ns] [] = .ok (.bl true) h' := by
  rw [run_call (F := f_law) rfl rfl rfl]
  show ∃ h', (execSS (XX 59) 0 b_law (rho (some (.scr ns)) none none none none none none none none none none none none none none none none none) []).fin = _
  have z4 : ∀ a b c d : D, ([a, b, c, d] : List D).length ≤ sizeLine := fun a b c d => fits (by decide : 5 ≤ 16777216) (by simp)
  have e1 : execS (XX 59) 0 (.asg (.name 1) (.newl (.cons (.var 0) (.cons (.cst (.int 0)) (.cons (.cst (.int 7061)) (.cons (.cst (.int 0)) .nil)))))) (rho (some (.scr ns)) none none none none none none none none none none none none none none none none none) [] = .next (rho (some (.scr ns)) (some (.ref 0)) none none none none none none none none none none none none none none none none) [rowO ns 0 7061 0] := by
    have w0 : evalE (XX 59) (.var 0) (rho (some (.scr ns)) none none none none none none none none none none none none none none none none none) [] = .ok (.scr ns) [] := rfl
    refine ex_asg ?_ rfl
    rw [ev_newl, el_cons, w0, R.bind_ok, el_cons, ev_cst, R.bind_ok, el_cons, ev_cst, R.bind_ok, el_cons, ev_cst, R.bind_ok, el_nil, R.bind_ok, R.bind_ok, R.bind_ok, R.bind_ok, R.bind_ok, okIf_pos (z4 _ _ _ _)]; rfl
  obtain ⟨ks, k2, x2, c2, e2, l2, p2⟩ := law_kinds (n := 57) (ns := ns) (k := 0) (x := 7061) (c := 0) (t := []) (by decide)
  obtain ⟨rs, k3, x3, c3, e3, l3, g3, p3⟩ := law_lines (ns := ns) (k := k2) (x := x2) (c := c2) (ks := ks) p2 l2
  obtain ⟨rs', e4, l4, g4⟩ := law_seven (ns := ns) (k := k3) (x := x3) (c := c3) l2 l3 g3
  have e5 := law_keys (ns := ns) (k := k3) (x := x3) (c := c3) l2 l4 g4
  have e6 := law_sizes (h := [rowO ns k3 x3 c3, linesO rs']) (a0 := some (.scr ns)) (a1 := some (.ref 0)) (a2 := some (.tup (ks.map Kd.d))) (a3 := some (.ref 1)) (a4 := some (.lst (keysD rs')))
  obtain ⟨a8, a9, a10, e7⟩ := law_loop1 (ns := ns) (k := k3) (x := x3) (c := c3) l2 l4 g4
  obtain ⟨a11, a12, a14, a15, e8⟩ := law_loop2 (ns := ns) (k := k3) (x := x3) (c := c3) (rs := rs') (a8 := a8) (a9 := a9) (a10 := a10) l2 g4
  have e9 := law_bads (h := [rowO ns k3 x3 c3, linesO rs', szO]) (a0 := some (.scr ns)) (a1 := some (.ref 0)) (a2 := some (.tup (ks.map Kd.d))) (a3 := some (.ref 1)) (a4 := some (.lst (keysD rs'))) (a5 := some (.ref 2)) (a8 := a8) (a9 := a9) (a10 := a10) (a11 := a11) (a12 := a12) (a14 := a14) (a15 := a15)
  obtain ⟨r, rest, hrs⟩ : ∃ r rest, rs' = r :: rest := by
    match rs', l4 with
    | r :: rest, _ => exact ⟨r, rest, rfl⟩
  subst hrs
  have g := g4 r (by simp)
  obtain ⟨y, k5, x5, c5, e10, hy⟩ := law_odd (ns := ns) (k := k3) (x := x3) (c := c3) (O2 := szO) (ks := ks) (r := r) (rs := rest) (a0 := some (.scr ns)) (a4 := some (.lst (keysD (r :: rest)))) (a5 := some (.ref 2)) (a8 := a8) (a9 := a9) (a10 := a10) (a11 := a11) (a12 := a12) (a14 := a14) (a15 := a15) p3 l2 g
  have e11 := law_told1 (h := [rowO ns k5 x5 c5, linesO (r :: rest), szO, badO]) (a0 := some (.scr ns)) (a1 := some (.ref 0)) (a3 := some (.ref 1)) (a4 := some (.lst (keysD (r :: rest)))) (a5 := some (.ref 2)) (a6 := some (.ref 3)) (a8 := a8) (a9 := a9) (a10 := a10) (a11 := a11) (a12 := a12) (a14 := a14) (a15 := a15) l2 g hy
  have e12 := law_end (ns := ns) (k := k5) (x := x5) (c := c5) (O2 := szO) (ks := ks) (r := r) (rs := rest) (a0 := some (.scr ns)) (a4 := some (.lst (keysD (r :: rest)))) (a5 := some (.ref 2)) (a6 := some (.ref 3)) (a7 := some (.tup (vsD r.dropLast ++ [y]))) (a8 := a8) (a9 := a9) (a10 := a10) (a11 := a11) (a12 := a12) (a14 := a14) (a15 := a15) l2 g
  refine ⟨[rowO ns k5 x5 c5, linesO (r :: rest), szO, badO], ?_⟩
  rw [show b_law = .cons (.asg (.name 1) (.newl (.cons (.var 0) (.cons (.cst (.int 0)) (.cons (.cst (.int 7061)) (.cons (.cst (.int 0)) .nil)))))) (.cons _ (.cons st3 (.cons st4 (.cons st5 (.cons st6 (.cons st7 (.cons st8 (.cons st9 (.cons st10 (.cons st11 (.cons st12 .nil))))))))))) from rfl]
  refine (congrArg SR.fin ((exSS_next e1).trans ((exSS_next e2).trans ((exSS_next e3).trans ((exSS_next e4).trans ((exSS_next e5).trans ((exSS_next e6).trans ((exSS_next e7).trans ((exSS_next e8).trans ((exSS_next e9).trans ((exSS_next e10).trans ((exSS_next e11).trans (ss_ret e12))))))))))))).trans rfl
end K61

set_option Elab.async false
set_option linter.all false
set_option maxRecDepth 100000
set_option maxHeartbeats 0
namespace K61
open PySem PySem.Spec PyProof.Rows Ir
open He (Fa DefD Defn)
theorem no_is_whole : ¬ pg.lamS = d_is_whole.scope.names := by decide +kernel
theorem no_is_text : ¬ pg.lamS = d_is_text.scope.names := by decide +kernel
theorem no_is_value : ¬ pg.lamS = d_is_value.scope.names := by decide +kernel
theorem no_are_values : ¬ pg.lamS = d_are_values.scope.names := by decide +kernel
theorem no_key_of_value : ¬ pg.lamS = d_key_of_value.scope.names := by decide +kernel
theorem no_key_made : ¬ pg.lamS = d_key_made.scope.names := by decide +kernel
theorem no_row_made : ¬ pg.lamS = d_row_made.scope.names := by decide +kernel
theorem no_are_kinds : ¬ pg.lamS = d_are_kinds.scope.names := by decide +kernel
theorem no_row_key : ¬ pg.lamS = d_row_key.scope.names := by decide +kernel
theorem no_row_of_key : ¬ pg.lamS = d_row_of_key.scope.names := by decide +kernel
theorem no__law_taken : ¬ pg.lamS = d__law_taken.scope.names := by decide +kernel
theorem no__law_pick : ¬ pg.lamS = d__law_pick.scope.names := by decide +kernel
theorem no__law_alike : ¬ pg.lamS = d__law_alike.scope.names := by decide +kernel
theorem no__law_value : ¬ pg.lamS = d__law_value.scope.names := by decide +kernel
theorem fit : Fit pg fa pgDs tf ("law" ++ ".<locals>." ++ "<lambda>") where
  free := by
    have : (pg.free.all fun x => decide (x ∈ pgFree)) = true := by decide +kernel
    intro x hx
    have hx : x ∈ pgFree := hx
    simp only [pgFree, List.mem_cons, List.not_mem_nil, or_false] at hx
    rcases hx with rfl | rfl | rfl | rfl | rfl | rfl | rfl | rfl | rfl | rfl | rfl | rfl <;> simp [fa]
  exs := by
    intro x hx
    have hx : x ∈ [("BadRow" : Str)] := hx
    simp only [List.mem_cons, List.not_mem_nil, or_false] at hx
    subst hx
    exact ⟨by simp [fa], by simp [fa]⟩
  sub := by
    intro i j x y e1 e2
    have m1 : x ∈ [("BadRow" : Str)] := List.mem_of_getElem? e1
    have m2 : y ∈ [("BadRow" : Str)] := List.mem_of_getElem? e2
    simp only [List.mem_cons, List.not_mem_nil, or_false] at m1 m2
    subst m1 m2
    show Fa.exm "BadRow" "BadRow" true ∈ fa
    simp [fa]
  fns := by
    intro F hF
    have hF : F ∈ pgFns := hF
    simp only [pgFns, List.mem_cons, List.not_mem_nil, or_false] at hF
    rcases hF with rfl | rfl | rfl | rfl | rfl | rfl | rfl | rfl | rfl | rfl | rfl | rfl | rfl | rfl | rfl
    · exact ⟨by simp [fa, f_is_whole], d_is_whole, by simp [pgDs], ok_is_whole, fun e => (no_is_whole e).elim⟩
    · exact ⟨by simp [fa, f_is_text], d_is_text, by simp [pgDs], ok_is_text, fun e => (no_is_text e).elim⟩
    · exact ⟨by simp [fa, f_is_value], d_is_value, by simp [pgDs], ok_is_value, fun e => (no_is_value e).elim⟩
    · exact ⟨by simp [fa, f_are_values], d_are_values, by simp [pgDs], ok_are_values, fun e => (no_are_values e).elim⟩
    · exact ⟨by simp [fa, f_key_of_value], d_key_of_value, by simp [pgDs], ok_key_of_value, fun e => (no_key_of_value e).elim⟩
    · exact ⟨by simp [fa, f_key_made], d_key_made, by simp [pgDs], ok_key_made, fun e => (no_key_made e).elim⟩
    · exact ⟨by simp [fa, f_row_made], d_row_made, by simp [pgDs], ok_row_made, fun e => (no_row_made e).elim⟩
    · exact ⟨by simp [fa, f_are_kinds], d_are_kinds, by simp [pgDs], ok_are_kinds, fun e => (no_are_kinds e).elim⟩
    · exact ⟨by simp [fa, f_row_key], d_row_key, by simp [pgDs], ok_row_key, fun e => (no_row_key e).elim⟩
    · exact ⟨by simp [fa, f_row_of_key], d_row_of_key, by simp [pgDs], ok_row_of_key, fun e => (no_row_of_key e).elim⟩
    · exact ⟨by simp [fa, f__law_taken], d__law_taken, by simp [pgDs], ok__law_taken, fun e => (no__law_taken e).elim⟩
    · exact ⟨by simp [fa, f__law_pick], d__law_pick, by simp [pgDs], ok__law_pick, fun e => (no__law_pick e).elim⟩
    · exact ⟨by simp [fa, f__law_alike], d__law_alike, by simp [pgDs], ok__law_alike, fun e => (no__law_alike e).elim⟩
    · exact ⟨by simp [fa, f__law_value], d__law_value, by simp [pgDs], ok__law_value, fun e => (no__law_value e).elim⟩
    · exact ⟨by simp [fa, f_law], d_law, by simp [pgDs], ok_law, fun _ => ⟨by simp [tf, d_law], rfl⟩⟩
  told := by
    intro p hp
    have hp : p ∈ [(("_law_told" : Str), 0)] := hp
    simp only [List.mem_cons, List.not_mem_nil, or_false] at hp
    subst hp
    exact ⟨by simp [fa, fa], d__law_told, by simp [pgDs], ok__law_told⟩
  one := fun p hp p' hp' => by
    simp only [tf, List.mem_cons, List.not_mem_nil, or_false] at hp hp'
    rw [hp, hp']
abbrev R : PySem.W.OpenRow := PySem.W.OpenLaw.row PySem.Challenge.rw_cutledger_k61_whole_codes
abbrev exB (K : PySem.W.Frag) : Bool := pg.cons.all fun p => conB K p
abbrev hk : PySem.W.Hook := He.hookX 5 fa pgDs [] tf exB
def ob (s : PySem.W.SharedT) : He.AlX := He.obsX 5 fa pgDs [] tf exB (HandSHeadRun.getT s)
theorem ob_eq (s : PySem.W.SharedT) : ob s = hk.obs s.abs := He.obsX_eq (HandSHeadRun.getT_eq s)
def loose : List Str := ["CutError", "BadRow", "MOST", "MOST_TEXT", "KINDS", "SIGNS", "is_whole", "is_text", "is_value", "are_values", "key_of_value", "key_made", "row_made", "are_kinds", "row_key", "row_of_key", "_law_taken", "_law_pick", "_law_alike", "_law_value", "_law_told"]
theorem run (w : World) : HandSHeadRun.RunEq R (PySem.W.view R.prog [25]) hk ob 4000 loose w := by
  intro os
  kernel_rfl
end K61

set_option Elab.async false
set_option linter.all false
set_option maxRecDepth 100000
set_option maxHeartbeats 0
open PySem PySem.W PySem.Calls PyProof.Rows
theorem PySem.Challenge.cw_cutledger_k61_whole_codes_holds : PySem.Challenge.rw_cutledger_k61_whole_codes.Holds := by
  w_on; o_law
  refine HandSHeadRun.head_any (r := OpenLaw.row PySem.Challenge.rw_cutledger_k61_whole_codes) (q := view (OpenLaw.row PySem.Challenge.rw_cutledger_k61_whole_codes).prog [25]) (H := K61.hk) (ob := K61.ob) (M := 4000) (loose := K61.loose) (d := HandSHeadRun.topDef (OpenLaw.row PySem.Challenge.rw_cutledger_k61_whole_codes).prog 25) (kwd := []) K61.ob_eq
    (by kernel_rfl) (fun s => by kernel_rfl) K61.run (by kernel_rfl) (by kernel_rfl) (by kernel_rfl) (by rfl) (by first | assumption | decide +kernel) (by decide +kernel) ⟨rfl, rfl, rfl, rfl, rfl, by decide +kernel⟩ ?hw ?hc
  case hw => w_witness2
  case hc =>
    refine LamX.walk_ofTsE (l := PySem.Challenge.rw_cutledger_k61_whole_codes) (n := 63) (k := 60) (x := "_law_script") (CX := fun w => L2.CX (PySem.Challenge.rw_cutledger_k61_whole_codes).prog w) rfl (by decide) (by kernel_rfl) ⟨rfl, by decide, by decide⟩ ?F (fun _ _ _ _ _ z => by
      obtain ⟨_, _, _, _, _, _, _, _, _, _, _, _, z⟩ := z
      exact z)
    intro w mg fa h Y G hmg0
    obtain ⟨K, KX, c⟩ := Y
    have hmg : mg ("law" : PySem.Str) = some (.ref fa) := by
      have e : (HandSHeadRun.topDef (OpenLaw.row PySem.Challenge.rw_cutledger_k61_whole_codes).prog 25).name = ("law" : PySem.Str) := by kernel_rfl
      rw [← e]
      exact hmg0
    exact ⟨K, KX, Ir.law_at (f := 14) (F := K61.f_law) K61.fit KX G c rfl rfl hmg fun ns _ => K61.law_true ns⟩

