import PyProof.Rows.All
import Wide.All
import OpenK.AllK
import Wide.FinOn
import PyProof.P3Statements
import PyProof.EqLayable
import PyProof.ReprReads
import HandS.ForMost
import HandS.Exc
import HandS.ExcOwn
import HandS.WordsExc
import HandS.Wide
import HandS.Style
import HandS.SortInts
import HandS.IsInst
import HandS.TupAny
import HandS.Flow
import HandS.CallSlots
import HandS.Rev
import HandS.Zip
import KE.KTupSum
import PyProof.ReprRoads
import PyProof.ReprDict
import KE.KDictWalk
import HandS.TupMul
import KE.GoesMore
import HandS.Iter
import KE.KRevSl
import HandS.ExcInit
import HandS.ExcField
import HandS.ExcIs
import HandS.TryOnly
import HandS.TryMany
import KE.KExcIs
import HandS.Conv
import HandS.Defaults
import PyProof.FitsInt
import PySem.Challenge.RW_threeshapes_k00_tables_shapes_and_kinds
set_option linter.all false
/-! PyD: plain data D, a small language E, S of expressions and statements by slots, its evaluator; no heap. -/
namespace PD
open PySem

/-- plain data of the program: hand is the law's hand, edic a dict of whole numbers that nobody changes -/
inductive D where
  | non | bl (b : Bool) | int (i : Int) | str (x : Str) | lst (xs : List D) | tup (xs : List D) | hand | edic (kvs : List (Int × Int))
  deriving Inhabited

mutual
def D.py : D → PyData
  | .non => .none
  | .bl b => .bool b
  | .int i => .int i
  | .str x => .str x
  | .lst xs => .list (D.pys xs)
  | .tup xs => .tuple (D.pys xs)
  | .hand => .dict []
  | .edic kvs => .dict (kvs.map fun p => (.int p.1, .int p.2))
def D.pys : List D → List PyData
  | [] => []
  | x :: xs => D.py x :: D.pys xs
end

mutual
/-- the hand is nowhere in it -/
def D.nh : D → Bool
  | .lst xs => D.nhs xs
  | .tup xs => D.nhs xs
  | .hand => false
  | _ => true
def D.nhs : List D → Bool
  | [] => true
  | x :: xs => D.nh x && D.nhs xs
end
/-- a value handed on: plain, or a list just made that nobody else holds -/
inductive R where
  | d (x : D) | f (xs : List D)
  deriving Inhabited
def R.D : R → PD.D
  | .d x => x
  | .f xs => .lst xs

/-- the law's hand -/
structure Hand where
  cells : List Int
  ix : Int
  rest : Int
  total : Int

inductive Cell where
  | no | d (x : D) | own (xs : List D) | own2 (xss : List (List Int))
  deriving Inhabited
structure Stt where
  ρ : List Cell
  g : Hand
/-- an error of an own class, with its fields -/
structure Exc where
  c : Nat
  fs : List D
inductive Res (α : Type) where
  | ok (a : α) (s : Stt) | ex (e : Exc) (s : Stt) | bad
def Res.bind {α β : Type} (x : Res α) (f : α → Stt → Res β) : Res β :=
  match x with
  | .ok a s => f a s
  | .ex e s => .ex e s
  | .bad => .bad
@[simp] theorem Res.bind_ok {α β : Type} (a : α) (s : Stt) (f : α → Stt → Res β) : (Res.ok a s).bind f = f a s := of_eq_true (eq_self _)
@[simp] theorem Res.bind_ex {α β : Type} (e : Exc) (s : Stt) (f : α → Stt → Res β) : (Res.ex e s : Res α).bind f = .ex e s := of_eq_true (eq_self _)
@[simp] theorem Res.bind_bad {α β : Type} (f : α → Stt → Res β) : (Res.bad : Res α).bind f = .bad := of_eq_true (eq_self _)
def Res.of {α : Type} (x : Option α) (s : Stt) : Res α :=
  match x with
  | some a => .ok a s
  | none => .bad
@[simp] theorem Res.of_some {α : Type} (a : α) (s : Stt) : Res.of (some a) s = .ok a s := of_eq_true (eq_self _)
@[simp] theorem Res.of_none {α : Type} (s : Stt) : Res.of (none : Option α) s = .bad := of_eq_true (eq_self _)
def Stt.put (s : Stt) (i : Nat) (c : Cell) : Stt := ⟨s.ρ.set i c, s.g⟩
def Stt.forget (s : Stt) : List Nat → Stt
  | [] => s
  | i :: is => (s.forget is).put i .no
/-- what a call of a def does -/
inductive FR where
  | ret (r : R) (g : Hand) | ex (e : Exc) (g : Hand) | bad
abbrev FEnv := Nat → List D → Hand → FR

/-! ### operations -/
def mulOk (i j : Int) : Bool := decide (i.natAbs.log2 + j.natAbs.log2 < 1000000)
def divOk (j : Int) : Bool := decide (0 < j) && decide (j.natAbs.log2 < 9000)
def powOk (i j : Int) : Bool := decide (0 ≤ j) && decide (j ≤ 1000000) && decide (i.natAbs < 2 ^ 64)
def binop (op : Operator) (x y : D) : Option R :=
  match op, x, y with
  | .Add, .int i, .int j => some (.d (.int (i + j)))
  | .Add, .str a, .str b => if a.length + b.length ≤ sizeLine then some (.d (.str (a ++ b))) else none
  | .Add, .tup a, .tup b => if a.length + b.length ≤ sizeLine then some (.d (.tup (a ++ b))) else none
  | .Add, .lst a, .lst b => if a.length + b.length ≤ sizeLine then some (.f (a ++ b)) else none
  | .Sub, .int i, .int j => some (.d (.int (i - j)))
  | .Mult, .int i, .int j => if mulOk i j then some (.d (.int (i * j))) else none
  | .Mult, .lst a, .int k => if -(2 ^ 63) ≤ k ∧ k < 2 ^ 63 ∧ a.length * k.toNat ≤ sizeLine then some (.f (List.replicate k.toNat a).flatten) else none
  | .Mult, .tup a, .int k => if -(2 ^ 63) ≤ k ∧ k ≤ 1000 ∧ a.length ≤ 1000 then some (.d (.tup (List.replicate k.toNat a).flatten)) else none
  | .FloorDiv, .int i, .int j => if divOk j then some (.d (.int (i / j))) else none
  | .Mod, .int i, .int j => if 0 < j then some (.d (.int (i % j))) else none
  | .Pow, .int i, .int j => if powOk i j then some (.d (.int (i ^ j.toNat))) else none
  | _, _, _ => none
def flat : D → Bool
  | .non => true
  | .bl _ => true
  | .int _ => true
  | .str _ => true
  | _ => false
/-- == of flat values -/
def eqF : D → D → Bool
  | .non, .non => true
  | .bl a, .bl b => a == b
  | .bl a, .int b => (if a then 1 else 0) == b
  | .int a, .bl b => a == (if b then 1 else 0)
  | .int a, .int b => a == b
  | .str a, .str b => a == b
  | _, _ => false
def eqD (x y : D) : Option Bool := match x, y with
  | .str a, .str b => some (decide (a = b))
  | x, y => if SeqAt.shaped x.py && SeqAt.shaped y.py then some (PyData.eqv x.py y.py) else none
def isNon : D → Bool
  | .non => true
  | _ => false
def inD (x : D) (y : D) : Option Bool :=
  match y with
  | .tup ys => if flat x && ys.all flat then some (ys.any fun y => eqF y x) else none
  | .lst ys => if flat x && ys.all flat then some (ys.any fun y => eqF y x) else none
  | _ => none
def cmpop (op : CmpOp) (x y : D) : Option Bool :=
  match op, x, y with
  | .Lt, .int i, .int j => some (decide (i < j))
  | .LtE, .int i, .int j => some (decide (i ≤ j))
  | .Gt, .int i, .int j => some (decide (j < i))
  | .GtE, .int i, .int j => some (decide (j ≤ i))
  | .Eq, x, y => eqD x y
  | .NotEq, x, y => (eqD x y).map (!·)
  | .Is, x, .non => some (isNon x)
  | .IsNot, x, .non => some (!isNon x)
  | .In, x, y => inD x y
  | .NotIn, x, y => (inD x y).map (!·)
  | _, _, _ => none
def truth : D → Option Bool
  | .non => some false
  | .bl b => some b
  | .int i => some (i != 0)
  | .str x => if x.length ≤ sizeLine then some ((x.length : Int) != 0) else none
  | .lst xs => some (!xs.isEmpty)
  | .tup xs => some (!xs.isEmpty)
  | _ => none
/-- the place of an index -/
def ixN (n : Nat) (i : Int) : Option Nat := if 0 ≤ i then (if i < n then some i.toNat else none) else if -(n : Int) ≤ i then some (i + n).toNat else none
def item (x i : D) : Option D :=
  match x, i with
  | .lst xs, .int i => (ixN xs.length i).bind fun j => xs[j]?
  | .tup xs, .int i => (ixN xs.length i).bind fun j => xs[j]?
  | _, _ => none
/-- the items of the law's hand -/
def handAt (g : Hand) (i : Int) : Option D := if i = 0 then some (.lst (g.cells.map .int)) else if i = 1 then some (.int g.ix) else if i = 2 then some (.int g.rest) else if i = 3 then some (.int g.total) else none
def itemS (g : Hand) (x i : D) : Option D :=
  match x with
  | .hand => (match i with
    | .int i => handAt g i
    | _ => none)
  | x => item x i
/-- an item of the hand is written -/
def handSet (g : Hand) (i : Int) (v : Int) : Option Hand := if i = 1 then some { g with ix := v } else if i = 2 then some { g with rest := v } else if i = 3 then some { g with total := v } else none
def sIx (n d : Nat) : Option Int → Nat
  | none => d
  | some v => if v < 0 then (max (v + (n : Int)) 0).toNat else (min v (n : Int)).toNat
def cut {α : Type} (xs : List α) (lo hi : Option Int) : List α := (xs.drop (sIx xs.length 0 lo)).take (sIx xs.length xs.length hi - sIx xs.length 0 lo)
def slice (x : D) (lo hi : Option Int) : Option R :=
  match x with
  | .lst xs => some (.f (cut xs lo hi))
  | .tup xs => some (.d (.tup (cut xs lo hi)))
  | _ => none
def toInts : List D → Option (List Int)
  | [] => some []
  | .int i :: r => (toInts r).map (i :: ·)
  | _ :: _ => none
def toBools : List D → Option (List Bool)
  | [] => some []
  | .bl i :: r => (toBools r).map (i :: ·)
  | _ :: _ => none
def seqOf : D → Option (List D)
  | .lst xs => some xs
  | .tup xs => some xs
  | _ => none
def insI (x : Int) : List Int → List Int
  | [] => [x]
  | y :: ys => if x ≤ y then x :: y :: ys else y :: insI x ys
def sortI : List Int → List Int
  | [] => []
  | x :: xs => insI x (sortI xs)
def maxI (x : Int) : List Int → Int
  | [] => x
  | y :: ys => maxI (if y > x then y else x) ys
def minI (x : Int) : List Int → Int
  | [] => x
  | y :: ys => minI (if y < x then y else x) ys
/-- the built-in defs -/
inductive B where
  | len | abs | max | min | int | sum | tuple | list | sorted | all | any | repr | bool
def blt (b : B) (xs : List D) : Option R :=
  match b, xs with
  | .len, [.lst xs] => some (.d (.int xs.length))
  | .len, [.tup xs] => some (.d (.int xs.length))
  | .len, [.str x] => if x.length ≤ sizeLine then some (.d (.int x.length)) else none
  | .abs, [.int i] => some (.d (.int (if i < 0 then -i else i)))
  | .max, [.int i, .int j] => some (.d (.int (if j > i then j else i)))
  | .min, [.int i, .int j] => some (.d (.int (if j < i then j else i)))
  | .max, [.lst (.int i :: xs)] => (toInts xs).map fun ns => .d (.int (maxI i ns))
  | .min, [.lst (.int i :: xs)] => (toInts xs).map fun ns => .d (.int (minI i ns))
  | .int, [.int i] => some (.d (.int i))
  | .int, [.bl b] => some (.d (.int (if b then 1 else 0)))
  | .bool, [.int i] => some (.d (.bl (i != 0)))
  | .bool, [.bl b] => some (.d (.bl b))
  | .sum, [.lst xs] => (toInts xs).map fun ns => .d (.int ns.sum)
  | .sum, [.tup xs] => (toInts xs).map fun ns => .d (.int ns.sum)
  | .tuple, [.lst xs] => some (.d (.tup xs))
  | .tuple, [.tup xs] => some (.d (.tup xs))
  | .list, [.lst xs] => some (.f xs)
  | .list, [.tup xs] => some (.f xs)
  | .sorted, [.lst xs] => (toInts xs).map fun ns => .f ((sortI ns).map .int)
  | .all, [.lst xs] => (toBools xs).map fun ns => .d (.bl (ns.all id))
  | .any, [.lst xs] => (toBools xs).map fun ns => .d (.bl (ns.any id))
  | .repr, [x] => if (x.nh && decide (x.py.depth ≤ 64)) && x.py.showable && decide (x.py.shown.length ≤ sizeLine) then some (.d (.str x.py.shown)) else none
  | _, _ => none
inductive Ty where
  | bool | int | list | tuple | str
  deriving DecidableEq
/-- the type of a value -/
def tyOf : D → Option Ty
  | .bl _ => some .bool
  | .int _ => some .int
  | .str _ => some .str
  | .lst _ => some .list
  | .tup _ => some .tuple
  | _ => none
def isTy (x : D) (t : Ty) : Option Bool :=
  match x with
  | .bl _ => some (t == .bool || t == .int)
  | .int _ => some (t == .int)
  | .str _ => some (t == .str)
  | .lst _ => some (t == .list)
  | .tup _ => some (t == .tuple)
  | .non => some false
  | .edic _ => some false
  | .hand => some (t == .list)

/-! ### the language -/
inductive Tg where
  | nm (i : Nat) | tp (is : List Nat)
inductive Sk where
  | seq | rng | zip | enum | rev
inductive E where
  | var (i : Nat)
  | k (c : D)
  | bin (op : Operator) (a b : E)
  | cmp (op : CmpOp) (a b : E)
  | chain (op op' : CmpOp) (a b c : E)
  | and (a b : E)
  | or (a b : E)
  | not (a : E)
  | neg (a : E)
  | ife (c a b : E)
  | tup (es : List E)
  | lst (es : List E)
  | ix (a i : E)
  | sl (a : E) (lo hi : Option E)
  | rvs (a : E)
  | call (f : Nat) (es : List E)
  | blt (b : B) (es : List E)
  | isi (a : E) (t : Ty)
  | comp (vs : List Nat) (t : Tg) (k : Sk) (src : List E) (c : Option E) (elt : E)
  | mt (kvs : List (Int × Int))
  | lrng (es : List E)
  | len2 (i : Nat) (k : Option Nat)
/-- an expression of an except suite: fld: a field of the caught error; isx: is it one of these classes -/
inductive HE where
  | k (c : D) | fld (n : Nat) | isx (is : List Nat) | var (i : Nat) | rpr (n : Nat) | and (a b : HE) | lst (es : List HE) | tup (es : List HE)
inductive HA where
  | set (i : Nat) (e : HE) | ret (e : HE) | pss | cnt | brk
/-- an except clause: the classes that it takes, the slot of its name, its suite -/
structure Hd where
  is : List Nat
  n : Option Nat
  as : List HA
inductive S where
  | set (t : Tg) (e : E)
  | par (i j : Nat) (a b : E)
  | app (i : Nat) (e : E)
  | ext (i : Nat) (e : E)
  | six (i : Nat) (k e : E)
  | sixa (i : Nat) (op : Operator) (k e : E)
  | aug (i : Nat) (op : Operator) (e : E)
  | exp (e : E)
  | ret (e : E)
  | retN
  | ifS (c : E) (a b : List S)
  | new2 (i r j : Nat)
  | six2 (i k1 k2 : Nat) (e : E)
  | dm (i : Nat) (m : S)
  | forS (t : Tg) (k : Sk) (src : List E) (b : List S)
  | whl (c : E) (b : List S)
  | brk | cnt | pss | bad
  | rse (c : Nat) (es : List E)
  | tryN (b : List S)
  | tryS (b : List S) (hs : List Hd)

def bindT (t : Tg) (x : D) (s : Stt) : Option Stt :=
  match t, x with
  | .nm i, x => some (s.put i (.d x))
  | .tp is, .tup xs => if xs.length = is.length then some ((is.zip xs).foldl (fun s p => s.put p.1 (.d p.2)) s) else none
  | .tp _, _ => none
def peek (s : Stt) (i : Nat) : Option D :=
  match s.ρ[i]? with
  | some (.d x) => some x
  | some (.own xs) => some (.lst xs)
  | _ => none
def rngOk (i j : Int) : Bool := decide (-(2 ^ 62) ≤ i) && decide (i < 2 ^ 62) && decide (-(2 ^ 62) ≤ j) && decide (j < 2 ^ 62)
def rngL (i j : Int) : List D := (List.range (j - i).toNat).map fun k => .int (i + (k : Nat))
/-- what is walked -/
def srcL (k : Sk) (xs : List D) : Option (List D) :=
  match k, xs with
  | .seq, [.lst xs] => some xs
  | .seq, [.tup xs] => some xs
  | .rng, [.int j] => if rngOk 0 j then some (rngL 0 j) else none
  | .rng, [.int i, .int j] => if rngOk i j then some (rngL i j) else none
  | .zip, [.lst xs, .lst ys] => some ((xs.zip ys).map fun p => .tup [p.1, p.2])
  | .zip, [.tup xs, .tup ys] => some ((xs.zip ys).map fun p => .tup [p.1, p.2])
  | .enum, [.lst xs] => some ((xs.zipIdx).map fun p => .tup [.int p.2, p.1])
  | .enum, [.tup xs] => some ((xs.zipIdx).map fun p => .tup [.int p.2, p.1])
  | .rev, [.lst xs] => some xs.reverse
  | .rev, [.tup xs] => some xs.reverse
  | _, _ => none

inductive Fl where
  | nx | bk | ct | rt (r : R)

/-- the items of a comprehension -/
def compL (f : Stt → Res (Option D)) (t : Tg) (vs : List Nat) : List D → List D → Stt → Res (List D)
  | [], acc, s => .ok acc s
  | x :: xs, acc, s => match bindT t x s with
    | none => .bad
    | some s1 => match f s1 with
      | .ok (some y) s2 => if acc.length < sizeLine then compL f t vs xs (acc ++ [y]) (s2.forget vs) else .bad
      | .ok none s2 => compL f t vs xs acc (s2.forget vs)
      | _ => .bad
def forL (f : Stt → Res Fl) (t : Tg) : List D → Stt → Res Fl
  | [], s => .ok .nx s
  | x :: xs, s => match bindT t x s with
    | none => .bad
    | some s1 => match f s1 with
      | .ok .nx s2 => forL f t xs s2
      | .ok .ct s2 => forL f t xs s2
      | .ok .bk s2 => .ok .nx s2
      | .ok (.rt r) s2 => .ok (.rt r) s2
      | .ex e s2 => .ex e s2
      | .bad => .bad
def whlL (c : Stt → Res Bool) (f : Stt → Res Fl) : Nat → Stt → Res Fl
  | 0, _ => .bad
  | n + 1, s => match c s with
    | .ok false s1 => .ok .nx s1
    | .ok true s1 => match f s1 with
      | .ok .nx s2 => whlL c f n s2
      | .ok .ct s2 => whlL c f n s2
      | .ok .bk s2 => .ok .nx s2
      | .ok (.rt r) s2 => .ok (.rt r) s2
      | .ex e s2 => .ex e s2
      | .bad => .bad
    | .ex e s1 => .ex e s1
    | .bad => .bad
def FR.res (r : FR) (s : Stt) : Res R :=
  match r with
  | .ret r g => .ok r ⟨s.ρ, g⟩
  | .ex e g => .ex e ⟨s.ρ, g⟩
  | .bad => .bad
/-- the rows of an own list of own rows of whole numbers -/
def rowsD (xss : List (List Int)) : List D := xss.map fun xs => .lst (xs.map .int)
def toRows : List D → Option (List (List Int))
  | [] => some []
  | .lst ds :: r => (toInts ds).bind fun ns => (toRows r).map (ns :: ·)
  | _ :: _ => none
/-- len(x), len(x[k]) -/
def len2 (s : Stt) (i : Nat) (k : Option Nat) : Option Int :=
  match s.ρ[i]?, k with
  | some (.own2 xss), none => some xss.length
  | some (.own xs), none => some xs.length
  | some (.own2 xss), some k => (xss[k]?).map fun xs => (xs.length : Int)
  | _, _ => none
/-- an own list of own rows is an own list of rows -/
def dem (s : Stt) (i : Nat) : Stt :=
  match s.ρ[i]? with
  | some (.own2 xss) => s.put i (.own (rowsD xss))
  | _ => s
def isO2 : Cell → Bool
  | .own2 _ => true
  | _ => false
/-- a name's value is handed on: an own list is own no longer -/
def give (i : Nat) (s : Stt) : Res R :=
  match s.ρ[i]? with
  | some (.d x) => .ok (.d x) s
  | some (.own xs) => .ok (.d (.lst xs)) (s.put i (.d (.lst xs)))
  | _ => .bad
/-- to be looked at: an own list stays own -/
def pk (e : E) (f : Stt → Res R) (s : Stt) : Res D :=
  match e with
  | .var i => Res.of (peek s i) s
  | _ => (f s).bind fun r s1 => .ok r.D s1
def tst (e : E) (f : Stt → Res R) (s : Stt) : Res Bool := (pk e f s).bind fun x s1 => Res.of (truth x) s1
def num : D → Option Int
  | .int i => some i
  | _ => none
def revD : D → Option R
  | .lst xs => some (.f xs.reverse)
  | .tup xs => some (.d (.tup xs.reverse))
  | _ => none
section
variable (Φ : FEnv)
mutual
def evE : E → Stt → Res R
  | .var i, s => give i s
  | .k c, s => .ok (.d c) s
  | .bin op a b, s => (pk a (evE a) s).bind fun x s1 => (pk b (evE b) s1).bind fun y s2 => Res.of (binop op x y) s2
  | .cmp op a b, s => (pk a (evE a) s).bind fun x s1 => (pk b (evE b) s1).bind fun y s2 => (Res.of (cmpop op x y) s2).bind fun r s3 => .ok (.d (.bl r)) s3
  | .chain op op' a b c, s => (pk a (evE a) s).bind fun x s1 => (pk b (evE b) s1).bind fun y s2 => (Res.of (cmpop op x y) s2).bind fun r s3 =>
      match r with
      | true => (pk c (evE c) s3).bind fun z s4 => (Res.of (cmpop op' y z) s4).bind fun r s5 => .ok (.d (.bl r)) s5
      | false => .ok (.d (.bl false)) s3
  | .and a b, s => (evE a s).bind fun x s1 => (Res.of (truth x.D) s1).bind fun t s2 => match t with
      | true => evE b s2
      | false => .ok (.d x.D) s2
  | .or a b, s => (evE a s).bind fun x s1 => (Res.of (truth x.D) s1).bind fun t s2 => match t with
      | true => .ok (.d x.D) s2
      | false => evE b s2
  | .not a, s => (tst a (evE a) s).bind fun t s1 => .ok (.d (.bl (!t))) s1
  | .neg a, s => (pk a (evE a) s).bind fun x s1 => (Res.of (num x) s1).bind fun i s2 => .ok (.d (.int (-i))) s2
  | .ife c a b, s => (tst c (evE c) s).bind fun t s1 => match t with
      | true => evE a s1
      | false => evE b s1
  | .tup es, s => (evL es s).bind fun xs s1 => if xs.length ≤ sizeLine then .ok (.d (.tup xs)) s1 else .bad
  | .lst es, s => (evL es s).bind fun xs s1 => if xs.length ≤ sizeLine then .ok (.f xs) s1 else .bad
  | .ix a i, s => (pk a (evE a) s).bind fun x s1 => (pk i (evE i) s1).bind fun y s2 => (Res.of (itemS s2.g x y) s2).bind fun r s3 => .ok (.d r) s3
  | .sl a lo hi, s => (pk a (evE a) s).bind fun x s1 => (evO lo s1).bind fun l s2 => (evO hi s2).bind fun h s3 => Res.of (slice x l h) s3
  | .rvs a, s => (pk a (evE a) s).bind fun x s1 => Res.of (revD x) s1
  | .call f es, s => (evL es s).bind fun xs s1 => (Φ f xs s1.g).res s1
  | .blt b es, s => (evPs es s).bind fun xs s1 => Res.of (blt b xs) s1
  | .isi a t, s => (pk a (evE a) s).bind fun x s1 => (Res.of (isTy x t) s1).bind fun r s2 => .ok (.d (.bl r)) s2
  | .comp vs t k src c elt, s => (evPs src s).bind fun xs s1 => (Res.of (srcL k xs) s1).bind fun is s2 =>
      (compL (fun s => (evO1 c s).bind fun b s3 => match b with
        | true => (evE elt s3).bind fun y s4 => .ok (some y.D) s4
        | false => .ok none s3) t vs is [] (s2.forget vs)).bind fun ys s3 => .ok (.f ys) s3
  | .mt kvs, s => .ok (.d (.edic kvs)) s
  | .len2 i k, s => (Res.of (len2 s i k) s).bind fun n s1 => .ok (.d (.int n)) s1
  | .lrng es, s => (evPs es s).bind fun xs s1 => (Res.of (srcL .rng xs) s1).bind fun is s2 => if is.length ≤ sizeLine then .ok (.f is) s2 else .bad
def evO1 : Option E → Stt → Res Bool
  | none, s => .ok true s
  | some c, s => tst c (evE c) s
def evO : Option E → Stt → Res (Option Int)
  | none, s => .ok none s
  | some e, s => (pk e (evE e) s).bind fun x s1 => (Res.of (num x) s1).bind fun i s2 => .ok (some i) s2
def evL : List E → Stt → Res (List D)
  | [], s => .ok [] s
  | e :: es, s => (evE e s).bind fun x s1 => (evL es s1).bind fun xs s2 => .ok (x.D :: xs) s2
def evPs : List E → Stt → Res (List D)
  | [], s => .ok [] s
  | e :: es, s => (pk e (evE e) s).bind fun x s1 => (evPs es s1).bind fun xs s2 => .ok (x :: xs) s2
end

/-- a name is stored -/
def setT (t : Tg) (r : R) (s : Stt) : Option Stt :=
  match t, r with
  | .nm i, .f xs => if i < s.ρ.length then some (s.put i (.own xs)) else none
  | .nm i, .d x => some (s.put i (.d x))
  | .tp is, r => bindT (.tp is) r.D s
/-- an own list -/
def ownAt (s : Stt) (i : Nat) : Option (List D) :=
  match s.ρ[i]? with
  | some (.own xs) => some xs
  | _ => none
def lstOf : D → Option (List D)
  | .lst xs => some xs
  | _ => none
def setAt (xs : List D) (k : D) (v : D) : Option (List D) :=
  match k with
  | .int i => (ixN xs.length i).map fun j => xs.set j v
  | _ => none
def setH (g : Hand) (k v : D) : Option Hand :=
  match k, v with
  | .int k, .int v => handSet g k v
  | _, _ => none
mutual
def hvE (e : Exc) (s : Stt) : HE → Option D
  | .k c => some c
  | .fld n => e.fs[n]?
  | .isx is => some (.bl (decide (e.c ∈ is)))
  | .var i => peek s i
  | .rpr n => match e.fs[n]? with
    | some x => (blt .repr [x]).map R.D
    | none => none
  | .and a b => match hvE e s a with
    | some (.bl true) => hvE e s b
    | some (.bl false) => some (.bl false)
    | _ => none
  | .lst es => (hvL e s es).bind fun xs => if xs.length ≤ sizeLine then some (.lst xs) else none
  | .tup es => (hvL e s es).bind fun xs => if xs.length ≤ sizeLine then some (.tup xs) else none
def hvL (e : Exc) (s : Stt) : List HE → Option (List D)
  | [] => some []
  | h :: hs => match hvE e s h with
    | some x => (hvL e s hs).map (x :: ·)
    | none => none
end
/-- an except suite -/
def evHA (e : Exc) : List HA → Stt → Res Fl
  | [], s => .ok .nx s
  | .set i h :: r, s => (Res.of (hvE e s h) s).bind fun x s1 => evHA e r (s1.put i (.d x))
  | .ret h :: _, s => (Res.of (hvE e s h) s).bind fun x s1 => .ok (.rt (.d x)) s1
  | .pss :: r, s => evHA e r s
  | .cnt :: _, s => .ok .ct s
  | .brk :: _, s => .ok .bk s
def evH (e : Exc) (s : Stt) : List Hd → Res Fl
  | [] => .ex e s
  | h :: hs => if e.c ∈ h.is then (match h.n with
    | some i => if i < s.ρ.length then (evHA e h.as (s.put i .no)).bind fun f s2 => .ok f (s2.put i .no) else .bad
    | none => evHA e h.as s) else evH e s hs
/-- an item of an own list, by a place from 0 on -/
def itemNn (xs : List D) (k : D) : Option D :=
  match k with
  | .int k => if 0 ≤ k then xs[k.toNat]? else none
  | _ => none
def augOp (op : Operator) (x y : D) : Option D :=
  match op, x, y with
  | .Add, .int a, .int b => some (.int (a + b))
  | .Sub, .int a, .int b => some (.int (a - b))
  | _, _, _ => none
variable (w : Nat)
mutual
def evS : S → Stt → Res Fl
  | .set t e, s => (evE Φ e s).bind fun r s1 => (Res.of (setT t r s1) s1).bind fun s2 _ => .ok .nx s2
  | .par i j a b, s => (evL Φ [a, b] s).bind fun xs s1 => match xs with
      | [x, y] => .ok .nx ((s1.put i (.d x)).put j (.d y))
      | _ => .bad
  | .app i e, s => (Res.of (ownAt s i) s).bind fun _ s0 => (evE Φ e s0).bind fun r s1 => (Res.of (ownAt s1 i) s1).bind fun xs s2 =>
      if xs.length < sizeLine then .ok .nx (s2.put i (.own (xs ++ [r.D]))) else .bad
  | .ext i e, s => (Res.of (ownAt s i) s).bind fun _ s0 => (evE Φ e s0).bind fun r s1 => (Res.of (ownAt s1 i) s1).bind fun xs s2 => (Res.of (lstOf r.D) s2).bind fun ys s3 =>
      if xs.length + ys.length ≤ sizeLine then .ok .nx (s3.put i (.own (xs ++ ys))) else .bad
  | .six i k e, s => (evE Φ e s).bind fun r s1 => match s1.ρ[i]? with
      | some (.own _) => (pk k (evE Φ k) s1).bind fun kd s2 => (Res.of (ownAt s2 i) s2).bind fun xs s3 => (Res.of (setAt xs kd r.D) s3).bind fun ys s4 => .ok .nx (s4.put i (.own ys))
      | some (.d .hand) => (pk k (evE Φ k) s1).bind fun kd s2 => (Res.of (setH s2.g kd r.D) s2).bind fun g s3 => .ok .nx ⟨s3.ρ, g⟩
      | _ => .bad
  | .sixa i op k e, s => (Res.of (ownAt s i) s).bind fun _ s0 => (pk k (evE Φ k) s0).bind fun kd s1 => (Res.of (ownAt s1 i) s1).bind fun xs s2 => (Res.of (itemNn xs kd) s2).bind fun old s3 => (pk e (evE Φ e) s3).bind fun y s4 =>
      (Res.of (augOp op old y) s4).bind fun v s5 => (Res.of (ownAt s5 i) s5).bind fun ys s6 => (Res.of (setAt ys kd v) s6).bind fun zs s7 => .ok .nx (s7.put i (.own zs))
  | .aug i op e, s => (Res.of (peek s i) s).bind fun x s1 => (pk e (evE Φ e) s1).bind fun y s2 => (Res.of (num x) s2).bind fun _ s3 =>
      (Res.of (binop op x y) s3).bind fun r s4 => .ok .nx (s4.put i (.d r.D))
  | .exp e, s => (evE Φ e s).bind fun _ s1 => .ok .nx s1
  | .ret (.var i), s => match s.ρ[i]? with
      | some (.own xs) => .ok (.rt (.f xs)) (s.put i .no)
      | some (.d x) => .ok (.rt (.d x)) s
      | _ => .bad
  | .ret e, s => (evE Φ e s).bind fun r s1 => .ok (.rt r) s1
  | .retN, s => .ok (.rt (.d .non)) s
  | .new2 i r j, s => match s.ρ[r]? with
      | some (.d (.lst ds)) => (Res.of (toRows ds) s).bind fun xss s1 => if i < s1.ρ.length ∧ j < s1.ρ.length ∧ s1.ρ.any isO2 = false ∧ xss.length ≤ sizeLine then .ok .nx (s1.put i (.own2 xss)) else .bad
      | _ => .bad
  | .six2 i k1 k2 e, s => (evE Φ e s).bind fun r s1 => match s1.ρ[i]?, s1.ρ[k1]?, s1.ρ[k2]? with
      | some (.own2 xss), some (.d (.int n1)), some (.d (.int n2)) => (Res.of (ixN xss.length n1) s1).bind fun j1 s2 => (Res.of (xss[j1]?) s2).bind fun xs s3 => (Res.of (ixN xs.length n2) s3).bind fun j2 s4 =>
          .ok .nx (s4.put i (.own ((rowsD xss).set j1 (.lst ((xs.map .int).set j2 r.D)))))
      | _, _, _ => .bad
  | .dm i m, s => evS m (dem s i)
  | .ifS c a b, s => (tst c (evE Φ c) s).bind fun t s1 => match t with
      | true => evB a s1
      | false => evB b s1
  | .forS t k src b, s => (evL Φ src s).bind fun xs s1 => (Res.of (srcL k xs) s1).bind fun is s2 => forL (evB b) t is s2
  | .whl c b, s => whlL (tst c (evE Φ c)) (evB b) w s
  | .brk, s => .ok .bk s
  | .cnt, s => .ok .ct s
  | .pss, s => .ok .nx s
  | .bad, _ => .bad
  | .rse c es, s => (evL Φ es s).bind fun xs s1 => .ex ⟨c, xs⟩ s1
  | .tryN b, s => match evB b s with
      | .ok f s1 => .ok f s1
      | _ => .bad
  | .tryS b hs, s => match evB b s with
      | .ex e s1 => evH e s1 hs
      | .ok f s1 => .ok f s1
      | .bad => .bad
def evB : List S → Stt → Res Fl
  | [], s => .ok .nx s
  | c :: cs, s => (evS c s).bind fun f s1 => match f with
      | .nx => evB cs s1
      | f => .ok f s1
end
/-- a def: n its names, b its body -/
def runF (n : Nat) (b : List S) (xs : List D) (g : Hand) : FR :=
  match evB Φ w b ⟨xs.map .d ++ List.replicate (n - xs.length) .no, g⟩ with
  | .ok .nx s => .ret (.d .non) s.g
  | .ok (.rt r) s => .ret r s.g
  | .ex e s => .ex e s.g
  | _ => .bad
end
end PD
namespace PD
open PySem
example (Φ : FEnv) (w : Nat) : evB Φ w [.set (.nm 0) (.bin .Add (.k (.int 1)) (.k (.int 2))), .ret (.var 0)] ⟨[.no], ⟨[], 0, 0, 0⟩⟩ = .ok (.rt (.d (.int 3))) ⟨[.d (.int 3)], ⟨[], 0, 0, 0⟩⟩ := by rfl
end PD

set_option Elab.async false
set_option linter.all false
set_option maxRecDepth 100000
set_option maxHeartbeats 4000000
/-! PyS1: what data is in a heap; the configuration of a def that runs; runs of the evaluator against the heap. -/
namespace PD
open PySem PySem.Spec PyProof.Rows L2

abbrev Fr := PySem.W.Frag
/-! ### hidden places -/
open Classical in
noncomputable def hid (P : Addr → Prop) (H : Hp) : Hp := fun b => if P b then none else H b
theorem hid_no {P : Addr → Prop} {H : Hp} {b : Addr} (h : ¬ P b) : hid P H b = H b := by unfold hid; rw [if_neg h]
theorem hid_yes {P : Addr → Prop} {H : Hp} {b : Addr} (h : P b) : hid P H b = none := by unfold hid; rw [if_pos h]
theorem hid_some {P : Addr → Prop} {H : Hp} {b : Addr} {o : HO} (h : hid P H b = some o) : ¬ P b ∧ H b = some o := by
  by_cases q : P b
  · rw [hid_yes q] at h; cases h
  · exact ⟨q, by rw [hid_no q] at h; exact h⟩
theorem hid_mk {P : Addr → Prop} {H : Hp} {b : Addr} {o : HO} (q : ¬ P b) (h : H b = some o) : hid P H b = some o := by rw [hid_no q]; exact h
theorem same_hid {P P' : Addr → Prop} {H H' : Hp} (h : ∀ b o, ¬ P b → H b = some o → ¬ P' b ∧ H' b = some o) : Same (hid P H) (hid P' H') := fun b o q => by
  obtain ⟨a, e⟩ := hid_some q
  obtain ⟨a', e'⟩ := h b o a e
  exact hid_mk a' e'
theorem same_un {P : Addr → Prop} {H : Hp} : Same (hid P H) H := fun b o q => (hid_some q).2

/-! ### data in a heap -/
mutual
def Dat (K : Fr) (ha : Addr) (H : Hp) : V → D → Prop
  | v, .non => v = .non
  | v, .bl b => v = .bl b
  | v, .int i => v = .int i
  | v, .str x => v = .str x
  | v, .lst ds => ∃ a xs, v = .ref a ∧ H a = some (.lst xs) ∧ Dats K ha H xs ds
  | v, .tup ds => ∃ a xs, v = .ref a ∧ SqT K H a xs ∧ Dats K ha H xs ds
  | v, .hand => v = .ref ha
  | v, .edic kvs => ∃ a, v = .ref a ∧ H a = some (.dK (kvs.map fun p => (.inl p.1, .int p.2)))
def Dats (K : Fr) (ha : Addr) (H : Hp) : List V → List D → Prop
  | [], [] => True
  | v :: vs, d :: ds => Dat K ha H v d ∧ Dats K ha H vs ds
  | [], _ :: _ => False
  | _ :: _, [] => False
end
theorem sqT_same {K : Fr} {H H' : Hp} {a : Addr} {xs : List V} (e : Same H H') (h : SqT K H a xs) : SqT K H' a xs := by
  rcases h with (h | ⟨o, h⟩) | h
  · exact .inl (.inl (e _ _ h))
  · exact .inl (.inr ⟨o, e _ _ h⟩)
  · exact .inr h
section
variable {K : Fr} {ha : Addr} {H H' : Hp}
mutual
theorem Dat.mono (e : Same H H') : ∀ (d : D) (v : V), Dat K ha H v d → Dat K ha H' v d
  | .non, _, h => by unfold Dat at h ⊢; exact h
  | .bl _, _, h => by unfold Dat at h ⊢; exact h
  | .int _, _, h => by unfold Dat at h ⊢; exact h
  | .str _, _, h => by unfold Dat at h ⊢; exact h
  | .lst ds, _, h => by
    unfold Dat at h ⊢
    obtain ⟨a, xs, r, q, t⟩ := h
    exact ⟨a, xs, r, e _ _ q, Dats.mono e ds xs t⟩
  | .tup ds, _, h => by
    unfold Dat at h ⊢
    obtain ⟨a, xs, r, q, t⟩ := h
    exact ⟨a, xs, r, sqT_same e q, Dats.mono e ds xs t⟩
  | .hand, _, h => by unfold Dat at h ⊢; exact h
  | .edic _, _, h => by
    unfold Dat at h ⊢
    obtain ⟨a, r, q⟩ := h
    exact ⟨a, r, e _ _ q⟩
theorem Dats.mono (e : Same H H') : ∀ (ds : List D) (vs : List V), Dats K ha H vs ds → Dats K ha H' vs ds
  | [], [], _ => by unfold Dats; trivial
  | [], _ :: _, h => by unfold Dats at h; exact h.elim
  | _ :: _, [], h => by unfold Dats at h; exact h.elim
  | d :: ds, v :: vs, h => by
    unfold Dats at h ⊢
    exact ⟨Dat.mono e d v h.1, Dats.mono e ds vs h.2⟩
end
theorem Dats.nil : Dats K ha H [] [] := by unfold Dats; trivial
theorem Dats.cons {v : V} {vs : List V} {d : D} {ds : List D} (h : Dat K ha H v d) (t : Dats K ha H vs ds) : Dats K ha H (v :: vs) (d :: ds) := by unfold Dats; exact ⟨h, t⟩
theorem Dats.cons_iff {v : V} {vs : List V} {d : D} {ds : List D} : Dats K ha H (v :: vs) (d :: ds) ↔ Dat K ha H v d ∧ Dats K ha H vs ds := by
  rw [Dats]
theorem Dats.nil_iff {vs : List V} : Dats K ha H vs [] ↔ vs = [] := by
  cases vs with
  | nil => simp [Dats]
  | cons v vs => simp [Dats]
theorem Dats.cons_out {vs : List V} {d : D} {ds : List D} (h : Dats K ha H vs (d :: ds)) : ∃ v vs', vs = v :: vs' ∧ Dat K ha H v d ∧ Dats K ha H vs' ds := by
  cases vs with
  | nil => simp [Dats] at h
  | cons v vs => exact ⟨v, vs, rfl, Dats.cons_iff.mp h⟩
theorem Dats.length : ∀ {ds : List D} {vs : List V}, Dats K ha H vs ds → vs.length = ds.length
  | [], vs, h => by rw [Dats.nil_iff.mp h] <;> rfl
  | d :: ds, vs, h => by
    obtain ⟨v, vs', rfl, _, t⟩ := h.cons_out
    simp [Dats.length t]
theorem Dats.get : ∀ {ds : List D} {vs : List V} {i : Nat} {d : D}, Dats K ha H vs ds → ds[i]? = some d → ∃ v, vs[i]? = some v ∧ Dat K ha H v d
  | [], _, _, _, _, e => by simp at e
  | x :: ds, vs, i, d, h, e => by
    obtain ⟨v, vs', rfl, h1, t⟩ := h.cons_out
    cases i with
    | zero => simp at e; subst e; exact ⟨v, rfl, h1⟩
    | succ i => simpa using Dats.get t (by simpa using e)
theorem Dats.append : ∀ {ds : List D} {vs : List V} {es : List D} {ws : List V}, Dats K ha H vs ds → Dats K ha H ws es → Dats K ha H (vs ++ ws) (ds ++ es)
  | [], vs, _, _, h, q => by rw [Dats.nil_iff.mp h]; exact q
  | d :: ds, vs, _, _, h, q => by
    obtain ⟨v, vs', rfl, h1, t⟩ := h.cons_out
    exact Dats.cons h1 (Dats.append t q)
theorem Dats.drop : ∀ {ds : List D} {vs : List V} (n : Nat), Dats K ha H vs ds → Dats K ha H (vs.drop n) (ds.drop n)
  | _, _, 0, h => h
  | [], vs, n + 1, h => by rw [Dats.nil_iff.mp h]; exact Dats.nil
  | d :: ds, vs, n + 1, h => by
    obtain ⟨v, vs', rfl, h1, t⟩ := h.cons_out
    exact Dats.drop n t
theorem Dats.take : ∀ {ds : List D} {vs : List V} (n : Nat), Dats K ha H vs ds → Dats K ha H (vs.take n) (ds.take n)
  | _, _, 0, h => by simp; exact Dats.nil
  | [], vs, n + 1, h => by rw [Dats.nil_iff.mp h]; exact Dats.nil
  | d :: ds, vs, n + 1, h => by
    obtain ⟨v, vs', rfl, h1, t⟩ := h.cons_out
    exact Dats.cons h1 (Dats.take n t)
theorem Dats.set {v : V} {d : D} (q : Dat K ha H v d) : ∀ {ds : List D} {vs : List V} (n : Nat), Dats K ha H vs ds → Dats K ha H (vs.set n v) (ds.set n d)
  | [], vs, n, h => by rw [Dats.nil_iff.mp h]; exact Dats.nil
  | x :: ds, vs, n, h => by
    obtain ⟨w, vs', rfl, h1, t⟩ := h.cons_out
    cases n with
    | zero => exact Dats.cons q t
    | succ n => exact Dats.cons h1 (Dats.set q n t)
theorem Dats.reverse : ∀ {ds : List D} {vs : List V}, Dats K ha H vs ds → Dats K ha H vs.reverse ds.reverse
  | [], vs, h => by rw [Dats.nil_iff.mp h]; exact Dats.nil
  | d :: ds, vs, h => by
    obtain ⟨v, vs', rfl, h1, t⟩ := h.cons_out
    rw [List.reverse_cons, List.reverse_cons]
    exact Dats.append (Dats.reverse t) (Dats.cons h1 Dats.nil)
theorem Dats.rep {ds : List D} {vs : List V} (h : Dats K ha H vs ds) : ∀ n : Nat, Dats K ha H (List.replicate n vs).flatten (List.replicate n ds).flatten
  | 0 => Dats.nil
  | n + 1 => by
    rw [List.replicate_succ, List.replicate_succ, List.flatten_cons, List.flatten_cons]
    exact Dats.append h (Dats.rep h n)
theorem Dats.ints : ∀ {ds : List D} {vs : List V} {ns : List Int}, Dats K ha H vs ds → toInts ds = some ns → vs = ns.map V.int
  | [], vs, ns, h, e => by
    rw [Dats.nil_iff.mp h]
    have e' : ([] : List Int) = ns := Option.some.inj e
    subst e'; rfl
  | d :: ds, vs, ns, h, e => by
    obtain ⟨v, vs', rfl, h1, t⟩ := h.cons_out
    cases d with
    | int i =>
      simp only [PD.toInts, Option.map_eq_some_iff] at e
      obtain ⟨ms, e1, rfl⟩ := e
      simp only [Dat] at h1
      subst h1
      rw [Dats.ints t e1]; rfl
    | _ => cases e
theorem Dats.bools : ∀ {ds : List D} {vs : List V} {ns : List Bool}, Dats K ha H vs ds → toBools ds = some ns → vs = ns.map V.bl
  | [], vs, ns, h, e => by
    rw [Dats.nil_iff.mp h]
    have e' : ([] : List Bool) = ns := Option.some.inj e
    subst e'; rfl
  | d :: ds, vs, ns, h, e => by
    obtain ⟨v, vs', rfl, h1, t⟩ := h.cons_out
    cases d with
    | bl i =>
      simp only [PD.toBools, Option.map_eq_some_iff] at e
      obtain ⟨ms, e1, rfl⟩ := e
      simp only [Dat] at h1
      subst h1
      rw [Dats.bools t e1]; rfl
    | _ => cases e
theorem Dats.of_ints : ∀ ns : List Int, Dats K ha H (ns.map V.int) (ns.map D.int)
  | [] => Dats.nil
  | n :: ns => Dats.cons (by unfold Dat; rfl) (Dats.of_ints ns)
theorem dat_int {v : V} {i : Int} : Dat K ha H v (.int i) ↔ v = .int i := by rw [Dat]
theorem dat_bl {v : V} {i : Bool} : Dat K ha H v (.bl i) ↔ v = .bl i := by rw [Dat]
theorem dat_str {v : V} {i : Str} : Dat K ha H v (.str i) ↔ v = .str i := by rw [Dat]
theorem dat_non {v : V} : Dat K ha H v .non ↔ v = .non := by rw [Dat]
theorem dat_hand {v : V} : Dat K ha H v .hand ↔ v = .ref ha := by rw [Dat]
theorem dat_lst {v : V} {ds : List D} : Dat K ha H v (.lst ds) ↔ ∃ a xs, v = .ref a ∧ H a = some (.lst xs) ∧ Dats K ha H xs ds := by rw [Dat]
theorem dat_tup {v : V} {ds : List D} : Dat K ha H v (.tup ds) ↔ ∃ a xs, v = .ref a ∧ SqT K H a xs ∧ Dats K ha H xs ds := by rw [Dat]
theorem dat_edic {v : V} {kvs : List (Int × Int)} : Dat K ha H v (.edic kvs) ↔ ∃ a, v = .ref a ∧ H a = some (.dK (kvs.map fun p => (.inl p.1, .int p.2))) := by rw [Dat]
end

/-! ### a def that runs -/
/-- lists that are made (by comprehensions), the rows of the own list of own rows at a slot -/
structure Yl where
  l : List Addr
  o : Nat
  b : List Addr
def Yl.all (y : Yl) : List Addr := y.l ++ y.b
/-- ha: the hand's list, ca: the list of its cells; P0, H0: what was hidden and what stood at the entry; A: the own lists by their slots; x: a list just made; y: the lists that comprehensions make -/
structure Cf where
  ha : Addr
  ca : Addr
  P0 : Addr → Prop
  H0 : Hp
  A : Nat → Option Addr
  x : Option Addr
  y : Yl
def Cf.P (c : Cf) (b : Addr) : Prop := b = c.ha ∨ c.P0 b ∨ (∃ i, c.A i = some b) ∨ c.x = some b ∨ b ∈ c.y.all
/-- what is owned -/
def ownC : List D ⊕ List (List Int) → Cell
  | .inl xs => .own xs
  | .inr xss => .own2 xss
def CelOk (K : Fr) (c : Cf) (H : Hp) (i : Nat) : Option Cell → Option (Option V) → Prop
  | some (.d x), some (some v) => Dat K c.ha (hid c.P H) v x
  | some (.d _), _ => False
  | some (.own xs), some (some v) => ∃ a vs, v = .ref a ∧ c.A i = some a ∧ H a = some (.lst vs) ∧ Dats K c.ha (hid c.P H) vs xs
  | some (.own _), _ => False
  | some (.own2 xss), some (some v) => ∃ a, v = .ref a ∧ c.A i = some a ∧ c.y.o = i ∧ (c.y.b.Nodup ∧ ∀ b ∈ c.y.b, b ∉ c.y.l) ∧ H a = some (.lst (c.y.b.map .ref)) ∧ c.y.b.length = xss.length ∧ ∀ (k : Nat) xs, xss[k]? = some xs → ∃ b, c.y.b[k]? = some b ∧ H b = some (.lst (xs.map V.int))
  | some (.own2 _), _ => False
  | some .no, _ => True
  | none, _ => True
def HandOk (ha ca : Addr) (H : Hp) (g : Hand) : Prop :=
  H ha = some (.lst [.ref ca, .int g.ix, .int g.rest, .int g.total]) ∧ H ca = some (.lst (g.cells.map V.int)) ∧ ca ≠ ha
structure Rel (K : Fr) (c : Cf) (s : Stt) (σ : L2.St) (H : Hp) : Prop where
  len : s.ρ.length = σ.length
  cel : ∀ i, CelOk K c H i s.ρ[i]? σ[i]?
  hnd : HandOk c.ha c.ca H s.g
  hca : ¬ c.P c.ca
  inj : ∀ i j a, c.A i = some a → c.A j = some a → i = j
  own : ∀ i a, c.A i = some a → ∃ o, s.ρ[i]? = some (ownC o)
  new : ∀ a, ((∃ i, c.A i = some a) ∨ c.x = some a) → c.H0 a = none ∧ a ≠ c.ha ∧ ¬ c.P0 a
  xne : ∀ i a, c.A i = some a → c.x ≠ some a
  keep : ∀ b o, b ≠ c.ha → c.H0 b = some o → H b = some o
  p0 : ∀ b, c.P0 b → ∃ o, c.H0 b = some o
  cah : ∃ o, c.H0 c.ca = some o
  hah : ∃ o, c.H0 c.ha = some o
  xh : ∀ p, c.x = some p → ∃ vs, H p = some (.lst vs)
  yy : ∀ a ∈ c.y.all, c.H0 a = none ∧ a ≠ c.ha ∧ ¬ c.P0 a ∧ (∀ i, c.A i ≠ some a) ∧ c.x ≠ some a ∧ ∃ vs, H a = some (.lst vs)

/-- one expression further -/
structure XS (c : Cf) (H : Hp) (c' : Cf) (H' : Hp) : Prop where
  ha : c'.ha = c.ha
  ca : c'.ca = c.ca
  P0 : c'.P0 = c.P0
  H0 : c'.H0 = c.H0
  y : c'.y = c.y
  same : Same (hid c.P H) (hid c'.P H')
  ext : ∀ b o, b ≠ c.ha → H b = some o → H' b = some o
theorem XS.refl {c : Cf} {H : Hp} : XS c H c H := ⟨rfl, rfl, rfl, rfl, rfl, fun _ _ h => h, fun _ _ _ h => h⟩
theorem XS.trans {c c1 c2 : Cf} {H H1 H2 : Hp} (a : XS c H c1 H1) (b : XS c1 H1 c2 H2) : XS c H c2 H2 :=
  ⟨b.ha.trans a.ha, b.ca.trans a.ca, b.P0.trans a.P0, b.H0.trans a.H0, b.y.trans a.y, a.same.trans b.same, fun p o h q => b.ext p o (by rw [a.ha]; exact h) (a.ext p o h q)⟩

theorem Rel.P_some {K : Fr} {c : Cf} {s : Stt} {σ : L2.St} {H : Hp} (r : Rel K c s σ H) {b : Addr} (h : c.P b) : ∃ o, H b = some o := by
  rcases h with h | h | ⟨i, h⟩ | h | h
  · rw [h]; exact ⟨_, r.hnd.1⟩
  · obtain ⟨o, e⟩ := r.p0 b h
    by_cases q : b = c.ha
    · rw [q]; exact ⟨_, r.hnd.1⟩
    · exact ⟨o, r.keep b o q e⟩
  · obtain ⟨o, e⟩ := r.own i b h
    have q := r.cel i
    rw [e] at q
    cases o with
    | inr xss =>
      show ∃ o, H b = some o
      have q : CelOk K c H i (some (.own2 xss)) σ[i]? := q
      unfold CelOk at q
      split at q
      · cases ‹some (Cell.own2 xss) = _›
      · cases ‹some (Cell.own2 xss) = _›
      · cases ‹some (Cell.own2 xss) = _›
      · cases ‹some (Cell.own2 xss) = _›
      · obtain ⟨a, _, e1, _, _, e2, _⟩ := q
        rw [h] at e1
        have e1' := Option.some.inj e1
        rw [e1']
        exact ⟨_, e2⟩
      · exact q.elim
      · cases ‹some (Cell.own2 xss) = _›
      · cases ‹some (Cell.own2 xss) = none›
    | inl xs =>
    have q : CelOk K c H i (some (.own xs)) σ[i]? := q
    unfold CelOk at q
    split at q
    · cases ‹some (Cell.own xs) = _›
    · cases ‹some (Cell.own xs) = _›
    · obtain ⟨a, vs, _, e1, e2, _⟩ := q
      rw [h] at e1
      have e1' := Option.some.inj e1
      rw [e1']
      exact ⟨_, e2⟩
    · exact q.elim
    · cases ‹some (Cell.own xs) = _›
    · cases ‹some (Cell.own xs) = _›
    · cases ‹some (Cell.own xs) = _›
    · cases ‹some (Cell.own xs) = none›
  · obtain ⟨vs, e⟩ := r.xh b h
    exact ⟨_, e⟩
  · obtain ⟨_, _, _, _, _, vs, e⟩ := r.yy b h
    exact ⟨_, e⟩
theorem Rel.fresh {K : Fr} {c : Cf} {s : Stt} {σ : L2.St} {H : Hp} (r : Rel K c s σ H) {b : Addr} (h : H b = none) : ¬ c.P b := fun q => by
  obtain ⟨o, e⟩ := r.P_some q
  rw [h] at e; cases e

/-- what may be looked at: data, or an own list -/
def DatP (K : Fr) (c : Cf) (H : Hp) (v : V) : D → Prop
  | .lst ds => ∃ a xs, v = .ref a ∧ a ≠ c.ha ∧ H a = some (.lst xs) ∧ Dats K c.ha (hid c.P H) xs ds
  | d => Dat K c.ha (hid c.P H) v d
theorem DatP.of {K : Fr} {c : Cf} {H : Hp} {v : V} {d : D} (h : Dat K c.ha (hid c.P H) v d) : DatP K c H v d := by
  cases d with
  | lst ds =>
    obtain ⟨a, xs, e, q, t⟩ := dat_lst.mp h
    obtain ⟨n, e2⟩ := hid_some q
    exact ⟨a, xs, e, fun z => n (.inl z), e2, t⟩
  | _ => exact h
theorem DatP.go {K : Fr} {c c' : Cf} {H H' : Hp} {v : V} {d : D} (x : XS c H c' H') (h : DatP K c H v d) : DatP K c' H' v d := by
  cases d with
  | lst ds =>
    obtain ⟨a, xs, e, n, q, t⟩ := h
    exact ⟨a, xs, e, by rw [x.ha]; exact n, x.ext _ _ n q, by rw [x.ha]; exact Dats.mono x.same ds xs t⟩
  | _ =>
    show Dat K c'.ha (hid c'.P H') v _
    rw [x.ha]
    exact Dat.mono x.same _ _ h
end PD

set_option Elab.async false
set_option linter.all false
set_option maxRecDepth 100000
set_option maxHeartbeats 4000000
/-! PyS2: steps of the configuration; runs. -/
namespace PD
open PySem PySem.Spec PyProof.Rows L2

/-- one statement further -/
structure SS (c : Cf) (H : Hp) (c' : Cf) (H' : Hp) : Prop where
  ha : c'.ha = c.ha
  ca : c'.ca = c.ca
  P0 : c'.P0 = c.P0
  H0 : c'.H0 = c.H0
  y : c'.y.l = c.y.l
  same : Same (hid c.P H) (hid c'.P H')
theorem SS.refl {c : Cf} {H : Hp} : SS c H c H := ⟨rfl, rfl, rfl, rfl, rfl, fun _ _ h => h⟩
theorem SS.trans {c c1 c2 : Cf} {H H1 H2 : Hp} (a : SS c H c1 H1) (b : SS c1 H1 c2 H2) : SS c H c2 H2 :=
  ⟨b.ha.trans a.ha, b.ca.trans a.ca, b.P0.trans a.P0, b.H0.trans a.H0, b.y.trans a.y, a.same.trans b.same⟩
theorem XS.ss {c c' : Cf} {H H' : Hp} (x : XS c H c' H') : SS c H c' H' := ⟨x.ha, x.ca, x.P0, x.H0, by rw [x.y], x.same⟩

theorem celOk_d {K : Fr} {c : Cf} {H : Hp} {i : Nat} {x : D} {o : Option (Option V)} : CelOk K c H i (some (.d x)) o ↔ ∃ v, o = some (some v) ∧ Dat K c.ha (hid c.P H) v x := by
  cases o with
  | none => simp [CelOk]
  | some o => cases o <;> simp [CelOk]
theorem celOk_own {K : Fr} {c : Cf} {H : Hp} {i : Nat} {xs : List D} {o : Option (Option V)} :
    CelOk K c H i (some (.own xs)) o ↔ ∃ a vs, o = some (some (.ref a)) ∧ c.A i = some a ∧ H a = some (.lst vs) ∧ Dats K c.ha (hid c.P H) vs xs := by
  cases o with
  | none => simp [CelOk]
  | some o =>
    cases o with
    | none => simp [CelOk]
    | some v =>
      simp only [CelOk]
      constructor
      · rintro ⟨a, vs, rfl, h1, h2, h3⟩
        exact ⟨a, vs, rfl, h1, h2, h3⟩
      · rintro ⟨a, vs, e, h1, h2, h3⟩
        cases e
        exact ⟨a, vs, rfl, h1, h2, h3⟩
theorem celOk_own2 {K : Fr} {c : Cf} {H : Hp} {i : Nat} {xss : List (List Int)} {o : Option (Option V)} :
    CelOk K c H i (some (.own2 xss)) o ↔ ∃ a, o = some (some (.ref a)) ∧ c.A i = some a ∧ c.y.o = i ∧ (c.y.b.Nodup ∧ ∀ b ∈ c.y.b, b ∉ c.y.l) ∧ H a = some (.lst (c.y.b.map .ref)) ∧ c.y.b.length = xss.length ∧ ∀ (k : Nat) xs, xss[k]? = some xs → ∃ b, c.y.b[k]? = some b ∧ H b = some (.lst (xs.map V.int)) := by
  cases o with
  | none => simp [CelOk]
  | some o =>
    cases o with
    | none => simp [CelOk]
    | some v =>
      simp only [CelOk]
      constructor
      · rintro ⟨a, rfl, h⟩
        exact ⟨a, rfl, h⟩
      · rintro ⟨a, e, h⟩
        cases e
        exact ⟨a, rfl, h⟩
theorem celOk_no {K : Fr} {c : Cf} {H : Hp} {i : Nat} {o : Option (Option V)} : CelOk K c H i (some .no) o := by
  cases o <;> simp [CelOk]
theorem celOk_none {K : Fr} {c : Cf} {H : Hp} {i : Nat} {o : Option (Option V)} : CelOk K c H i none o := by
  cases o <;> simp [CelOk]
/-- a cell where what it leans on stays -/
theorem CelOk.go {K : Fr} {c c' : Cf} {H H' : Hp} {i : Nat} {cl : Option Cell} {o : Option (Option V)} (h : CelOk K c H i cl o) (hha : c'.ha = c.ha) (same : Same (hid c.P H) (hid c'.P H'))
    (own : ∀ a vs, c.A i = some a → H a = some (.lst vs) → c'.A i = some a ∧ H' a = some (.lst vs))
    (two : (c'.y.o = c.y.o ∧ c'.y.b = c.y.b ∧ ((∀ b ∈ c.y.b, b ∉ c.y.l) → ∀ b ∈ c.y.b, b ∉ c'.y.l)) ∧ ∀ b ∈ c.y.b, ∀ vs, H b = some (.lst vs) → H' b = some (.lst vs) := by exact ⟨⟨rfl, rfl, id⟩, fun _ _ _ z => z⟩) : CelOk K c' H' i cl o := by
  cases cl with
  | none => exact celOk_none
  | some cl =>
    cases cl with
    | no => exact celOk_no
    | d x =>
      obtain ⟨v, e, q⟩ := celOk_d.mp h
      exact celOk_d.mpr ⟨v, e, by rw [hha]; exact Dat.mono same _ _ q⟩
    | own xs =>
      obtain ⟨a, vs, e, h1, h2, h3⟩ := celOk_own.mp h
      obtain ⟨q1, q2⟩ := own a vs h1 h2
      exact celOk_own.mpr ⟨a, vs, e, q1, q2, by rw [hha]; exact Dats.mono same _ _ h3⟩
    | own2 xss =>
      obtain ⟨a, e, h1, h2, h3, h4, h5, h6⟩ := celOk_own2.mp h
      obtain ⟨q1, q2⟩ := own a _ h1 h4
      obtain ⟨⟨w1, w2, w4⟩, w3⟩ := two
      refine celOk_own2.mpr ⟨a, e, q1, w1.trans h2, ⟨by rw [w2]; exact h3.1, by rw [w2]; exact w4 h3.2⟩, by rw [w2]; exact q2, by rw [w2]; exact h5, fun k xs hk => ?_⟩
      obtain ⟨b, hb, hv⟩ := h6 k xs hk
      exact ⟨b, by rw [w2]; exact hb, w3 b (List.mem_of_getElem? hb) _ hv⟩

section
variable {K : Fr} {c : Cf} {s : Stt} {σ : L2.St} {H H' : Hp}

theorem Rel.yb (r : Rel K c s σ H) {b : Addr} (h : b ∈ c.y.b) : c.H0 b = none ∧ b ≠ c.ha ∧ ¬ c.P0 b ∧ (∀ i, c.A i ≠ some b) ∧ c.x ≠ some b ∧ ∃ vs, H b = some (.lst vs) := r.yy b (List.mem_append_right _ h)
theorem Rel.own_ne (r : Rel K c s σ H) {i : Nat} {a : Addr} (h : c.A i = some a) : a ≠ c.ha := (r.new a (.inl ⟨i, h⟩)).2.1
/-- the heap grows, the hand may be another -/
theorem Rel.grow (r : Rel K c s σ H) {g : Hand} (ext : ∀ b o, b ≠ c.ha → H b = some o → H' b = some o) (hh : HandOk c.ha c.ca H' g) : Rel K c ⟨s.ρ, g⟩ σ H' ∧ XS c H c H' := by
  have same : Same (hid c.P H) (hid c.P H') := same_hid fun b o n q => ⟨n, ext b o (fun z => n (.inl z)) q⟩
  refine ⟨⟨r.len, fun i => (r.cel i).go rfl same (fun a vs h1 h2 => ⟨h1, ext _ _ (r.own_ne h1) h2⟩) ⟨⟨rfl, rfl, id⟩, fun b hb vs z => ext _ _ (r.yb hb).2.1 z⟩, hh, r.hca, r.inj, r.own, r.new, r.xne, fun b o n q => ext b o n (r.keep b o n q), r.p0, r.cah, r.hah, fun p h => ?_, fun a h => ?_⟩, ⟨rfl, rfl, rfl, rfl, rfl, same, ext⟩⟩
  · obtain ⟨vs, e⟩ := r.xh p h
    exact ⟨vs, ext _ _ (r.new p (.inr h)).2.1 e⟩
  · obtain ⟨y0, y1, y2, y3, y4, vs, y5⟩ := r.yy a h
    exact ⟨y0, y1, y2, y3, y4, vs, ext _ _ y1 y5⟩
theorem HandOk.grow {ha ca : Addr} {g : Hand} (h : HandOk ha ca H g) (ext : ∀ b o, H b = some o → H' b = some o) : HandOk ha ca H' g := ⟨ext _ _ h.1, ext _ _ h.2.1, h.2.2⟩
/-- the heap grows by a plain object -/
theorem Rel.new1 (r : Rel K c s σ H) {p : Addr} {o : HO} (hp : H p = none) : Rel K c s σ (upd H p o) ∧ XS c H c (upd H p o) := by
  have ext : ∀ b u, H b = some u → upd H p o b = some u := fun b u q => by rw [upd_ne (ne_of_none q hp)]; exact q
  exact r.grow (g := s.g) (fun b u _ q => ext b u q) (r.hnd.grow ext)
/-- .. by a list that nobody else holds -/
theorem Rel.growx (r : Rel K c s σ H) {g : Hand} {p : Addr} {vs : List V} (hx : c.x = none) (hp : H p = none) (hp' : H' p = some (.lst vs)) (ext : ∀ b o, b ≠ c.ha → H b = some o → H' b = some o) (hh : HandOk c.ha c.ca H' g) :
    Rel K { c with x := some p } ⟨s.ρ, g⟩ σ H' ∧ XS c H { c with x := some p } H' := by
  have nP := r.fresh hp
  have pP : ∀ b, Cf.P { c with x := some p } b ↔ (c.P b ∨ b = p) := fun b => by
    unfold Cf.P
    simp only [hx, Option.some.injEq]
    constructor
    · rintro (h | h | h | h | h)
      · exact .inl (.inl h)
      · exact .inl (.inr (.inl h))
      · exact .inl (.inr (.inr (.inl h)))
      · exact .inr h.symm
      · exact .inl (.inr (.inr (.inr (.inr h))))
    · rintro ((h | h | h | h | h) | h)
      · exact .inl h
      · exact .inr (.inl h)
      · exact .inr (.inr (.inl h))
      · cases h
      · exact .inr (.inr (.inr (.inr h)))
      · exact .inr (.inr (.inr (.inl h.symm)))
  have same : Same (hid c.P H) (hid (Cf.P { c with x := some p }) H') := same_hid fun b o n q => ⟨fun z => by
    rcases (pP b).mp z with z | z
    · exact n z
    · exact ne_of_none q hp z, ext b o (fun z => n (.inl z)) q⟩
  have h0 : c.H0 p = none := by
    cases e : c.H0 p with
    | none => rfl
    | some o =>
      have q := r.keep p o (fun z => by rw [z, r.hnd.1] at hp; cases hp) e
      rw [hp] at q; cases q
  have nha : p ≠ c.ha := fun z => nP (.inl z)
  refine ⟨⟨r.len, fun i => (r.cel i).go rfl same (fun a vs h1 h2 => ⟨h1, ext _ _ (r.own_ne h1) h2⟩) ⟨⟨rfl, rfl, id⟩, fun b hb vs z => ext _ _ (r.yb hb).2.1 z⟩, hh, fun z => ?_, r.inj, r.own, fun a h => ?_, fun i a h z => ?_, fun b o n q => ext b o n (r.keep b o n q), r.p0, r.cah, r.hah, fun q h => ?_, fun a h => ?_⟩, ⟨rfl, rfl, rfl, rfl, rfl, same, ext⟩⟩
  · rcases (pP _).mp z with z | z
    · exact r.hca z
    · have := r.hnd.2.1
      have z' : c.ca = p := z
      rw [z', hp] at this; cases this
  · rcases h with h | h
    · exact r.new a (.inl h)
    · have e : p = a := Option.some.inj h
      subst e
      exact ⟨h0, nha, fun z => nP (.inr (.inl z))⟩
  · have e : p = a := Option.some.inj z
    subst e
    exact nP (.inr (.inr (.inl ⟨i, h⟩)))
  · have e : p = q := Option.some.inj h
    subst e
    exact ⟨vs, hp'⟩
  · obtain ⟨y0, y1, y2, y3, y4, ws, y5⟩ := r.yy a h
    exact ⟨y0, y1, y2, y3, fun z => ne_of_none y5 hp (Option.some.inj z).symm, ws, ext _ _ y1 y5⟩
theorem Rel.newx (r : Rel K c s σ H) {p : Addr} {vs : List V} (hx : c.x = none) (hp : H p = none) : Rel K { c with x := some p } s σ (upd H p (.lst vs)) ∧ XS c H { c with x := some p } (upd H p (.lst vs)) := by
  have ext : ∀ b u, H b = some u → upd H p (.lst vs) b = some u := fun b u q => by rw [upd_ne (ne_of_none q hp)]; exact q
  exact r.growx (g := s.g) hx hp upd_same (fun b u _ q => ext b u q) (r.hnd.grow ext)
/-- P grows smaller -/
theorem Rel.less (r : Rel K c s σ H) {c' : Cf} (e1 : c'.ha = c.ha) (e2 : c'.ca = c.ca) (e3 : c'.P0 = c.P0) (e4 : c'.H0 = c.H0) (hA : c'.A = c.A) (hx : c'.x = none) (hy : c'.y = c.y) : Rel K c' s σ H ∧ XS c H c' H := by
  have pP : ∀ b, c'.P b → c.P b := fun b h => by
    unfold Cf.P at h ⊢
    rw [e1, e3, hA, hx, hy] at h
    rcases h with h | h | h | h | h
    · exact .inl h
    · exact .inr (.inl h)
    · exact .inr (.inr (.inl h))
    · cases h
    · exact .inr (.inr (.inr (.inr h)))
  have same : Same (hid c.P H) (hid c'.P H) := same_hid fun b o n q => ⟨fun z => n (pP b z), q⟩
  refine ⟨⟨r.len, fun i => (r.cel i).go e1 same (fun a vs h1 h2 => ⟨by rw [hA]; exact h1, h2⟩) ⟨⟨by rw [hy], by rw [hy], by rw [hy]; exact id⟩, fun _ _ _ z => z⟩, by rw [e1, e2]; exact r.hnd, fun z => r.hca (by rw [← e2]; exact pP _ z), fun i j a => by rw [hA]; exact r.inj i j a, fun i a => by rw [hA]; exact r.own i a,
    fun a h => ?_, (fun i a _ => by rw [hx]; exact (fun z => by cases z)), fun b o n q => r.keep b o (by rw [← e1]; exact n) (by rw [← e4]; exact q), fun b h => by rw [e4]; exact r.p0 b (by rw [← e3]; exact h), by rw [e2, e4]; exact r.cah, by rw [e1, e4]; exact r.hah, (fun p h => by rw [hx] at h; cases h), fun a h => ?_⟩,
    ⟨e1, e2, e3, e4, hy, same, fun _ _ _ q => q⟩⟩
  · rw [hA, hx] at h
    rcases h with h | h
    · rw [e4, e1, e3]; exact r.new a (.inl h)
    · cases h
  · rw [hy] at h
    rw [e4, e1, e3, hA, hx]
    obtain ⟨y0, y1, y2, y3, y4, y5⟩ := r.yy a h
    exact ⟨y0, y1, y2, y3, (fun z => by cases z), y5⟩
theorem Rel.nox (r : Rel K c s σ H) : Rel K { c with x := none } s σ H ∧ XS c H { c with x := none } H := r.less rfl rfl rfl rfl rfl rfl rfl

/-- an own list is handed on: own no longer -/
def Cf.rid (c : Cf) (i : Nat) : Cf := { c with A := fun j => if j = i then none else c.A j }
theorem Cf.rid_P {i b : Addr} (h : (c.rid i).P b) : c.P b := by
  unfold Cf.P Cf.rid at h
  unfold Cf.P
  rcases h with h | h | ⟨j, h⟩ | h
  · exact .inl h
  · exact .inr (.inl h)
  · by_cases z : j = i
    · simp [z] at h
    · simp [z] at h
      exact .inr (.inr (.inl ⟨j, h⟩))
  · exact .inr (.inr (.inr h))
theorem put_get_ne {s : Stt} {i j : Nat} {cl : Cell} (h : j ≠ i) : (s.put i cl).ρ[j]? = s.ρ[j]? := by
  unfold Stt.put
  exact List.getElem?_set_ne (Ne.symm h)
theorem put_get {s : Stt} {i : Nat} {cl : Cell} (h : i < s.ρ.length) : (s.put i cl).ρ[i]? = some cl := by
  unfold Stt.put
  exact List.getElem?_set_self h
/-- slot i is stored anew (or forgotten): what it owned is let go -/
theorem Rel.rid (r : Rel K c s σ H) {i : Nat} {cl : Cell} {σ' : L2.St} (hl : σ'.length = σ.length) (hs : ∀ j, j ≠ i → σ'[j]? = σ[j]?) (h : CelOk K (c.rid i) H i (some cl) σ'[i]?) (hn : ∀ xs, cl ≠ .own xs) :
    Rel K (c.rid i) (s.put i cl) σ' H ∧ XS c H (c.rid i) H := by
  have same : Same (hid c.P H) (hid (c.rid i).P H) := same_hid fun b o n q => ⟨fun z => n (c.rid_P z), q⟩
  have get : ∀ j a, (c.rid i).A j = some a → j ≠ i ∧ c.A j = some a := fun j a h => by
    unfold Cf.rid at h
    by_cases z : j = i
    · simp [z] at h
    · simp [z] at h
      exact ⟨z, h⟩
  refine ⟨⟨?_, fun j => ?_, r.hnd, fun z => r.hca (c.rid_P z), fun j k a h1 h2 => r.inj j k a (get j a h1).2 (get k a h2).2, fun j a h1 => ?_, fun a h1 => r.new a ?_, fun j a h1 => r.xne j a (get j a h1).2, r.keep, r.p0, r.cah, r.hah, r.xh, fun a h => ?_⟩, ⟨rfl, rfl, rfl, rfl, rfl, same, fun _ _ _ q => q⟩⟩
  · unfold Stt.put; rw [List.length_set, hl]; exact r.len
  · by_cases z : j = i
    · subst z
      by_cases q : j < s.ρ.length
      · rw [put_get q]; exact h
      · rw [List.getElem?_eq_none (by unfold Stt.put; rw [List.length_set]; omega)]
        exact celOk_none
    · rw [put_get_ne z, hs j z]
      refine (r.cel j).go rfl same fun a vs h1 h2 => ⟨?_, h2⟩
      unfold Cf.rid
      simp [z, h1]
  · obtain ⟨z, h2⟩ := get j a h1
    obtain ⟨xs, e⟩ := r.own j a h2
    exact ⟨xs, by rw [put_get_ne z]; exact e⟩
  · rcases h1 with ⟨j, h1⟩ | h1
    · exact .inl ⟨j, (get j a h1).2⟩
    · exact .inr h1
  · obtain ⟨y0, y1, y2, y3, y4, y5⟩ := r.yy a h
    exact ⟨y0, y1, y2, fun j z => y3 j (get j a z).2, y4, y5⟩
theorem Rel.give (r : Rel K c s σ H) {i : Nat} {xs : List D} (e : s.ρ[i]? = some (.own xs)) :
    ∃ v, σ[i]? = some (some v) ∧ Rel K (c.rid i) (s.put i (.d (.lst xs))) σ H ∧ XS c H (c.rid i) H ∧ Dat K (c.rid i).ha (hid (c.rid i).P H) v (.lst xs) := by
  have q := r.cel i
  rw [e] at q
  obtain ⟨a, vs, ev, h1, h2, h3⟩ := celOk_own.mp q
  have nP : ¬ (c.rid i).P a := fun z => by
    obtain ⟨n0, n1, n2⟩ := r.new a (.inl ⟨i, h1⟩)
    unfold Cf.P Cf.rid at z
    rcases z with z | z | ⟨j, z⟩ | z | z
    · exact n1 z
    · exact n2 z
    · by_cases w : j = i
      · simp [w] at z
      · simp [w] at z
        exact w (r.inj j i a z h1)
    · exact r.xne i a h1 z
    · exact (r.yy a z).2.2.2.1 i h1
  have same : Same (hid c.P H) (hid (c.rid i).P H) := same_hid fun b o n q => ⟨fun z => n (c.rid_P z), q⟩
  have dat : Dat K (c.rid i).ha (hid (c.rid i).P H) (.ref a) (.lst xs) := dat_lst.mpr ⟨a, vs, rfl, hid_mk nP h2, Dats.mono same _ _ h3⟩
  obtain ⟨r', x'⟩ := r.rid (i := i) (cl := .d (.lst xs)) (σ' := σ) rfl (fun _ _ => rfl) (celOk_d.mpr ⟨_, ev, dat⟩) (fun _ z => by cases z)
  exact ⟨_, ev, r', x', dat⟩
theorem Rel.get (r : Rel K c s σ H) {i : Nat} {x : D} (e : s.ρ[i]? = some (.d x)) : ∃ v, σ[i]? = some (some v) ∧ Dat K c.ha (hid c.P H) v x := by
  have q := r.cel i
  rw [e] at q
  exact celOk_d.mp q
/-- looking at a slot -/
theorem Rel.peek (r : Rel K c s σ H) {i : Nat} {x : D} (e : peek s i = some x) : ∃ v, σ[i]? = some (some v) ∧ DatP K c H v x := by
  unfold PD.peek at e
  split at e
  · rename_i y h
    cases e
    obtain ⟨v, h1, h2⟩ := r.get h
    exact ⟨v, h1, DatP.of h2⟩
  · rename_i ys h
    cases e
    have q := r.cel i
    rw [h] at q
    obtain ⟨a, vs, ev, h1, h2, h3⟩ := celOk_own.mp q
    exact ⟨_, ev, a, vs, rfl, r.own_ne h1, h2, h3⟩
  · cases e
/-- slot i is given data -/
theorem Rel.store (r : Rel K c s σ H) {i : Nat} {x : D} {v : V} (h : Dat K c.ha (hid c.P H) v x) : Rel K (c.rid i) (s.put i (.d x)) (σ.set i (some v)) H ∧ XS c H (c.rid i) H := by
  have same : Same (hid c.P H) (hid (c.rid i).P H) := same_hid fun b o n q => ⟨fun z => n (c.rid_P z), q⟩
  by_cases hi : i < σ.length
  · exact r.rid (i := i) (cl := .d x) (σ' := σ.set i (some v)) (List.length_set) (fun j hj => List.getElem?_set_ne (Ne.symm hj)) (celOk_d.mpr ⟨v, List.getElem?_set_self hi, Dat.mono same _ _ h⟩) (fun _ z => by cases z)
  · have e1 : σ.set i (some v) = σ := List.set_eq_of_length_le (by omega)
    have e2 : s.put i (.d x) = s.put i .no := by
      have hl := r.len
      unfold Stt.put
      rw [List.set_eq_of_length_le (by omega), List.set_eq_of_length_le (by omega)]
    rw [e1, e2]
    exact r.rid (i := i) (cl := .no) rfl (fun _ _ => rfl) celOk_no (fun _ z => by cases z)
/-- slot i is forgotten -/
theorem Rel.forget1 (r : Rel K c s σ H) (i : Nat) : Rel K (c.rid i) (s.put i .no) σ H ∧ XS c H (c.rid i) H :=
  r.rid (i := i) (cl := .no) rfl (fun _ _ => rfl) celOk_no (fun _ z => by cases z)
/-- slot i is given a list that nobody else holds -/
theorem Rel.storex (r : Rel K c s σ H) {i : Nat} {p : Addr} {xs : List D} {vs : List V} (hi : i < σ.length) (hx : c.x = some p) (hp : H p = some (.lst vs)) (h : Dats K c.ha (hid c.P H) vs xs) :
    ∃ c', Rel K c' (s.put i (.own xs)) (σ.set i (some (.ref p))) H ∧ XS c H c' H ∧ c'.x = none := by
  refine ⟨{ c with A := fun j => if j = i then some p else c.A j, x := none }, ?_⟩
  have pP : ∀ b, Cf.P { c with A := fun j => if j = i then some p else c.A j, x := none } b → c.P b := fun b z => by
    unfold Cf.P at z ⊢
    rcases z with z | z | ⟨j, z⟩ | z | z
    · exact .inl z
    · exact .inr (.inl z)
    · by_cases w : j = i
      · simp [w] at z
        exact .inr (.inr (.inr (.inl (by rw [hx, z]))))
      · simp [w] at z
        exact .inr (.inr (.inl ⟨j, z⟩))
    · cases z
    · exact .inr (.inr (.inr (.inr z)))
  have same : Same (hid c.P H) (hid (Cf.P { c with A := fun j => if j = i then some p else c.A j, x := none }) H) := same_hid fun b o n q => ⟨fun z => n (pP b z), q⟩
  have hl := r.len
  have get : ∀ j a, (if j = i then some p else c.A j) = some a → (j = i ∧ a = p) ∨ (j ≠ i ∧ c.A j = some a) := fun j a h => by
    by_cases z : j = i
    · simp [z] at h
      exact .inl ⟨z, h.symm⟩
    · simp [z] at h
      exact .inr ⟨z, h⟩
  have pn : ∀ j, c.A j ≠ some p := fun j z => r.xne j p z hx
  refine ⟨⟨?_, fun j => ?_, r.hnd, fun z => r.hca (pP _ z), fun j k a h1 h2 => ?_, fun j a h1 => ?_, fun a h1 => r.new a ?_, (fun j a _ z => by cases z), r.keep, r.p0, r.cah, r.hah, (fun _ z => by cases z), fun a h => ?_⟩, ⟨rfl, rfl, rfl, rfl, rfl, same, fun _ _ _ q => q⟩, rfl⟩
  · unfold Stt.put; rw [List.length_set, List.length_set]; exact hl
  · by_cases z : j = i
    · subst z
      rw [put_get (by omega), List.getElem?_set_self hi]
      exact celOk_own.mpr ⟨p, vs, rfl, by simp, hp, Dats.mono same _ _ h⟩
    · rw [put_get_ne z, List.getElem?_set_ne (Ne.symm z)]
      exact (r.cel j).go rfl same fun a vs h1 h2 => ⟨by simp [z, h1], h2⟩
  · rcases get j a h1 with ⟨z1, e1⟩ | ⟨z1, e1⟩ <;> rcases get k a h2 with ⟨z2, e2⟩ | ⟨z2, e2⟩
    · rw [z1, z2]
    · rw [e1] at e2; exact absurd e2 (pn k)
    · rw [e2] at e1; exact absurd e1 (pn j)
    · exact r.inj j k a e1 e2
  · rcases get j a h1 with ⟨z1, e1⟩ | ⟨z1, e1⟩
    · subst z1
      exact ⟨.inl xs, put_get (by omega)⟩
    · obtain ⟨ys, e⟩ := r.own j a e1
      exact ⟨ys, by rw [put_get_ne z1]; exact e⟩
  · rcases h1 with ⟨j, h1⟩ | h1
    · rcases get j a h1 with ⟨z1, e1⟩ | ⟨z1, e1⟩
      · exact .inr (by rw [hx, e1])
      · exact .inl ⟨j, e1⟩
    · cases h1
  · obtain ⟨y0, y1, y2, y3, y4, y5⟩ := r.yy a h
    refine ⟨y0, y1, y2, fun j z => ?_, (fun z => by cases z), y5⟩
    rcases get j a z with ⟨_, e1⟩ | ⟨_, e1⟩
    · exact y4 (by rw [hx, e1])
    · exact y3 j e1
/-- an own list is changed -/
theorem Rel.write (r : Rel K c s σ H) {i : Nat} {xs : List D} (hx : c.x = none) (e : s.ρ[i]? = some (.own xs)) :
    ∃ a vs, σ[i]? = some (some (.ref a)) ∧ a ≠ c.ha ∧ H a = some (.lst vs) ∧ Dats K c.ha (hid c.P H) vs xs ∧
      ∀ ys ws, Dats K c.ha (hid c.P H) ws ys → Rel K c (s.put i (.own ys)) σ (upd H a (.lst ws)) ∧ SS c H c (upd H a (.lst ws)) := by
  have q := r.cel i
  rw [e] at q
  obtain ⟨a, vs, ev, h1, h2, h3⟩ := celOk_own.mp q
  obtain ⟨n0, n1, n2⟩ := r.new a (.inl ⟨i, h1⟩)
  refine ⟨a, vs, ev, n1, h2, h3, fun ys ws hd => ?_⟩
  have same : Same (hid c.P H) (hid c.P (upd H a (.lst ws))) := same_hid fun b o n q => ⟨n, by
    rw [upd_ne (fun z => n (.inr (.inr (.inl ⟨i, by rw [z]; exact h1⟩))))]; exact q⟩
  have hi : i < s.ρ.length := (List.getElem?_eq_some_iff.mp e).1
  refine ⟨⟨?_, fun j => ?_, ⟨by rw [upd_ne (Ne.symm n1)]; exact r.hnd.1, ?_, r.hnd.2.2⟩, r.hca, r.inj, fun j b h => ?_, r.new, r.xne, fun b o n q => ?_, r.p0, r.cah, r.hah, (fun p h => by rw [hx] at h; cases h), fun b h => ?_⟩, ⟨rfl, rfl, rfl, rfl, rfl, same⟩⟩
  · unfold Stt.put; rw [List.length_set]; exact r.len
  · by_cases z : j = i
    · subst z
      rw [put_get hi]
      exact celOk_own.mpr ⟨a, ws, ev, h1, upd_same, Dats.mono same _ _ hd⟩
    · rw [put_get_ne z]
      refine (r.cel j).go rfl same (fun b us k1 k2 => ⟨k1, ?_⟩) ⟨⟨rfl, rfl, id⟩, fun b hb us k2 => ?_⟩
      · rw [upd_ne (fun w => z (r.inj j i b k1 (by rw [w]; exact h1)))]
        exact k2
      · rw [upd_ne (fun w => (r.yb hb).2.2.2.1 i (by rw [w]; exact h1))]
        exact k2
  · have nca : c.ca ≠ a := fun z => r.hca (.inr (.inr (.inl ⟨i, by rw [z]; exact h1⟩)))
    rw [upd_ne nca]
    exact r.hnd.2.1
  · by_cases z : j = i
    · subst z; exact ⟨.inl ys, put_get hi⟩
    · obtain ⟨us, eu⟩ := r.own j b h
      exact ⟨us, by rw [put_get_ne z]; exact eu⟩
  · have nb : b ≠ a := fun z => by rw [z, n0] at q; cases q
    rw [upd_ne nb]
    exact r.keep b o n q
  · obtain ⟨y0, y1, y2, y3, y4, us, y5⟩ := r.yy b h
    exact ⟨y0, y1, y2, y3, y4, us, by rw [upd_ne (fun z => y3 i (by rw [z]; exact h1))]; exact y5⟩
/-- a list for a comprehension is laid -/
theorem Rel.openY (r : Rel K c s σ H) {p : Addr} {vs : List V} (hp : H p = none) : Rel K { c with y := ⟨p :: c.y.l, c.y.o, c.y.b⟩ } s σ (upd H p (.lst vs)) ∧ Same (hid c.P H) (hid (Cf.P { c with y := ⟨p :: c.y.l, c.y.o, c.y.b⟩ }) (upd H p (.lst vs))) := by
  have nP := r.fresh hp
  have ext : ∀ b u, H b = some u → upd H p (.lst vs) b = some u := fun b u q => by rw [upd_ne (ne_of_none q hp)]; exact q
  have pP : ∀ b, Cf.P { c with y := ⟨p :: c.y.l, c.y.o, c.y.b⟩ } b → c.P b ∨ b = p := fun b h => by
    rcases h with h | h | h | h | h
    · exact .inl (.inl h)
    · exact .inl (.inr (.inl h))
    · exact .inl (.inr (.inr (.inl h)))
    · exact .inl (.inr (.inr (.inr (.inl h))))
    · rcases List.mem_cons.mp h with h | h
      · exact .inr h
      · exact .inl (.inr (.inr (.inr (.inr h))))
  have same : Same (hid c.P H) (hid (Cf.P { c with y := ⟨p :: c.y.l, c.y.o, c.y.b⟩ }) (upd H p (.lst vs))) := same_hid fun b o n q => ⟨fun z => by
    rcases pP b z with z | z
    · exact n z
    · exact ne_of_none q hp z, ext b o q⟩
  have h0 : c.H0 p = none := by
    cases e : c.H0 p with
    | none => rfl
    | some o =>
      have q := r.keep p o (fun z => nP (.inl z)) e
      rw [hp] at q; cases q
  refine ⟨⟨r.len, fun i => (r.cel i).go rfl same (fun a vs h1 h2 => ⟨h1, ext _ _ h2⟩) ⟨⟨rfl, rfl, fun h b hb z => (List.mem_cons.mp z).elim (fun e => by obtain ⟨_, _, _, _, _, ws, ew⟩ := r.yb hb; rw [e, hp] at ew; cases ew) (h b hb)⟩, fun b _ vs z => ext _ _ z⟩, r.hnd.grow ext, fun z => ?_, r.inj, r.own, r.new, r.xne, fun b o n q => ext b o (r.keep b o n q), r.p0, r.cah, r.hah, fun q h => ?_, fun a h => ?_⟩, same⟩
  · rcases pP _ z with z | z
    · exact r.hca z
    · exact ne_of_none r.hnd.2.1 hp z
  · obtain ⟨ws, e⟩ := r.xh q h
    exact ⟨ws, ext _ _ e⟩
  · rcases List.mem_cons.mp h with h | h
    · subst h
      exact ⟨h0, fun z => nP (.inl z), fun z => nP (.inr (.inl z)), fun i z => nP (.inr (.inr (.inl ⟨i, z⟩))), fun z => nP (.inr (.inr (.inr (.inl z)))), vs, upd_same⟩
    · obtain ⟨y0, y1, y2, y3, y4, us, y5⟩ := r.yy a h
      exact ⟨y0, y1, y2, y3, y4, us, ext _ _ y5⟩
/-- .. it grows -/
theorem Rel.growY (r : Rel K c s σ H) {p : Addr} {ws : List V} (hp : p ∈ c.y.l) (hq : p ∉ c.y.b) : Rel K c s σ (upd H p (.lst ws)) ∧ Same (hid c.P H) (hid c.P (upd H p (.lst ws))) ∧ ∀ b o, b ≠ p → H b = some o → upd H p (.lst ws) b = some o := by
  have hp : p ∈ c.y.all := List.mem_append_left _ hp
  obtain ⟨y0, y1, y2, y3, y4, vs, y5⟩ := r.yy p hp
  have ext : ∀ b o, b ≠ p → H b = some o → upd H p (.lst ws) b = some o := fun b o n q => by rw [upd_ne n]; exact q
  have same : Same (hid c.P H) (hid c.P (upd H p (.lst ws))) := same_hid fun b o n q => ⟨n, ext b o (fun z => n (.inr (.inr (.inr (.inr (by rw [z]; exact hp)))))) q⟩
  have nca : c.ca ≠ p := fun z => r.hca (.inr (.inr (.inr (.inr (by rw [z]; exact hp)))))
  refine ⟨⟨r.len, fun i => (r.cel i).go rfl same (fun a vs h1 h2 => ⟨h1, ext _ _ (fun z => y3 i (by rw [← z]; exact h1)) h2⟩) ⟨⟨rfl, rfl, id⟩, fun b hb vs z => ext _ _ (fun w => hq (by rw [← w]; exact hb)) z⟩, ⟨ext _ _ (Ne.symm y1) r.hnd.1, ext _ _ nca r.hnd.2.1, r.hnd.2.2⟩, r.hca, r.inj, r.own, r.new, r.xne, fun b o n q => ext b o (fun z => by rw [z, y0] at q; cases q) (r.keep b o n q), r.p0, r.cah, r.hah, fun q h => ?_, fun a h => ?_⟩, same, ext⟩
  · obtain ⟨us, e⟩ := r.xh q h
    exact ⟨us, ext _ _ (fun z => y4 (by rw [← z]; exact h)) e⟩
  · obtain ⟨z0, z1, z2, z3, z4, us, z5⟩ := r.yy a h
    refine ⟨z0, z1, z2, z3, z4, ?_⟩
    by_cases z : a = p
    · subst z; exact ⟨ws, upd_same⟩
    · exact ⟨us, ext _ _ z z5⟩
/-- .. it is done -/
theorem Rel.shutY (r : Rel K c s σ H) {p : Addr} {y0 : Yl} (hy : c.y = ⟨p :: y0.l, y0.o, y0.b⟩) (hp : p ∉ y0.all) (hx : c.x = none) : Rel K { c with y := y0, x := some p } s σ H ∧ (∀ b, Cf.P { c with y := y0, x := some p } b ↔ c.P b) := by
  have pP : ∀ b, Cf.P { c with y := y0, x := some p } b ↔ c.P b := fun b => by
    unfold Cf.P
    simp only [hy, hx, Yl.all, List.cons_append, List.mem_cons, Option.some.injEq]
    constructor
    · rintro (h | h | h | h | h)
      · exact .inl h
      · exact .inr (.inl h)
      · exact .inr (.inr (.inl h))
      · exact .inr (.inr (.inr (.inr (.inl h.symm))))
      · exact .inr (.inr (.inr (.inr (.inr h))))
    · rintro (h | h | h | h | h | h)
      · exact .inl h
      · exact .inr (.inl h)
      · exact .inr (.inr (.inl h))
      · cases h
      · exact .inr (.inr (.inr (.inl h.symm)))
      · exact .inr (.inr (.inr (.inr h)))
  obtain ⟨z0, z1, z2, z3, z4, vs, z5⟩ := r.yy p (by rw [hy]; exact List.mem_cons_self)
  have same : Same (hid c.P H) (hid (Cf.P { c with y := y0, x := some p }) H) := same_hid fun b o n q => ⟨fun z => n ((pP b).mp z), q⟩
  refine ⟨⟨r.len, fun i => (r.cel i).go rfl same (fun a vs h1 h2 => ⟨h1, h2⟩) ⟨⟨by rw [hy], by rw [hy], fun h b hb z => h b hb (by rw [hy]; exact List.mem_cons_of_mem _ z)⟩, fun _ _ _ z => z⟩, r.hnd, fun z => r.hca ((pP _).mp z), r.inj, r.own, fun a h => ?_, fun i a h z => ?_, r.keep, r.p0, r.cah, r.hah, fun q h => ?_, fun a h => ?_⟩, pP⟩
  · rcases h with h | h
    · exact r.new a (.inl h)
    · have e : p = a := Option.some.inj h
      subst e
      exact ⟨z0, z1, z2⟩
  · have e : p = a := Option.some.inj z
    subst e
    exact z3 i h
  · have e : p = q := Option.some.inj h
    subst e
    exact ⟨vs, z5⟩
  · obtain ⟨u0, u1, u2, u3, u4, u5⟩ := r.yy a (by rw [hy]; exact List.mem_cons_of_mem _ h)
    exact ⟨u0, u1, u2, u3, fun z => hp (by rw [Option.some.inj z]; exact h), u5⟩
end

/-! ### runs -/
abbrev XA := Exc → Value → Option Addr → Hp → Addr → Prop
def Run (K : Fr) (xa : XA) (W : WX) (c : Cf) (σ : L2.St) (H : Hp) {α : Type} (r : Res α) (k : α → Stt → Hp → Cf → Prop) : Prop :=
  match r with
  | .ok a s' => ∀ H' c', XS c H c' H' → Rel K c' s' σ H' → k a s' H' c'
  | .ex e s' => ∀ cls d H' c', XS c H c' H' → Rel K c' s' σ H' → c'.x = none → xa e cls d (hid c'.P H') c'.ha → W cls d σ H'
  | .bad => False
section
variable {K : Fr} {xa : XA} {W : WX} {c c1 : Cf} {σ : L2.St} {H H1 : Hp} {α β : Type}
theorem Run.mono {r : Res α} {k k' : α → Stt → Hp → Cf → Prop} (h : Run K xa W c σ H r k) (m : ∀ a s' H' c', XS c H c' H' → Rel K c' s' σ H' → k a s' H' c' → k' a s' H' c') : Run K xa W c σ H r k' := by
  cases r with
  | ok a s => exact fun H' c' x q => m a s H' c' x q (h H' c' x q)
  | ex e s => exact h
  | bad => exact h
theorem Run.weak {r : Res α} {k : α → Stt → Hp → Cf → Prop} (x : XS c H c1 H1) (h : Run K xa W c σ H r k) : Run K xa W c1 σ H1 r k := by
  cases r with
  | ok a s => exact fun H' c' y q => h H' c' (x.trans y) q
  | ex e s => exact fun cls d H' c' y q => h cls d H' c' (x.trans y) q
  | bad => exact h
theorem Run.bind {r : Res α} {f : α → Stt → Res β} {k : β → Stt → Hp → Cf → Prop} (h : Run K xa W c σ H (r.bind f) k) :
    Run K xa W c σ H r fun a s1 H1 c1 => Run K xa W c1 σ H1 (f a s1) k := by
  cases r with
  | ok a s => exact fun H' c' x _ => Run.weak x h
  | ex e s => exact h
  | bad => exact h
/-- a run that cannot fail -/
theorem Run.of {o : Option α} {s : Stt} {k : α → Stt → Hp → Cf → Prop} (h : Run K xa W c σ H (Res.of o s) k) : ∃ a, o = some a ∧ ∀ H' c', XS c H c' H' → Rel K c' s σ H' → k a s H' c' := by
  cases o with
  | none => exact h.elim
  | some a => exact ⟨a, rfl, h⟩
theorem Run.of_bind {o : Option α} {s : Stt} {f : α → Stt → Res β} {k : β → Stt → Hp → Cf → Prop} (h : Run K xa W c σ H ((Res.of o s).bind f) k) : ∃ a, o = some a ∧ Run K xa W c σ H (f a s) k := by
  cases o with
  | none => exact h.elim
  | some a => exact ⟨a, rfl, h⟩
end
end PD

set_option Elab.async false
set_option linter.all false
set_option maxRecDepth 100000
set_option maxHeartbeats 4000000
/-! PyS3: the operations of the evaluator, by the rules of the hand layer. -/
namespace PD
open PySem PySem.Spec PyProof.Rows L2

/-- what is hidden stands -/
def Obs (c : Cf) (H : Hp) : Prop := ∀ b, H b = none → ¬ c.P b
theorem Rel.obs {K : Fr} {c : Cf} {s : Stt} {σ : L2.St} {H : Hp} (r : Rel K c s σ H) : Obs c H := fun _ h => r.fresh h
/-- what is wanted of an operation's value -/
def Wish (K : Fr) (c : Cf) (H : Hp) (r : R) (Q : VK) : Prop :=
  match r with
  | .d x => ∀ v H', (H' = H ∨ ∃ p o, H p = none ∧ H' = upd H p o) → Dat K c.ha (hid c.P H') v x → Q v H'
  | .f xs => ∀ p vs, H p = none → Dats K c.ha (hid c.P H) vs xs → Q (.ref p) (upd H p (.lst vs))
def DatPs (K : Fr) (c : Cf) (H : Hp) : List V → List D → Prop
  | [], [] => True
  | v :: vs, d :: ds => DatP K c H v d ∧ DatPs K c H vs ds
  | [], _ :: _ => False
  | _ :: _, [] => False
theorem DatPs.nil_out {K : Fr} {c : Cf} {H : Hp} {vs : List V} (h : DatPs K c H vs []) : vs = [] := by
  cases vs with
  | nil => rfl
  | cons v vs => exact h.elim
theorem DatPs.cons_out {K : Fr} {c : Cf} {H : Hp} {vs : List V} {d : D} {ds : List D} (h : DatPs K c H vs (d :: ds)) : ∃ v ws, vs = v :: ws ∧ DatP K c H v d ∧ DatPs K c H ws ds := by
  cases vs with
  | nil => exact h.elim
  | cons v vs => exact ⟨v, vs, rfl, h.1, h.2⟩
theorem DatPs.go {K : Fr} {c c' : Cf} {H H' : Hp} (x : XS c H c' H') : ∀ {vs : List V} {ds : List D}, DatPs K c H vs ds → DatPs K c' H' vs ds
  | [], [], _ => trivial
  | v :: vs, d :: ds, h => ⟨h.1.go x, DatPs.go x h.2⟩
  | [], _ :: _, h => h.elim
  | _ :: _, [], h => h.elim
theorem same_upd1 {P : Addr → Prop} {H : Hp} {p : Addr} {o : HO} (hp : H p = none) : Same (hid P H) (hid P (upd H p o)) := same_hid fun b u n q => ⟨n, by rw [upd_ne (ne_of_none q hp)]; exact q⟩
theorem sqT_upd {K : Fr} {P : Addr → Prop} {H : Hp} {p : Addr} {xs : List V} (n : ¬ P p) : SqT K (hid P (upd H p (.tup xs))) p xs := SqT.of (hid_mk n upd_same)
section
variable {K : Fr} {c : Cf} {H : Hp} {v : V}
theorem DatP.dat {d : D} (h : DatP K c H v d) (n : ∀ ds, d ≠ .lst ds) : Dat K c.ha (hid c.P H) v d := by
  cases d with
  | lst ds => exact absurd rfl (n ds)
  | _ => exact h
theorem DatP.int {i : Int} (h : DatP K c H v (.int i)) : v = .int i := dat_int.mp (h.dat fun _ z => by cases z)
theorem DatP.bl {i : Bool} (h : DatP K c H v (.bl i)) : v = .bl i := dat_bl.mp (h.dat fun _ z => by cases z)
theorem DatP.str {i : Str} (h : DatP K c H v (.str i)) : v = .str i := dat_str.mp (h.dat fun _ z => by cases z)
theorem DatP.non (h : DatP K c H v .non) : v = .non := dat_non.mp (h.dat fun _ z => by cases z)
theorem DatP.hand (h : DatP K c H v .hand) : v = .ref c.ha := dat_hand.mp (h.dat fun _ z => by cases z)
theorem DatP.edic {kvs : List (Int × Int)} (h : DatP K c H v (.edic kvs)) : ∃ a, v = .ref a ∧ H a = some (.dK (kvs.map fun p => (.inl p.1, .int p.2))) := by
  obtain ⟨a, e, q⟩ := dat_edic.mp (h.dat fun _ z => by cases z)
  exact ⟨a, e, (hid_some q).2⟩
theorem DatP.lst {ds : List D} (h : DatP K c H v (.lst ds)) : ∃ a xs, v = .ref a ∧ H a = some (.lst xs) ∧ Dats K c.ha (hid c.P H) xs ds := by
  obtain ⟨a, xs, e, _, q, t⟩ := h
  exact ⟨a, xs, e, q, t⟩
theorem DatP.tup {ds : List D} (h : DatP K c H v (.tup ds)) : ∃ a xs, v = .ref a ∧ SqT K H a xs ∧ SqT K (hid c.P H) a xs ∧ Dats K c.ha (hid c.P H) xs ds := by
  obtain ⟨a, xs, e, q, t⟩ := dat_tup.mp (h.dat fun _ z => by cases z)
  exact ⟨a, xs, e, sqT_same same_un q, q, t⟩
theorem Wish.pure {x : D} {Q : VK} (w : Wish K c H (.d x) Q) (h : Dat K c.ha (hid c.P H) v x) : Q v H := w v H (.inl rfl) h
theorem Wish.tup {xs : List D} {Q : VK} {vs : List V} (w : Wish K c H (.d (.tup xs)) Q) (o : Obs c H) (h : Dats K c.ha (hid c.P H) vs xs) : ∀ p, H p = none → Q (.ref p) (upd H p (.tup vs)) := fun p hp =>
  w (.ref p) _ (.inr ⟨p, _, hp, rfl⟩) (dat_tup.mpr ⟨p, vs, rfl, sqT_upd (o p hp), Dats.mono (same_upd1 hp) _ _ h⟩)
end

/-! ### comparisons -/
section
variable {K : Fr} {ha : Addr} {H : Hp}
mutual
theorem Dat.dp : ∀ (d : D) (v : V), Dat K ha H v d → d.py.canLay0 = true → Dp K H v d.py
  | .non, v, h, _ => by rw [dat_non.mp h]; exact .non
  | .bl b, v, h, _ => by rw [dat_bl.mp h]; exact .bl b
  | .int i, v, h, _ => by rw [dat_int.mp h]; exact .int i
  | .str x, v, h, _ => by rw [dat_str.mp h]; exact .str x
  | .lst ds, v, h, l => by
    obtain ⟨a, xs, rfl, q, t⟩ := dat_lst.mp h
    exact .lst (SqL.of q) (Dats.dp ds xs t (by simpa [D.py, PyData.canLay0] using l))
  | .tup ds, v, h, l => by
    obtain ⟨a, xs, rfl, q, t⟩ := dat_tup.mp h
    exact .tup q (Dats.dp ds xs t (by simpa [D.py, PyData.canLay0] using l))
  | .hand, v, _, l => by simp [D.py, PyData.canLay0] at l
  | .edic _, v, _, l => by simp [D.py, PyData.canLay0] at l
theorem Dats.dp : ∀ (ds : List D) (vs : List V), Dats K ha H vs ds → PyData.canLayAll0 (D.pys ds) = true → DpAll K H vs (D.pys ds)
  | [], vs, h, _ => by rw [Dats.nil_iff.mp h]; exact .nil
  | d :: ds, vs, h, l => by
    obtain ⟨v, vs', rfl, h1, t⟩ := h.cons_out
    simp only [D.pys, PyData.canLayAll0, Bool.and_eq_true] at l
    exact .cons (Dat.dp d v h1 l.1) (Dats.dp ds vs' t l.2)
end
mutual
theorem dp_mono {H' : Hp} (e : Same H H') : ∀ (d : PyData) (v : V), Dp K H v d → Dp K H' v d
  | .none, _, h => by cases h; exact .non
  | .bool _, _, h => by cases h; exact .bl _
  | .int _, _, h => by cases h; exact .int _
  | .str _, _, h => by cases h; exact .str _
  | .list ds, _, h => by
    cases h with
    | lst q t => exact .lst (e.seq q) (dpAll_mono e ds _ t)
  | .tuple ds, _, h => by
    cases h with
    | tup q t => exact .tup (sqT_same e q) (dpAll_mono e ds _ t)
  | .dict _, _, h => by cases h
theorem dpAll_mono {H' : Hp} (e : Same H H') : ∀ (ds : List PyData) (vs : List V), DpAll K H vs ds → DpAll K H' vs ds
  | [], _, h => by cases h; exact .nil
  | d :: ds, _, h => by
    cases h with
    | cons h1 h2 => exact .cons (dp_mono e d _ h1) (dpAll_mono e ds _ h2)
end
end
theorem DatP.dp {K : Fr} {c : Cf} {H : Hp} {v : V} {d : D} (h : DatP K c H v d) (l : d.py.canLay0 = true) : Dp K H v d.py := by
  cases d with
  | lst ds =>
    obtain ⟨a, xs, rfl, q, t⟩ := h.lst
    exact .lst (SqL.of q) (dpAll_mono same_un _ _ (Dats.dp ds xs t (by simpa [D.py, PyData.canLay0] using l)))
  | _ => exact dp_mono (H := hid c.P H) same_un _ _ (Dat.dp (ha := c.ha) _ _ h l)
theorem flat_of {K : Fr} {c : Cf} {H : Hp} {v : V} {d : D} (h : Dat K c.ha (hid c.P H) v d) (f : flat d = true) : flatV v = true := by
  cases d with
  | non => rw [dat_non.mp h]; rfl
  | bl b => rw [dat_bl.mp h]; rfl
  | int b => rw [dat_int.mp h]; rfl
  | str b => rw [dat_str.mp h]; rfl
  | _ => cases f
theorem eqV_of {K : Fr} {c : Cf} {H : Hp} {v w : V} {d e : D} (h : Dat K c.ha (hid c.P H) v d) (q : Dat K c.ha (hid c.P H) w e) (f : flat d = true) (g : flat e = true) : eqV v w = eqF d e := by
  cases d with
  | non => rw [dat_non.mp h]; cases e with
    | non => rw [dat_non.mp q]; rfl
    | bl b => rw [dat_bl.mp q]; rfl
    | int b => rw [dat_int.mp q]; rfl
    | str b => rw [dat_str.mp q]; rfl
    | _ => cases g
  | bl b => rw [dat_bl.mp h]; cases e with
    | non => rw [dat_non.mp q]; rfl
    | bl b => rw [dat_bl.mp q]; rfl
    | int b => rw [dat_int.mp q]; rfl
    | str b => rw [dat_str.mp q]; rfl
    | _ => cases g
  | int b => rw [dat_int.mp h]; cases e with
    | non => rw [dat_non.mp q]; rfl
    | bl b => rw [dat_bl.mp q]; rfl
    | int b => rw [dat_int.mp q]; rfl
    | str b => rw [dat_str.mp q]; rfl
    | _ => cases g
  | str b => rw [dat_str.mp h]; cases e with
    | non => rw [dat_non.mp q]; rfl
    | bl b => rw [dat_bl.mp q]; rfl
    | int b => rw [dat_int.mp q]; rfl
    | str b => rw [dat_str.mp q]; rfl
    | _ => cases g
  | _ => cases f
theorem inV_of {K : Fr} {c : Cf} {H : Hp} {v : V} {d : D} (h : Dat K c.ha (hid c.P H) v d) (f : flat d = true) : ∀ {ds : List D} {vs : List V}, Dats K c.ha (hid c.P H) vs ds → ds.all flat = true → vs.all flatV = true ∧ inV v vs = ds.any fun y => eqF y d
  | [], vs, t, _ => by rw [Dats.nil_iff.mp t]; exact ⟨rfl, rfl⟩
  | e :: ds, vs, t, g => by
    obtain ⟨w, ws, rfl, h1, t1⟩ := t.cons_out
    simp only [List.all_cons, Bool.and_eq_true] at g
    obtain ⟨i1, i2⟩ := inV_of h f t1 g.2
    refine ⟨by simp [i1, flat_of h1 g.1], ?_⟩
    unfold inV at i2 ⊢
    rw [List.any_cons, List.any_cons, eqV_of h1 h g.1 f, i2]
def rCmpD (K : Fr) (op : CmpOp) : R2 := fun x y H Q => ∃ c dx dy b, DatP K c H x dx ∧ DatP K c H y dy ∧ cmpop op dx dy = some b ∧ Q (.bl b) H
section
variable {X : Cx}
theorem eqD_out {x y : D} {b : Bool} (h : eqD x y = some b) : (∃ a c, x = .str a ∧ y = .str c ∧ b = decide (a = c)) ∨ (SeqAt.shaped x.py = true ∧ SeqAt.shaped y.py = true ∧ b = PyData.eqv x.py y.py) := by
  unfold eqD at h
  split at h
  · exact .inl ⟨_, _, rfl, rfl, (Option.some.inj h).symm⟩
  · split at h
    · rename_i q
      rw [Bool.and_eq_true] at q
      exact .inr ⟨q.1, q.2, (Option.some.inj h).symm⟩
    · cases h
theorem in_run {neg : Bool} {c : Cf} {H : Hp} {x y : V} {dx dy : D} {b : Bool} {Q : VK} (h1 : DatP X.K c H x dx) (h2 : DatP X.K c H y dy) (e : inD dx dy = some b) (q : Q (.bl (if neg then !b else b)) H) : rIn X.K neg x y H Q := by
  have fx : ∀ {d : D}, flat d = true → DatP X.K c H x d → Dat X.K c.ha (hid c.P H) x d := fun {d} f h => by cases d <;> first | exact h | cases f
  cases dy with
  | tup ys =>
    obtain ⟨a, xs, rfl, hs, _, t⟩ := h2.tup
    simp only [inD] at e
    split at e
    · rename_i f
      rw [Bool.and_eq_true] at f
      obtain ⟨i1, i2⟩ := inV_of (fx f.1 h1) f.1 t f.2
      cases e
      exact ⟨a, xs, rfl, .inr hs, flat_of (fx f.1 h1) f.1, i1, by rw [i2]; exact q⟩
    · cases e
  | lst ys =>
    obtain ⟨a, xs, rfl, hs, t⟩ := h2.lst
    simp only [inD] at e
    split at e
    · rename_i f
      rw [Bool.and_eq_true] at f
      obtain ⟨i1, i2⟩ := inV_of (fx f.1 h1) f.1 t f.2
      cases e
      exact ⟨a, xs, rfl, .inl (SqL.of hs), flat_of (fx f.1 h1) f.1, i1, by rw [i2]; exact q⟩
    · cases e
  | _ => cases e
theorem isNon_of {c : Cf} {H : Hp} {x : V} {dx : D} (h : DatP X.K c H x dx) : decide (x = .non) = isNon dx := by
  cases dx with
  | non => rw [h.non]; rfl
  | bl b => rw [h.bl]; rfl
  | int b => rw [h.int]; rfl
  | str b => rw [h.str]; rfl
  | lst ds => obtain ⟨a, xs, rfl, _⟩ := h.lst; rfl
  | tup ds => obtain ⟨a, xs, rfl, _⟩ := h.tup; rfl
  | hand => rw [h.hand]; rfl
  | edic kvs => obtain ⟨a, rfl, _⟩ := h.edic; rfl
theorem op_cmpD (hu : X.A.units + 64 < cLine) (op : CmpOp) : OpR X (compareOp op) (rCmpD X.K op) := by
  intro pins s σ H x y v u Q I rx ry h
  obtain ⟨c, dx, dy, b, h1, h2, e, q⟩ := h
  cases op with
  | Lt =>
    unfold cmpop at e
    split at e <;> first | cases e | skip
    all_goals try cases ‹CmpOp.Lt = _›
    all_goals rw [h1.int] at rx; rw [h2.int] at ry; exact op_lt pins s σ H _ _ v u Q I rx ry ⟨_, _, rfl, rfl, q⟩
  | LtE =>
    unfold cmpop at e
    split at e <;> first | cases e | skip
    all_goals try cases ‹CmpOp.LtE = _›
    all_goals rw [h1.int] at rx; rw [h2.int] at ry; exact op_le pins s σ H _ _ v u Q I rx ry ⟨_, _, rfl, rfl, q⟩
  | Gt =>
    unfold cmpop at e
    split at e <;> first | cases e | skip
    all_goals try cases ‹CmpOp.Gt = _›
    all_goals rw [h1.int] at rx; rw [h2.int] at ry; exact op_gt pins s σ H _ _ v u Q I rx ry ⟨_, _, rfl, rfl, q⟩
  | GtE =>
    unfold cmpop at e
    split at e <;> first | cases e | skip
    all_goals try cases ‹CmpOp.GtE = _›
    all_goals rw [h1.int] at rx; rw [h2.int] at ry; exact op_ge pins s σ H _ _ v u Q I rx ry ⟨_, _, rfl, rfl, q⟩
  | Eq =>
    have e' : eqD dx dy = some b := by cases dx <;> cases dy <;> exact e
    rcases eqD_out e' with ⟨a1, a2, rfl, rfl, rfl⟩ | ⟨s1, s2, rfl⟩
    · rw [h1.str] at rx; rw [h2.str] at ry
      have z : decide (V.str a1 = V.str a2) = decide (a1 = a2) := decide_eq_decide.mpr ⟨fun z => V.str.inj z, fun z => by rw [z]⟩
      exact op_eq pins s σ H _ _ v u Q I rx ry ⟨rfl, by rw [z]; exact q⟩
    exact op_eqD hu pins s σ H _ _ v u Q I rx ry ⟨_, _, h1.dp (SeqAt.canLay_of_shaped s1), h2.dp (SeqAt.canLay_of_shaped s2), s1, s2, q⟩
  | NotEq =>
    have e' : (eqD dx dy).map (!·) = some b := by cases dx <;> cases dy <;> exact e
    rw [Option.map_eq_some_iff] at e'
    obtain ⟨b', e', rfl⟩ := e'
    rcases eqD_out e' with ⟨a1, a2, rfl, rfl, rfl⟩ | ⟨s1, s2, rfl⟩
    · rw [h1.str] at rx; rw [h2.str] at ry
      have z : decide (V.str a1 = V.str a2) = decide (a1 = a2) := decide_eq_decide.mpr ⟨fun z => V.str.inj z, fun z => by rw [z]⟩
      exact op_ne pins s σ H _ _ v u Q I rx ry ⟨rfl, by rw [z]; exact q⟩
    exact op_neD hu pins s σ H _ _ v u Q I rx ry ⟨_, _, h1.dp (SeqAt.canLay_of_shaped s1), h2.dp (SeqAt.canLay_of_shaped s2), s1, s2, q⟩
  | Is =>
    cases dy with
    | non =>
      have e' : isNon dx = b := by cases dx <;> exact Option.some.inj e
      subst e'
      exact op_isN pins s σ H _ _ v u Q I rx ry ⟨h2.non, by rw [isNon_of h1]; exact q⟩
    | _ => cases dx <;> cases e
  | IsNot =>
    cases dy with
    | non =>
      have e' : (!isNon dx) = b := by cases dx <;> exact Option.some.inj e
      subst e'
      exact op_notN pins s σ H _ _ v u Q I rx ry ⟨h2.non, by rw [isNon_of h1]; exact q⟩
    | _ => cases dx <;> cases e
  | In =>
    have e' : inD dx dy = some b := by cases dx <;> cases dy <;> exact e
    exact op_in_seq pins s σ H _ _ v u Q I rx ry (in_run h1 h2 e' q)
  | NotIn =>
    have e' : (inD dx dy).map (!·) = some b := by cases dx <;> cases dy <;> exact e
    rw [Option.map_eq_some_iff] at e'
    obtain ⟨b', e', rfl⟩ := e'
    exact op_notIn_seq pins s σ H _ _ v u Q I rx ry (in_run h1 h2 e' q)
end
end PD

set_option Elab.async false
set_option linter.all false
set_option maxRecDepth 100000
set_option maxHeartbeats 4000000
/-! PyX9: repr of data with dicts in it. -/
namespace PD
open PySem PySem.Spec PyProof.Rows L2

/-- it reads as data, and its text may be made at any depth -/
def Rdr (P : Program) (w : World) (h : Heap) (u : Value) (d : PyData) : Prop := (∃ as, Reads h u d as) ∧ ∃ bs, ReadAtMost h d.depth bs ∧ ReprK P w bs h d.depth u d.shown
def RdrAll (P : Program) (w : World) (h : Heap) (us : List Value) (ds : List PyData) : Prop := (∃ as, ReadsAll h us ds as) ∧ ∃ bs, ReadAtMost h (PyData.depthAll ds) bs ∧ ReprAllK P w bs h (PyData.depthAll ds) us (PyData.shownAll ds)
section
variable {X : Cx} {pins : List (Addr × Obj)} {σ : L2.St} {H : Hp} {s : Shared}
theorem rdr_of {P : Program} {w : World} {h : Heap} {u : Value} {d : PyData} {as : List Addr} (r : Reads h u d as) (hs : d.showable = true) (hd : d.hasDict = true → sysModules ∉ as) (hz : d.shown.length ≤ sizeLine) : Rdr P w h u d :=
  ⟨⟨as, r⟩, ReprK.of_reads r hs hd hz⟩
theorem edic_ents {es : List DictEntry} : ∀ {kvs : List (Int × Int)}, es.length = kvs.length → (∀ (i : Nat) e p, es[i]? = some e → kvs[i]? = some p → (∃ t, e.key = .int p.1 t) ∧ ∃ t, e.val = .int p.2 t) →
    ∀ h : Heap, ReadsAll h (es.map (·.key)) ((kvs.map fun p => ((.int p.1, .int p.2) : PyData × PyData)).map (·.1)) [] ∧ ReadsAll h (es.map (·.val)) ((kvs.map fun p => ((.int p.1, .int p.2) : PyData × PyData)).map (·.2)) [] := by
  induction es with
  | nil =>
    intro kvs hl _ h
    have : kvs = [] := List.length_eq_zero_iff.mp hl.symm
    subst this
    exact ⟨.nil, .nil⟩
  | cons e es ih =>
    intro kvs hl hk h
    cases kvs with
    | nil => simp at hl
    | cons p kvs =>
      obtain ⟨⟨t1, e1⟩, t2, e2⟩ := hk 0 e p rfl rfl
      obtain ⟨a, b⟩ := ih (by simpa using hl) (fun i e p he hp => hk (i + 1) e p (by simpa using he) (by simpa using hp)) h
      refine ⟨?_, ?_⟩
      · have := ReadsAll.cons (h := h) (Reads.int p.1 t1) a
        rw [← e1] at this
        exact this
      · have := ReadsAll.cons (h := h) (Reads.int p.2 t2) b
        rw [← e2] at this
        exact this
theorem kv_get : ∀ {kvs : List (Key × V)} {vs : List (Key × Value)}, KV kvs vs → ∀ {i : Nat} {k : Key} {x : V}, kvs[i]? = some (k, x) → ∃ u, vs[i]? = some (k, u) ∧ RelV x u := by
  intro kvs vs r
  unfold KV at r
  induction r with
  | nil => intro i k x h; simp at h
  | @cons p q ps qs h t ih =>
    intro i k x e
    cases i with
    | zero =>
      have e' : p = (k, x) := Option.some.inj e
      obtain ⟨h1, h2⟩ := h
      refine ⟨q.2, ?_, ?_⟩
      · rw [e'] at h1
        show some q = _
        have : q = (k, q.2) := Prod.ext h1.symm rfl
        rw [← this]
      · rw [e'] at h2; exact h2
    | succ i => exact ih (by simpa using e)
theorem edic_reads (I : Inv X pins σ H s) {a : Addr} {kvs : List (Int × Int)} (e : H a = some (.dK (kvs.map fun p => (.inl p.1, .int p.2)))) : ∃ as, Reads s.heap (.ref a) (.dict (kvs.map fun p => (.int p.1, .int p.2))) as ∧ sysModules ∉ as := by
  obtain ⟨z, hd, vs, rel, dd⟩ := dk_of I.hok e
  obtain ⟨es, ep, ⟨o, ho, hc, hdat⟩, hs, hk⟩ := dd.raw
  have hl := rel.length
  rw [List.length_map] at hl
  have key : ∀ (i : Nat) e p, es.toList[i]? = some e → kvs[i]? = some p → (∃ t, e.key = .int p.1 t) ∧ ∃ t, e.val = .int p.2 t := by
    intro i e p he hp
    have hi : i < es.size := by
      have := (List.getElem?_eq_some_iff.mp he).1
      simpa using this
    have ee : es[i] = e := by
      rw [Array.getElem?_toList, Array.getElem?_eq_getElem hi] at he
      exact Option.some.inj he
    obtain ⟨u, hu, ru⟩ := kv_get rel (i := i) (k := .inl p.1) (x := .int p.2) (by rw [List.getElem?_map, hp]; rfl)
    obtain ⟨k1, k2⟩ := hk i hi _ _ hu
    rw [ee] at k1 k2
    refine ⟨?_, ?_⟩
    · have k1 : keyIs (.inl p.1) e.key = true := k1
      rcases keyIs_shape k1 with ⟨i', t, q, w⟩ | ⟨x, t, q, w⟩
      · injection q with q
        rw [w, q]
        exact ⟨t, rfl⟩
      · cases q
    · rw [k2]
      exact ru
  obtain ⟨q1, q2⟩ := edic_ents (es := es.toList) (kvs := kvs) (by simp [hs, hl]) key s.heap
  refine ⟨_, Reads.dict ho hc.1 hdat q1 q2, ?_⟩
  simp only [List.append_nil, List.mem_singleton]
  intro w
  rw [← w] at hd
  simp at hd
mutual
theorem Dat.rdr (I : Inv X pins σ H s) {ha : Addr} : ∀ (d : D) (v : V) (u : Value), d.nh = true → Dat X.K ha H v d → RelV v u → d.py.showable = true → d.py.shown.length ≤ sizeLine → Rdr X.prog X.w s.heap u d.py
  | .non, v, u, _, h, r, hs, hz => by
    rw [dat_non.mp h] at r; cases r
    exact rdr_of .none hs (fun z => by cases z) hz
  | .bl b, v, u, _, h, r, hs, hz => by
    rw [dat_bl.mp h] at r; cases r
    exact rdr_of (.bool b) hs (fun z => by cases z) hz
  | .int i, v, u, _, h, r, hs, hz => by
    rw [dat_int.mp h] at r
    obtain ⟨t, rfl⟩ := r
    exact rdr_of (.int i t) hs (fun z => by cases z) hz
  | .str x, v, u, _, h, r, hs, hz => by
    rw [dat_str.mp h] at r
    obtain ⟨t, rfl⟩ := r
    exact rdr_of (.str x t) hs (fun z => by cases z) hz
  | .lst ds, v, u, n, h, r, hs, hz => by
    obtain ⟨a, xs, rfl, q, t⟩ := dat_lst.mp h
    cases (show u = Value.ref a from r)
    obtain ⟨its, rv, ⟨o, k, ho, hc, _, hd⟩, _⟩ := I.list (SqL.of q)
    have hz' : (listText (PyData.shownAll (D.pys ds))).length ≤ sizeLine := by simpa only [D.py, PyData.shown] using hz
    obtain ⟨⟨as, ra⟩, bs, hb, hk⟩ := Dats.rdr I ds xs its (by simpa only [D.nh] using n) t rv (by simpa [D.py, PyData.showable] using hs) (fun t ht => Nat.le_trans (listText_mem_le ht) hz')
    have rr : Reads s.heap (.ref a) (D.py (.lst ds)) (a :: as) := .list ho hc hd ra
    have hna : a ∉ bs := not_mem_of_deeper rr (by simp only [D.py, PyData.depth]; omega) hb
    refine ⟨⟨_, rr⟩, a :: bs, ReadAtMost.cons rr (by simp only [D.py, PyData.depth]; omega) hb, ?_⟩
    simp only [D.py, PyData.depth, PyData.shown]
    cases its with
    | nil =>
      have e : PyData.shownAll (D.pys ds) = [] := by
        generalize D.pys ds = ps at ra
        cases ra
        simp only [PyData.shownAll]
      rw [e, listText_nil]
      exact ReprK.listEmpty ho hc hd
    | cons x l => exact ReprK.list ho hc hd hna (by simpa using hk.length_eq) (fun i y e => hk.item i y (by simpa using e))
  | .tup ds, v, u, n, h, r, hs, hz => by
    obtain ⟨a, xs, rfl, q, t⟩ := dat_tup.mp h
    cases (show u = Value.ref a from r)
    obtain ⟨its, rv, ⟨o, ho, hc, k, hd⟩, _⟩ := I.tuple q
    have hz' : (tupleText (PyData.shownAll (D.pys ds))).length ≤ sizeLine := by simpa only [D.py, PyData.shown] using hz
    obtain ⟨⟨as, ra⟩, bs, hb, hk⟩ := Dats.rdr I ds xs its (by simpa only [D.nh] using n) t rv (by simpa [D.py, PyData.showable] using hs) (fun t ht => Nat.le_trans (tupleText_mem_le ht) hz')
    have rr : Reads s.heap (.ref a) (D.py (.tup ds)) as := .tuple ho hc hd (by simpa using ra)
    have hna : a ∉ bs := not_mem_of_deeper rr (by simp only [D.py, PyData.depth]; omega) hb
    refine ⟨⟨_, rr⟩, a :: bs, ReadAtMost.cons rr (by simp only [D.py, PyData.depth]; omega) hb, ?_⟩
    simp only [D.py, PyData.depth, PyData.shown]
    exact ReprK.tuple ho hc hd hna (by simpa using hk)
  | .hand, _, _, n, _, _, _, _ => by cases n
  | .edic kvs, v, u, _, h, r, hs, hz => by
    obtain ⟨a, rfl, q⟩ := dat_edic.mp h
    cases (show u = Value.ref a from r)
    obtain ⟨as, rr, hn⟩ := edic_reads I q
    exact rdr_of rr hs (fun _ => hn) hz
theorem Dats.rdr (I : Inv X pins σ H s) {ha : Addr} : ∀ (ds : List D) (vs : List V) (us : List Value), D.nhs ds = true → Dats X.K ha H vs ds → Vals vs us → PyData.showableAll (D.pys ds) = true → (∀ t ∈ PyData.shownAll (D.pys ds), t.length ≤ sizeLine) → RdrAll X.prog X.w s.heap us (D.pys ds)
  | [], vs, us, _, h, r, _, _ => by
    rw [Dats.nil_iff.mp h] at r
    cases r
    exact ⟨⟨[], .nil⟩, [], (fun _ h => nomatch h), by simp only [D.pys, PyData.shownAll]; exact .nil⟩
  | d :: ds, vs, us, n, h, r, hs, hz => by
    obtain ⟨v, vs', rfl, h1, t⟩ := h.cons_out
    unfold D.nhs at n
    rw [Bool.and_eq_true] at n
    have hs' : d.py.showable = true ∧ PyData.showableAll (D.pys ds) = true := by simpa [D.pys, PyData.showableAll] using hs
    cases r with
    | @cons _ u _ us r1 r2 =>
      obtain ⟨⟨as, ra⟩, b1, hb1, k1⟩ := Dat.rdr I d v u n.1 h1 r1 hs'.1 (hz _ (by simp only [D.pys, PyData.shownAll]; exact List.mem_cons_self))
      obtain ⟨⟨as2, ra2⟩, b2, hb2, k2⟩ := Dats.rdr I ds vs' us n.2 t r2 hs'.2 (fun t ht => hz t (by simp only [D.pys, PyData.shownAll]; exact List.mem_cons_of_mem _ ht))
      refine ⟨⟨_, .cons ra ra2⟩, b1 ++ b2, ?_, ?_⟩
      · simp only [D.pys, PyData.depthAll]
        exact (hb1.mono (Nat.le_max_left _ _)).append (hb2.mono (Nat.le_max_right _ _))
      · simp only [D.pys, PyData.depthAll, PyData.shownAll]
        exact .cons ((k1.more fun b hb => List.mem_append_left _ hb).level_le (Nat.le_max_left _ _)) (k2.more_le (fun b hb => List.mem_append_right _ hb) (Nat.le_max_right _ _))
end
theorem ReadAtMost.app {h : Heap} {n : Nat} {bs cs : List Addr} (h1 : ReadAtMost h n bs) (h2 : ReadAtMost h n cs) : ReadAtMost h n (bs ++ cs) := h1.append h2
/-- repr of data -/
theorem repr_data (hg : X.A.guards = some []) (hu : X.A.units + 100 < cLine) {ha : Addr} {d : D} {v : V} {u : Value} {Q : VK} (I : Inv X pins σ H s) (rx : RelV v u) (hn : d.nh = true) (h : Dat X.K ha H v d) (h1 : d.py.showable = true) (h3 : d.py.depth ≤ 64) (h4 : d.py.shown.length ≤ sizeLine) (q : Q (.str d.py.shown) H) :
    wpAny (model X.prog X.w) X.A (call (.builtin "repr") [u]) (EP X pins σ Q) X.xe s := by
  have fin : ∀ {h' : Heap} {tk : Nat} {t : Tok}, (∀ b o, s.heap.get? b = some o → h'.get? b = some o) → EP X pins σ Q (.str d.py.shown t) { s with heap := h', toks := tk } := fun k => ⟨.str d.py.shown, H, I.kept k, ⟨_, rfl⟩, q⟩
  have hg1 : X.A.in1.guards = some [] := hg
  cases d with
  | non => rw [dat_non.mp h] at rx; cases rx; exact PySem.P.repr_of_none (fin (h' := s.heap) fun _ _ e => e)
  | bl b => rw [dat_bl.mp h] at rx; cases rx; exact PySem.P.repr_of_bool (fin (h' := s.heap) fun _ _ e => e)
  | int i => rw [dat_int.mp h] at rx; obtain ⟨t, rfl⟩ := rx; exact PySem.P.repr_of_int (by simpa [D.py, PyData.showable] using h1) (fin (h' := s.heap) fun _ _ e => e)
  | str i => rw [dat_str.mp h] at rx; obtain ⟨t, rfl⟩ := rx; exact PySem.P.repr_of_str (fin (h' := s.heap) fun _ _ e => e) h4
  | lst ds =>
    obtain ⟨a, xs, rfl, hq, t⟩ := dat_lst.mp h
    cases (show u = Value.ref a from rx)
    obtain ⟨its, rv, ⟨o, k, ho, hc, _, hd⟩, _⟩ := I.list (SqL.of hq)
    have hz' : (listText (PyData.shownAll (D.pys ds))).length ≤ sizeLine := by simpa only [D.py, PyData.shown] using h4
    obtain ⟨⟨as, ra⟩, bs, hb, hk⟩ := Dats.rdr I ds xs its (by simpa only [D.nh] using hn) t rv (by simpa [D.py, PyData.showable] using h1) (fun t ht => Nat.le_trans (listText_mem_le ht) hz')
    have rr : Reads s.heap (.ref a) (D.py (.lst ds)) (a :: as) := .list ho hc hd ra
    have hna : a ∉ bs := not_mem_of_deeper rr (by simp only [D.py, PyData.depth]; omega) hb
    simp only [D.py, PyData.depth] at h3
    simp only [D.py, PyData.shown] at fin
    refine call_repr_slot (by omega) ⟨o, ho, hc⟩ F.slot_list_repr.toG ?_
    cases its with
    | nil =>
      have e : PyData.shownAll (D.pys ds) = [] := by
        generalize D.pys ds = ps at ra
        cases ra
        simp only [PyData.shownAll]
      rw [e, listText_nil] at fin
      exact call_list_repr_empty ⟨o, ho, hc⟩ ho hd ⟨_, _, rfl, fin (h' := s.heap) fun _ _ e => e⟩
    | cons x l =>
      exact call_list_reprK ho hc hd hna (by simpa using hk.length_eq) (fun i y e => hk.item i y (by simpa using e)) hg1 (fun b _ => Clear.nil b) (by show X.A.units + 1 + _ < cLine; omega) (fun _ _ e => e) (fun h' u tk k => ⟨_, _, rfl, fin k⟩) hz'
  | tup ds =>
    obtain ⟨a, xs, rfl, hq, t⟩ := dat_tup.mp h
    cases (show u = Value.ref a from rx)
    obtain ⟨its, rv, ⟨o, ho, hc, k, hd⟩, _⟩ := I.tuple hq
    have hz' : (tupleText (PyData.shownAll (D.pys ds))).length ≤ sizeLine := by simpa only [D.py, PyData.shown] using h4
    obtain ⟨⟨as, ra⟩, bs, hb, hk⟩ := Dats.rdr I ds xs its (by simpa only [D.nh] using hn) t rv (by simpa [D.py, PyData.showable] using h1) (fun t ht => Nat.le_trans (tupleText_mem_le ht) hz')
    have rr : Reads s.heap (.ref a) (D.py (.tup ds)) as := .tuple ho hc hd (by simpa using ra)
    have hna : a ∉ bs := not_mem_of_deeper rr (by simp only [D.py, PyData.depth]; omega) hb
    simp only [D.py, PyData.depth] at h3
    simp only [D.py, PyData.shown] at fin
    refine call_repr_slot (by omega) ⟨o, ho, hc⟩ F.slot_tuple_repr ?_
    exact call_tuple_reprK ho hc hd hna (by simpa using hk) hg1 (fun b _ => Clear.nil b) (by show X.A.units + 1 + _ < cLine; omega) (fun _ _ e => e) (fun h' u tk k => ⟨_, _, rfl, fin k⟩) hz'
  | hand => cases hn
  | edic kvs =>
    obtain ⟨a, rfl, hq⟩ := dat_edic.mp h
    cases (show u = Value.ref a from rx)
    obtain ⟨as, rr, hn⟩ := edic_reads I hq
    exact repr_of_reads' rr h1 (fun _ => hn) hg (by simp only [D.py] at h3; omega) (fun _ _ e => e) (fun h' u tk k => fin k) h4
end
end PD

set_option Elab.async false
set_option linter.all false
set_option maxRecDepth 100000
set_option maxHeartbeats 4000000
/-! PyX6: tuple * number, any number. -/
namespace PD
open PySem PySem.Spec PyProof.Rows L2
theorem tmul_same (l : Addr) (items : Array Value) (n : Nat) (dd : Option Addr) (sl : Array (Option Value)) (x : Int) (u : Tok) (c0 : (decide (x < -(2 ^ 63)) || decide (x ≥ 2 ^ 63)) = false) (c1 : (items.isEmpty || x == 1) = true) :
    Meets (Builtin.«tuple.__mul__» ⟨[.ref l, .int x u], []⟩) (fun _ R s => s.heap.get? l = some { cls := .type "tuple", dict := dd, data := .seq items n, slots := sl } ∧ R (.ok (.ret (Value.ref l))) s) :=
  .of_wp fun prog w A R s h => by
    obtain ⟨hp, g, d, tk, os⟩ := s
    obtain ⟨at_l, q⟩ := h
    have idx := AutoSeq1.idx_int
    wp_walk using wpAny_loadPart' at_l
    repeat (first
      | (refine wpAny_ite_false (decide_eq_false (by rw [c0]; exact Bool.false_ne_true)) ?_; wp_walk using wpAny_loadPart' at_l)
      | (refine wpAny_ite_true (decide_eq_true c1) ?_; wp_walk using wpAny_loadPart' at_l))
    exact ⟨_, rfl, q⟩
theorem tmul_none (l : Addr) (items : Array Value) (n : Nat) (dd : Option Addr) (sl : Array (Option Value)) (x : Int) (u : Tok) (c0 : (decide (x < -(2 ^ 63)) || decide (x ≥ 2 ^ 63)) = false) (c1 : (items.isEmpty || x == 1) = false) (c2 : (decide (x ≤ 0) || items.isEmpty) = true) :
    Meets (Builtin.«tuple.__mul__» ⟨[.ref l, .int x u], []⟩) (fun _ R s => s.heap.get? l = some { cls := .type "tuple", dict := dd, data := .seq items n, slots := sl } ∧
      R (.ok (.ret (Value.ref s.heap.objs.size))) { s with heap := s.heap.push { cls := Value.type "tuple", data := Data.seq #[] }, toks := s.toks }) :=
  .of_wp fun prog w A R s h => by
    obtain ⟨hp, g, d, tk, os⟩ := s
    obtain ⟨at_l, q⟩ := h
    have idx := AutoSeq1.idx_int
    wp_walk using wpAny_loadPart' at_l
    repeat (first
      | (refine wpAny_ite_false (decide_eq_false (by rw [c0]; exact Bool.false_ne_true)) ?_; wp_walk using wpAny_loadPart' at_l)
      | (refine wpAny_ite_false (decide_eq_false (by rw [c1]; exact Bool.false_ne_true)) ?_; wp_walk using wpAny_loadPart' at_l)
      | (refine wpAny_ite_true (decide_eq_true c2) ?_; wp_walk using wpAny_loadPart' at_l))
    exact ⟨_, rfl, q⟩
def rRepA (K : PySem.W.Frag) : R2 := fun x y H Q => ∃ l k xs, x = .ref l ∧ y = .int k ∧ SqT K H l xs ∧ -(2 ^ 63) ≤ k ∧ k ≤ 1000 ∧ xs.length ≤ 1000 ∧ ((xs = [] ∨ k = 1) → Q (.ref l) H) ∧ (¬ (xs = [] ∨ k = 1) → ∀ p, H p = none → Q (.ref p) (upd H p (.tup (List.replicate k.toNat xs).flatten)))
theorem op_repA {X : Cx} : OpR X (binaryOp .Mult) (rRepA X.K) := by
  intro pins s σ H x y v u Q I rx ry h
  obtain ⟨l, k, xs, rfl, rfl, hT, h1, h2, hz, q1, q2⟩ := h
  by_cases hx : xs ≠ [] ∧ 2 ≤ k
  · exact op_repT pins s σ H _ _ v u Q I rx ry ⟨l, k, xs, rfl, rfl, hT, hx.1, hx.2, h2, hz, q2 fun z => z.elim hx.1 fun z => by omega⟩
  cases rx
  obtain ⟨t, rfl⟩ := ry
  obtain ⟨its, r, ⟨⟨cls, dd, data, sl⟩, ho, hc, n, hd⟩, hs⟩ := I.tuple hT
  simp only at hc hd
  subst hc hd
  have len : its.length = xs.length := r.length.symm
  have c0 : (decide (k < -(2 ^ 63)) || decide (k ≥ 2 ^ 63)) = false := by
    rw [decide_eq_false (by omega), decide_eq_false (by omega)] <;> rfl
  have em : its.toArray.isEmpty = decide (xs = []) := by
    cases its with
    | nil => cases xs with
      | nil => rfl
      | cons _ _ => simp at len
    | cons _ _ => cases xs with
      | nil => simp at len
      | cons _ _ => rfl
  by_cases he : xs = [] ∨ k = 1
  · have c1 : (its.toArray.isEmpty || k == 1) = true := by
      rw [em]
      rcases he with he | he <;> simp [he]
    refine wpAny_binaryOp_repeat_ref (T := "tuple") (U := "int") (by decide) ⟨_, ho, rfl⟩ (fun s' => typeIs_int s' k t) noFill_tuple_mul F.fills_int_mul F.slot_int_rmul repeat_tuple F.slot_int_index.lookup
      (call_meets F.slot_int_rmul (typeIs_int s k t) F.entry_int_rmul (F.args_int_rmul_2 _ _) (int_rmul_tuple k t l its.toArray n dd sl)
        ⟨ho, rfl, ⟨_, ho, rfl⟩, call_meets F.slot_tuple_mul ⟨_, ho, rfl⟩ F.entry_tuple_mul (F.args_tuple_mul_2 _ _) (tmul_same l its.toArray n dd sl k t c0 c1) ⟨ho, ?_⟩⟩)
    exact ⟨.ref l, H, I, rfl, q1 he⟩
  · have hk : k ≤ 0 := by
      have a1 : xs ≠ [] := fun z => he (.inl z)
      have a2 : k ≠ 1 := fun z => he (.inr z)
      have a3 : ¬ 2 ≤ k := fun z => hx ⟨a1, z⟩
      omega
    have c1 : (its.toArray.isEmpty || k == 1) = false := by
      rw [em]
      simp only [not_or] at he
      simp [he.1, he.2]
    have c2 : (decide (k ≤ 0) || its.toArray.isEmpty) = true := by simp [hk]
    have e0 : (List.replicate k.toNat xs).flatten = [] := by
      rw [show k.toNat = 0 by omega]; rfl
    refine wpAny_binaryOp_repeat_ref (T := "tuple") (U := "int") (by decide) ⟨_, ho, rfl⟩ (fun s' => typeIs_int s' k t) noFill_tuple_mul F.fills_int_mul F.slot_int_rmul repeat_tuple F.slot_int_index.lookup
      (call_meets F.slot_int_rmul (typeIs_int s k t) F.entry_int_rmul (F.args_int_rmul_2 _ _) (int_rmul_tuple k t l its.toArray n dd sl)
        ⟨ho, rfl, ⟨_, ho, rfl⟩, call_meets F.slot_tuple_mul ⟨_, ho, rfl⟩ F.entry_tuple_mul (F.args_tuple_mul_2 _ _) (tmul_none l its.toArray n dd sl k t c0 c1 c2) ⟨ho, ?_⟩⟩)
    have q := q2 he s.heap.objs.size (I.hok.fresh (Nat.le_refl _))
    rw [e0] at q
    exact ⟨.ref s.heap.objs.size, _, I.laid (t' := s.toks) (o := .tup []) (fun b ob q => Heap.get?_push_of_some _ q) (Nat.le_refl _) ⟨by rw [sizeLine_eq]; show 0 ≤ _; omega, [], .nil, IsTup.new _ _⟩, rfl, q⟩
end PD

set_option Elab.async false
set_option linter.all false
set_option maxRecDepth 100000
set_option maxHeartbeats 4000000
/-! PyX7: enumerate over a tuple. -/
namespace PD
open PySem PySem.Spec PyProof.Rows L2
open AutoSeq1 (wpAny_loadPart')
/-- the heap behind enumerate(t) -/
abbrev enT (h : Heap) (t : Addr) : Heap := (h.push { cls := .type "tuple_iterator", data := .fields #[.ref t, .int 0 0] }).push { cls := .type "enumerate", data := .fields #[.none, .bool false, .ref h.objs.size, rawInt 0, .none, .none] }
theorem enum_new (t : Addr) (items : Array Value) (n : Nat) (dd : Option Addr) (sl : Array (Option Value)) :
    Meets (Builtin.«enumerate.__new__» ⟨[.type "enumerate", .ref t], []⟩) (fun _ R s => s.heap.get? t = some { cls := .type "tuple", dict := dd, data := .seq items n, slots := sl } ∧
      R (.ok (.ret (.ref (s.heap.push { cls := .type "tuple_iterator", data := .fields #[.ref t, .int 0 0] }).objs.size))) { s with heap := enT s.heap t }) :=
  .of_wp fun prog w A R s h => by
    obtain ⟨hp, g, d, tk, os⟩ := s
    obtain ⟨at_t, q⟩ := h
    have sub := sub_enumerate
    have T : Heap.IsTuple (Shared.heap ⟨hp, g, d, tk, os⟩) t items := ⟨_, at_t, rfl, n, rfl⟩
    wp_walk using wpAny_loadPart' at_t
    refine wpAny_stack_any fun p => wpAny_pure ?_
    split
    · rename_i c _ _ _ _ _
      cases (c == Value.type "enumerate") <;> (wp_walk using wpAny_loadPart' at_t, wpAny_pyIter_tuple T; exact ⟨_, rfl, q⟩)
    · wp_walk using wpAny_loadPart' at_t, wpAny_pyIter_tuple T
      exact ⟨_, rfl, q⟩
section
variable {prog : Program} {w : World} {A : Around} {E : Value → Shared → Prop} {s : Shared}
theorem call_enumT {t : Addr} {items : Array Value} {Q : Value → Shared → Prop} (T : s.heap.IsTuple t items)
    (q : IsEnum (enT s.heap t) (s.heap.objs.size + 1) s.heap.objs.size 0 .none → (enT s.heap t).IsTupleIter s.heap.objs.size t 0 → (∀ b o, s.heap.get? b = some o → (enT s.heap t).get? b = some o) → Q (.ref (s.heap.objs.size + 1)) { s with heap := enT s.heap t }) :
    wpAny (model prog w) A (call (.type "enumerate") [.ref t]) Q E s := by
  obtain ⟨⟨c, dd, dt, sl⟩, at_t, hc, n, hd⟩ := T
  have hc' : c = .type "tuple" := hc
  have hd' : dt = .seq items n := hd
  subst hc' hd'
  have one : (s.heap.push { cls := .type "tuple_iterator", data := .fields #[.ref t, .int 0 0] }).objs.size = s.heap.objs.size + 1 := Heap.size_push ..
  have at_e : (enT s.heap t).get? (s.heap.objs.size + 1) = some { cls := .type "enumerate", data := .fields #[.none, .bool false, .ref s.heap.objs.size, rawInt 0, .none, .none] } := by
    rw [← one]
    exact Heap.get?_push_size _ rfl
  refine callType_new F.called_enumerate (by decide) (F.typeCall_enumerate_1 _) (F.newCall_enumerate_1 _) (fun obj => F.args_object_init_2 obj _) F.entry_enumerate_new (enum_new t items n dd sl) ⟨at_t, ?_⟩
  rw [one]
  exact ⟨⟨_, at_e, rfl⟩, q at_e ⟨_, Heap.get?_push_of_some _ (Heap.get?_push_size _ rfl), rfl, rfl⟩ fun b o x => Heap.get?_push_of_some _ (Heap.get?_push_of_some _ x)⟩
end
/-- the tuple at a, each item in a new pair with its place -/
def IteT (K : PySem.W.Frag) (a : Addr) : It :=
  ⟨fun i H => ∃ (xs : List V) (x : V), SqT K H a xs ∧ xs[i]? = some x, fun i H v H' => ∃ T x, v = .ref T ∧ H T = none ∧ H' = upd H T (.tup [.int (i : Nat), x]) ∧ ∀ xs, SqT K H a xs → xs[i]? = some x, fun i H => ∃ xs : List V, SqT K H a xs ∧ xs.length ≤ i⟩
theorem turn_enumT {P : Program} {w : World} {K : PySem.W.Frag} {elts : List Expr} {kk : Nat} {tpos : Pos} (a e it : Addr) (ne : e ≠ it) (ea : e ≠ a) (ia : a ≠ it) :
    Turn P w K (.Tuple elts kk tpos) (IteT K a) [e, it] e (fun i h => (∃ old, IsEnum h e it ((i : Nat) : Int) old) ∧ h.IsTupleIter it a i) where
  mem := by simp
  obj := fun i h st b hb => by
    obtain ⟨⟨old, he⟩, ⟨o, ho, _, hd⟩⟩ := st
    rcases List.mem_cons.mp hb with z | hb
    · rw [z]; exact ⟨_, he, fun v q => nomatch q⟩
    · rw [List.mem_singleton.mp hb]; exact ⟨o, ho, fun v q => by rw [hd] at q; cases q⟩
  keep := fun i h h' st k => let ⟨⟨old, he⟩, hi⟩ := st; ⟨⟨old, k e (by simp) _ he⟩, hi.at fun o q => k it (by simp) o q⟩
  item := by
    intro X hP hw hK hc i pins s σ H E I hf st hg
    subst hP hw hK
    obtain ⟨⟨old, he⟩, hit⟩ := st
    obtain ⟨xs, x, hq, hx⟩ := hg
    obtain ⟨its, rv, p, _⟩ := I.tuple hq
    obtain ⟨u, hu, ru⟩ := rv.get hx
    have T : s.heap.IsTuple a its.toArray := p
    have le : e < s.heap.objs.size := Heap.lt_size he
    have li : it < s.heap.objs.size := by obtain ⟨_, q, _⟩ := hit; exact Heap.lt_size q
    have lt : i < its.toArray.size := by
      rw [List.size_toArray]
      exact (List.getElem?_eq_some_iff.mp hu).1
    refine wpAny_pyNext_enum_itemD (Draws.tuple (A := X.A.in1) (I.ok.hd hc) it a ia its.toArray) he ⟨hit, T⟩ lt ne (by simp [ne, ea]) fun y h' tk hy ho st' hT _ hk => ?_
    have ey : y = u := by
      have z : its.toArray[i]? = some u := by simpa using hu
      rw [z] at hy
      exact (Option.some.inj hy).symm
    subst ey
    refine ⟨_, rfl, wpAny_letOwnedTupleGo_enum (s := { s with heap := h', toks := tk + 1 }) ho fun h'' he' sb => ?_⟩
    have hT2 : h''.get? s.heap.objs.size = some { cls := .type "tuple", data := .seq #[.int i tk, y] } := (sb.2 _ (Nat.ne_of_gt le)).trans hT
    have laid : ObjOk X.prog X.w (upd H s.heap.objs.size (.tup [.int (i : Nat), x])) h'' s.heap.objs.size (.tup [.int (i : Nat), x]) := ⟨by show 2 ≤ sizeLine; decide, [.int i tk, y], .cons ⟨_, rfl⟩ (.cons ru .nil), ⟨_, hT2, rfl, _, rfl⟩⟩
    have J : Inv X pins σ (upd H s.heap.objs.size (.tup [.int (i : Nat), x])) { s with heap := h'', toks := tk + 1 } := I.turnedNew (ch := [e, it]) (fun b ob hb q => by
      have b1 : b ≠ e := fun z => hb (by rw [z]; simp)
      have b2 : b ≠ it := fun z => hb (by rw [z]; simp)
      exact (sb.2 b b1).trans (hk b ob b1 b2 q)) hf (Nat.le_refl _) laid
    refine ⟨.ref s.heap.objs.size, _, J, rfl, ⟨_, x, rfl, I.hok.fresh (Nat.le_refl _), rfl, fun ys hy => by rw [I.tuple_inj hy hq]; exact hx⟩, ⟨⟨y, ?_⟩, st'.1.at fun o q => (sb.2 it (Ne.symm ne)).trans q⟩, fun b hb => ?_⟩
    · rw [show ((i + 1 : Nat) : Int) = (i : Int) + 1 by omega]
      exact he'
    · have lb : b < s.heap.objs.size := by
        rcases List.mem_cons.mp hb with z | hb
        · rw [z]; exact le
        · rw [List.mem_singleton.mp hb]; exact li
      rw [upd_ne (Nat.ne_of_lt lb)]
      exact (hf b hb).1
  done := by
    intro X hP hw hK hc i pins s σ H E I hf st hg
    subst hP hw hK
    obtain ⟨⟨old, he⟩, hit⟩ := st
    obtain ⟨xs, hq, hx⟩ := hg
    obtain ⟨its, rv, p, _⟩ := I.tuple hq
    have T : s.heap.IsTuple a its.toArray := p
    obtain ⟨f0, f1, f2, f3, f4, f5⟩ := hf it (by simp)
    have hl := rv.length
    have D : Draws X.prog X.w X.A.in1 it [it, a] i (fun _ _ => False) (fun j h => j = i ∧ h.IsTupleIter it a i ∧ h.IsTuple a its.toArray) := {
      live := fun _ _ st => let ⟨o, ho, _⟩ := st.2.1; ⟨o, ho⟩
      frame := fun _ _ _ st hk => ⟨st.1, st.2.1.at fun o e => hk it (by simp) o e, st.2.2.at fun o e => hk a (by simp) o e⟩
      item := fun j s Q E hj st hQ => absurd hj (by rw [st.1]; exact Nat.lt_irrefl _)
      done := fun s Q E st hE => wpAny_nextOf_tuple_end (I.ok.hd hc) st.2.1 st.2.2 (by simp; omega) hE }
    exact wpAny_pyNext_enum_endD D he ⟨rfl, hit, T⟩ fun h' eb => ⟨rfl, I.turned (t' := s.toks) (fun b o hb q => eb b o hb q) f0 f1 f3 f4 f5⟩
  self := fun A i s Q E st h => let ⟨⟨_, he⟩, _⟩ := st; wpAny_pyIter_enum he h

def iEnumA (K : PySem.W.Frag) (ta : TA) : TI := fun σ H R => ta σ H fun vs H1 => ∃ a xs, vs = [.ref a] ∧ ((SqL K H1 a xs ∧ R (Ite K a) H1) ∨ (SqT K H1 a xs ∧ R (IteT K a) H1))
theorem pi_enumA {X : Cx} {e : Expr} {ta : TA} {p pos tpos : Pos} {elts : List Expr} {kk : Nat} (hg : Gl X "enumerate") (hm : X.mg "enumerate" = none) (ha : PA X [e] ta) (hs : starEach [e] X.env = [(false, eval e X.env)] := by rfl) :
    PI X (.Tuple elts kk tpos) (.Call (.Name "enumerate" p) [e] [] pos) (iEnumA X.K ta) := by
  refine ⟨fun pins s σ H R I h => ?_⟩
  refine Call_ (ld_blt I hg hm boot_enumerate (PyProof.Rows.callWith_type1 (thn (ha.run pos pins s σ H _ I h) fun us s1 ⟨vs, H1, I1, r1, q1⟩ => ?_) hs rfl))
  obtain ⟨a, xs, ex, q1⟩ := q1
  subst ex
  cases r1 with
  | cons r rr =>
    cases rr
    cases r
    rcases q1 with ⟨hq, q⟩ | ⟨hq, q⟩
    · obtain ⟨its, rv, p', hz⟩ := I1.list hq
      refine call_enumerate_list p'.isList fun h' he hit hsz hk => wpAny_pyIter_enum he ?_
      have I2 : Inv X pins σ H1 { s1 with heap := h' } := I1.kept (t' := s1.toks) hk
      refine ⟨s1.heap.objs.size + 1, [s1.heap.objs.size + 1, s1.heap.objs.size], _, _, H1, rfl, I2, turn_enum a (s1.heap.objs.size + 1) s1.heap.objs.size, ⟨⟨.none, he⟩, hit, Nat.succ_ne_self _⟩, fun b hb => ?_, q⟩
      have e' : b = s1.heap.objs.size + 1 ∨ b = s1.heap.objs.size := by simpa using hb
      have hle : s1.heap.objs.size ≤ b := by
        rcases e' with z | z
        · rw [z]; exact Nat.le_add_right _ _
        · rw [z]; exact Nat.le_refl _
      exact I1.fpOk hle (I1.hok.fresh hle)
    · obtain ⟨its, rv, p', hz⟩ := I1.tuple hq
      have T : s1.heap.IsTuple a its.toArray := p'
      have la : a < s1.heap.objs.size := by obtain ⟨_, q, _⟩ := T; exact Heap.lt_size q
      refine call_enumT T fun he hit hk => wpAny_pyIter_enum he ?_
      have I2 : Inv X pins σ H1 { s1 with heap := enT s1.heap a } := I1.kept (t' := s1.toks) hk
      refine ⟨s1.heap.objs.size + 1, [s1.heap.objs.size + 1, s1.heap.objs.size], _, _, H1, rfl, I2, turn_enumT a (s1.heap.objs.size + 1) s1.heap.objs.size (Nat.succ_ne_self _) (Nat.ne_of_gt (Nat.lt_succ_of_lt la)) (Nat.ne_of_lt la), ⟨⟨.none, he⟩, hit⟩, fun b hb => ?_, q⟩
      have e' : b = s1.heap.objs.size + 1 ∨ b = s1.heap.objs.size := by simpa using hb
      have hle : s1.heap.objs.size ≤ b := by
        rcases e' with z | z
        · rw [z]; exact Nat.le_add_right _ _
        · rw [z]; exact Nat.le_refl _
      exact I1.fpOk hle (I1.hok.fresh hle)
end PD

set_option Elab.async false
set_option linter.all false
set_option maxRecDepth 100000
set_option maxHeartbeats 4000000
/-! PyX8: a list or a tuple, turned by [::-1]. -/
namespace PD
open PySem PySem.Spec PyProof.Rows L2
section
variable {prog : Program} {w : World} {A : Around} {E : Value → Shared → Prop} {s : Shared}
theorem adjust_back (n : Nat) : Builtin.Slice.sliceAdjust none none (-1) (n : Int) = ((n : Int) - 1, -1) := by
  unfold Builtin.Slice.sliceAdjust
  simp
theorem places_back (n : Nat) : Builtin.Slice.slicePlaces ((n : Int) - 1) (-1) (-1) = n := by
  unfold Builtin.Slice.slicePlaces
  have h1 : ¬ (-1 : Int) > 0 := by omega
  simp only [h1, if_false]
  have e : (-(-1 : Int)) = 1 := rfl
  rw [e, Int.ediv_one]
  split <;> omega
theorem applied_back {sl : Addr} {vs : Value} {n : Nat} {Q : Int × Int × Nat → Shared → Prop} (hs : s.heap.IsSliceOf sl .none .none vs) (ps : IsPart vs (some (-1)))
    (h : Q ((n : Int) - 1, -1, n) s) : wpAny (model prog w) A (Builtin.Slice.sliceApplied (.ref sl) (pure (n : Int))) Q E s := by
  obtain ⟨os, hos, hcs, hds⟩ := id hs
  unfold Builtin.Slice.sliceApplied Builtin.Slice.sliceFields
  refine wpAny_bind (wpAny_bind (wpAny_field hos hds (x := .none) rfl (wpAny_bind (wpAny_field hos hds (x := .none) rfl (wpAny_bind (wpAny_field hos hds (x := vs) rfl (wpAny_pure ?_)))))))
  refine wpAny_bind (HT.slicePart_ ps ?_)
  show wpAny _ _ (if ((-1 : Int) == 0) = true then _ else _) _ _ s
  rw [if_neg (by decide)]
  refine wpAny_bind (HT.slicePart_ .none (wpAny_bind (HT.slicePart_ .none (wpAny_bind (wpAny_pure ?_)))))
  show wpAny _ _ (match Builtin.Slice.sliceAdjust none none (-1) (n : Int) with | (lo, hi) => pure (lo, (-1 : Int), Builtin.Slice.slicePlaces lo hi (-1))) _ _ s
  rw [adjust_back n]
  show wpAny _ _ (pure ((n : Int) - 1, (-1 : Int), Builtin.Slice.slicePlaces ((n : Int) - 1) (-1) (-1))) _ _ s
  rw [places_back]
  exact wpAny_pure h
theorem pick_all {α : Type} : ∀ l : List α, ((List.range l.length).filterMap fun m => l[m]?) = l
  | [] => rfl
  | x :: xs => by
    rw [List.length_cons, List.range_succ_eq_map, List.filterMap_cons]
    show x :: _ = _
    rw [List.filterMap_map]
    congr 1
    exact pick_all xs
theorem fm_congr {α β : Type} {f g : α → Option β} : ∀ {l : List α}, (∀ x ∈ l, f x = g x) → l.filterMap f = l.filterMap g
  | [], _ => rfl
  | x :: xs, h => by
    rw [List.filterMap_cons, List.filterMap_cons, h x List.mem_cons_self, fm_congr (l := xs) fun y hy => h y (List.mem_cons_of_mem _ hy)]
theorem pick_back (xs : Array Value) : ((List.range xs.size).filterMap fun (m : Nat) => xs[((xs.size : Int) - 1 + (m : Int) * -1).toNat]?).toArray = xs.toList.reverse.toArray := by
  congr 1
  rw [← pick_all xs.toList.reverse, List.length_reverse, Array.length_toList]
  refine fm_congr fun m hm => ?_
  have hm := List.mem_range.mp hm
  have e1 : ((xs.size : Int) - 1 + (m : Int) * -1).toNat = xs.size - 1 - m := by omega
  rw [e1, List.getElem?_reverse (by rw [Array.length_toList]; exact hm), Array.length_toList, Array.getElem?_toList]
theorem getItem_tuple_back {t sl : Addr} {items : Array Value} {vs : Value} {Q : Value → Shared → Prop} (ht : IsTup s.heap t items) (hs : s.heap.IsSliceOf sl .none .none vs) (ps : IsPart vs (some (-1)))
    (h : Q (.ref s.heap.objs.size) { s with heap := s.heap.push { cls := .type "tuple", data := .seq items.toList.reverse.toArray } }) (hsz : items.size ≤ sizeLine) : wpAny (model prog w) A (getItem (.ref t) (.ref sl)) Q E s := by
  have htake : sizeOk (.seq items.toList.reverse.toArray) := by
    show items.toList.reverse.toArray.size ≤ sizeLine
    rw [List.size_toArray, List.length_reverse, Array.length_toList]
    exact hsz
  obtain ⟨os, hos, hcs, hds⟩ := id hs
  have hTs : s.TypeIs (.ref sl) "slice" := ⟨os, hos, hcs⟩
  unfold getItem
  try with_reducible refine wpAny_holding ?_
  first | refine wpAny_bind (wpAny_pure ?_) | skip
  refine wpAny_bind (wpAny_sequenceKey ht.typeIs (by decide) ?_)
  refine wpAny_bind (wpAny_callSpecial?_slot (name := Str.ofString "__getitem__") ht.typeIs PyProof.Rows.slot_tuple_getitem
    (wpAny_call_entry PyProof.Rows.slot_tuple_getitem ht.typeIs entry_tuple_getitem ?_ (args_tuple_getitem _ _)))
  show wpAny _ _ (Builtin.Tuple.tupleItemsOf (.ref t) >>= _) _ _ s
  refine wpAny_bind (tupleItemsOf_ ht ?_)
  refine wpAny_bind (wpAny_typeOf hTs ?_)
  rw [if_pos (by decide)]
  refine wpAny_bind (applied_back hs ps ?_)
  have hno : ¬ ((((items.size : Int) - 1) == 0 && (-1 : Int) == 1 && items.size == items.size) = true) := by
    intro q
    rw [Bool.and_eq_true, Bool.and_eq_true] at q
    exact absurd q.1.2 (by decide)
  show wpAny _ _ (if (((items.size : Int) - 1) == 0 && (-1 : Int) == 1 && items.size == items.size) = true then _ else _) _ _ s
  rw [if_neg hno, pick_back]
  first
    | exact wpAny_bind (m := Builtin.Tuple.tupleExact _) (wpAny_newObj_type (wpAny_pure ⟨_, rfl, wpAny_pure h⟩) htake)
    | exact wpAny_bind (m := Builtin.Tuple.tupleExact _) (wpAny_newObj_type (wpAny_bind (wpAny_pure (wpAny_pure ⟨_, rfl, wpAny_pure h⟩))) htake)
    | exact wpAny_bind (wpAny_bind (m := Builtin.Tuple.tupleExact _) (wpAny_newObj_type (wpAny_pure (wpAny_pure ⟨_, rfl, wpAny_pure h⟩)) htake))
    | exact wpAny_bind (wpAny_bind (m := Builtin.Tuple.tupleExact _) (wpAny_newObj_type (wpAny_pure ⟨_, rfl, wpAny_pure h⟩) htake))
end
def tRevA (K : PySem.W.Frag) (te : TE) : TE := fun σ H Q => te σ H fun x H1 => ∃ a xs, x = .ref a ∧ ((SqL K H1 a xs ∧ ∀ p, H1 p = none → Q (.ref p) (upd H1 p (.lst xs.reverse))) ∨ (SqT K H1 a xs ∧ ∀ p, H1 p = none → Q (.ref p) (upd H1 p (.tup xs.reverse))))
theorem pe_revA {X : Cx} {e : Expr} {te : TE} {k : Nat} {p1 p2 p3 pos : Pos} (he : PE X e te) : PE X (.Subscript e (.Slice none none (some (.UnaryOp .USub (.Constant (.int 1) k p1) p2)) p3) pos) (tRevA X.K te) := by
  refine ⟨fun pins s σ H Q I h => ?_⟩
  refine Subscript_ (thn (he.run pins s σ H _ I h) fun v s1 ⟨x, H1, I1, r1, q1⟩ => ?_)
  obtain ⟨a, xs, ex, q1⟩ := q1
  subst ex
  cases r1
  have hst : PO X (some (.UnaryOp .USub (.Constant (.int 1) k p1) p2)) (tPart (tUn (rU fun i => .int (-i)) (tC (.int 1)))) := po_some (pe_un un_neg pe_int)
  refine wpAny_Slice (thn (po_none.run pins s1 σ H1 (fun o H2 => o = none ∧ H2 = H1) I1 ⟨rfl, rfl⟩) fun vl s2 ⟨l, H2, I2, pl, el, e2⟩ => ?_)
  subst el e2
  refine thn (po_none.run pins s2 σ H2 (fun o H3 => o = none ∧ H3 = H2) I2 ⟨rfl, rfl⟩) fun vu s3 ⟨u, H3, I3, pu, eu, e3⟩ => ?_
  subst eu e3
  refine thn (hst.run pins s3 σ H3 (fun o H4 => o = some (-1) ∧ H4 = H3) I3 ⟨1, rfl, -1, rfl, rfl, rfl⟩) fun vs s4 ⟨o, H4, I4, ps, eo, e4⟩ => ?_
  subst eo e4
  have I5 : Inv X pins σ H4 { s4 with heap := s4.heap.push { cls := .type "slice", data := .fields #[vl, vu, vs] } } := I4.kept (t' := s4.toks) fun b ob q => Heap.get?_push_of_some _ q
  show wpAny (model X.prog X.w) X.A (subscriptTail e (.Slice none none (some (.UnaryOp .USub (.Constant (.int 1) k p1) p2)) p3) (.ref a) (.ref s4.heap.objs.size)) (EP X pins σ Q) X.xe { s4 with heap := s4.heap.push { cls := .type "slice", data := .fields #[vl, vu, vs] } }
  rcases q1 with ⟨hx, q⟩ | ⟨hx, q⟩
  · obtain ⟨its, r, ht, hz⟩ := I5.list hx
    have hlen := r.length
    refine tail_any (ops := [.ref a, .ref s4.heap.objs.size]) ht.isList.typeIs (PySem.slot_list_getitem.lookup) ?_ (by with_unfolding_all rfl)
    refine wpAny_getItem_list_slice ht.isList (Heap.IsSliceOf.new _ vl vu vs) pl pu ps (by decide) ?_ (by rw [List.size_toArray]; omega)
    rw [PySem.W.krv_pick]
    refine ⟨.ref _, _, I5.laid (t' := s4.toks) (o := .lst xs.reverse) (fun b ob q => Heap.get?_push_of_some _ q) (Nat.le_refl _) ?_, rfl, q _ (I5.hok.fresh (Nat.le_refl _))⟩
    exact ⟨by rw [List.length_reverse]; exact hz, _, 0, r.reverse, Heap.get?_push_size _ rfl⟩
  · obtain ⟨its, r, ht, hz⟩ := I5.tuple hx
    have hlen := r.length
    cases pl
    cases pu
    refine tail_any (ops := [.ref a, .ref s4.heap.objs.size]) ht.typeIs (PyProof.Rows.slot_tuple_getitem.lookup) ?_ (by with_unfolding_all rfl)
    refine getItem_tuple_back ht (Heap.IsSliceOf.new _ .none .none vs) ps ?_ (by rw [List.size_toArray]; omega)
    refine ⟨.ref _, _, I5.laid (t' := s4.toks) (o := .tup xs.reverse) (fun b ob q => Heap.get?_push_of_some _ q) (Nat.le_refl _) ?_, rfl, q _ (I5.hok.fresh (Nat.le_refl _))⟩
    exact ⟨by rw [List.length_reverse]; exact hz, _, r.reverse, IsTup.new _ _⟩
end PD

set_option Elab.async false
set_option linter.all false
set_option maxRecDepth 100000
set_option maxHeartbeats 4000000
/-! PyS4: arithmetic, items, slices, the built-in defs. -/
namespace PD
open PySem PySem.Spec PyProof.Rows L2

def rBinD (K : Fr) (op : Operator) : R2 := fun x y H Q => ∃ c dx dy r, Obs c H ∧ DatP K c H x dx ∧ DatP K c H y dy ∧ binop op dx dy = some r ∧ Wish K c H r Q
section
variable {X : Cx}
theorem op_binD (op : Operator) : OpR X (binaryOp op) (rBinD X.K op) := by
  intro pins s σ H x y v u Q I rx ry h
  obtain ⟨c, dx, dy, r, ho, h1, h2, e, q⟩ := h
  unfold binop at e
  split at e
  · cases e
    rw [h1.int] at rx; rw [h2.int] at ry
    exact op_add pins s σ H _ _ v u Q I rx ry ⟨_, _, rfl, rfl, q.pure (dat_int.mpr rfl)⟩
  · split at e
    · cases e
      rw [h1.str] at rx; rw [h2.str] at ry
      exact op_add_str pins s σ H _ _ v u Q I rx ry ⟨_, _, rfl, rfl, by assumption, q.pure (dat_str.mpr rfl)⟩
    · cases e
  · rename_i as bs
    split at e
    · rename_i hz
      cases e
      obtain ⟨a, xs, rfl, ha, ha', ta⟩ := h1.tup
      obtain ⟨b, ys, rfl, hb, hb', tb⟩ := h2.tup
      have la := ta.length
      have lb := tb.length
      refine op_catA pins s σ H _ _ v u Q I rx ry ⟨a, b, xs, ys, rfl, rfl, ha, hb, by omega, fun e => ?_, fun _ e => ?_, fun _ _ => q.tup ho (ta.append tb)⟩
      · subst e
        have e2 : as = [] := by cases as with
          | nil => rfl
          | cons _ _ => simp at la
        subst e2
        exact q.pure (dat_tup.mpr ⟨b, ys, rfl, hb', tb⟩)
      · subst e
        have e2 : bs = [] := by cases bs with
          | nil => rfl
          | cons _ _ => simp at lb
        subst e2
        rw [List.append_nil] at q
        exact q.pure (dat_tup.mpr ⟨a, xs, rfl, ha', ta⟩)
    · cases e
  · split at e
    · rename_i hz
      cases e
      obtain ⟨a, xs, rfl, ha, ta⟩ := h1.lst
      obtain ⟨b, ys, rfl, hb, tb⟩ := h2.lst
      have la := ta.length
      have lb := tb.length
      exact op_cat pins s σ H _ _ v u Q I rx ry ⟨a, b, xs, ys, rfl, rfl, ha, hb, by omega, fun p hp => q p _ hp (ta.append tb)⟩
    · cases e
  · cases e
    rw [h1.int] at rx; rw [h2.int] at ry
    exact op_sub pins s σ H _ _ v u Q I rx ry ⟨_, _, rfl, rfl, q.pure (dat_int.mpr rfl)⟩
  · split at e
    · rename_i hz
      cases e
      rw [h1.int] at rx; rw [h2.int] at ry
      exact op_mulW pins s σ H _ _ v u Q I rx ry ⟨_, _, rfl, rfl, (by unfold CMulW; unfold mulOk at hz; exact of_decide_eq_true hz), q.pure (dat_int.mpr rfl)⟩
    · cases e
  · split at e
    · rename_i hz
      cases e
      obtain ⟨a, xs, rfl, ha, ta⟩ := h1.lst
      rw [h2.int] at ry
      have la := ta.length
      exact op_rep pins s σ H _ _ v u Q I rx ry ⟨a, _, xs, rfl, rfl, ha, hz.1, hz.2.1, by rw [la]; exact hz.2.2, fun p hp => q p _ hp (ta.rep _)⟩
    · cases e
  · rename_i as k
    split at e
    · rename_i hz
      cases e
      obtain ⟨a, xs, rfl, ha, ha', ta⟩ := h1.tup
      rw [h2.int] at ry
      have la := ta.length
      refine op_repA pins s σ H _ _ v u Q I rx ry ⟨a, _, xs, rfl, rfl, ha, hz.1, hz.2.1, by rw [la]; exact hz.2.2, fun e => ?_, fun _ => q.tup ho (ta.rep _)⟩
      have ee : (List.replicate k.toNat as).flatten = as := by
        rcases e with e | e
        · subst e
          have e2 : as = [] := by cases as with
            | nil => rfl
            | cons _ _ => simp at la
          subst e2
          simp
        · subst e
          simp
      rw [ee] at q
      exact q.pure (dat_tup.mpr ⟨a, xs, rfl, ha', ta⟩)
    · cases e
  · split at e
    · rename_i hz
      cases e
      rw [h1.int] at rx; rw [h2.int] at ry
      unfold divOk at hz
      rw [Bool.and_eq_true] at hz
      exact op_fdivW pins s σ H _ _ v u Q I rx ry ⟨_, _, rfl, rfl, ⟨of_decide_eq_true hz.1, of_decide_eq_true hz.2⟩, q.pure (dat_int.mpr rfl)⟩
    · cases e
  · split at e
    · rename_i hz
      cases e
      rw [h1.int] at rx; rw [h2.int] at ry
      exact op_mod pins s σ H _ _ v u Q I rx ry ⟨_, _, rfl, rfl, hz, q.pure (dat_int.mpr rfl)⟩
    · cases e
  · split at e
    · rename_i hz
      cases e
      rw [h1.int] at rx; rw [h2.int] at ry
      unfold powOk at hz
      simp only [Bool.and_eq_true, decide_eq_true_eq] at hz
      exact op_pow pins s σ H _ _ v u Q I rx ry ⟨_, _, rfl, rfl, ⟨hz.1.1, hz.1.2, hz.2⟩, q.pure (dat_int.mpr rfl)⟩
    · cases e
  · cases e

/-! ### in place: x += y of whole numbers -/
def rAugD (K : Fr) (op : Operator) : R2 := fun x y H Q => ∃ c i dy r, x = .int i ∧ DatP K c H y dy ∧ binop op (.int i) dy = some r ∧ Wish K c H r Q
theorem iop_augD (op : Operator) (hop : op = .Add ∨ op = .Sub) : OpR X (inplaceOp op) (rAugD X.K op) := by
  intro pins s σ H x y v u Q I rx ry h
  obtain ⟨c, i, dy, r, rfl, h2, e, q⟩ := h
  rcases hop with rfl | rfl
  · cases dy with
    | int j =>
      cases e
      rw [h2.int] at ry
      exact iop_add pins s σ H _ _ v u Q I rx ry ⟨_, _, rfl, rfl, q.pure (dat_int.mpr rfl)⟩
    | _ => cases e
  · cases dy with
    | int j =>
      cases e
      rw [h2.int] at ry
      exact iop_sub pins s σ H _ _ v u Q I rx ry ⟨_, _, rfl, rfl, q.pure (dat_int.mpr rfl)⟩
    | _ => cases e

/-! ### items -/
theorem ixN_eq (n : Nat) (i : Int) : PD.ixN n i = L2.ixN n i := rfl
theorem at_of_item {K : Fr} {ha : Addr} {H : Hp} {ds : List D} {vs : List V} {i : Int} {d : D} (t : Dats K ha H vs ds) (e : ((PD.ixN ds.length i).bind fun j => ds[j]?) = some d) : ∃ v, atI vs i = some v ∧ Dat K ha H v d := by
  cases q : PD.ixN ds.length i with
  | none => rw [q] at e; cases e
  | some j =>
    rw [q] at e
    obtain ⟨v, h1, h2⟩ := t.get (i := j) e
    refine ⟨v, ?_, h2⟩
    show (L2.ixN vs.length i).bind _ = _
    rw [t.length, ← ixN_eq, q]
    exact h1
def rIxD (K : Fr) : R2 := fun x y H Q => ∃ c g dx dy d, HandOk c.ha c.ca H g ∧ ¬ c.P c.ca ∧ DatP K c H x dx ∧ DatP K c H y dy ∧ itemS g dx dy = some d ∧ ∀ v, Dat K c.ha (hid c.P H) v d → Q v H
theorem ix_D : IxR X (rIxD X.K) := by
  intro value slice pins s σ H x y v u Q I rx ry h hs
  obtain ⟨c, g, dx, dy, d, hh, nca, h1, h2, e, q⟩ := h
  cases dx with
  | lst ds =>
    cases dy with
    | int i =>
      obtain ⟨a, xs, rfl, ha, t⟩ := h1.lst
      have ey := h2.int
      obtain ⟨w, hw, tw⟩ := at_of_item t e
      exact ix_list value slice pins s σ H _ _ v u Q I rx ry ⟨a, xs, i, w, rfl, ey, SqL.of ha, hw, q w tw⟩ hs
    | _ => cases e
  | tup ds =>
    cases dy with
    | int i =>
      obtain ⟨a, xs, rfl, ha, _, t⟩ := h1.tup
      have ey := h2.int
      obtain ⟨w, hw, tw⟩ := at_of_item t e
      exact ix_tup value slice pins s σ H _ _ v u Q I rx ry ⟨a, xs, i, w, rfl, ey, ha, hw, q w tw⟩ hs
    | _ => cases e
  | hand =>
    cases dy with
    | int i =>
      have h1 : Dat X.K c.ha (hid c.P H) x .hand := h1
      have ex : x = .ref c.ha := dat_hand.mp h1
      have ey := h2.int
      obtain ⟨hl, hc, _⟩ := hh
      have e : handAt g i = some d := e
      have go : ∀ w, atI [V.ref c.ca, V.int g.ix, V.int g.rest, V.int g.total] i = some w → Dat X.K c.ha (hid c.P H) w d → _ := fun w hw tw =>
        ix_list value slice pins s σ H _ _ v u Q I rx ry ⟨c.ha, _, i, w, ex, ey, SqL.of hl, hw, q w tw⟩ hs
      unfold handAt at e
      split at e
      · rename_i hi
        subst hi
        cases e
        exact go (.ref c.ca) rfl (dat_lst.mpr ⟨c.ca, _, rfl, hid_mk nca hc, Dats.of_ints _⟩)
      · split at e
        · rename_i hi
          subst hi
          cases e
          exact go _ rfl (dat_int.mpr rfl)
        · split at e
          · rename_i hi
            subst hi
            cases e
            exact go _ rfl (dat_int.mpr rfl)
          · split at e
            · rename_i hi
              subst hi
              cases e
              exact go _ rfl (dat_int.mpr rfl)
            · cases e
    | _ => cases e
  | _ => cases e

/-! ### slices -/
theorem sIx_eq (n d : Nat) (o : Option Int) : PD.sIx n d o = HT.sIx n d o := by
  cases o with
  | none => rfl
  | some v =>
    have h := HT.clip_eq v n d
    show (if v < 0 then (max (v + (n : Int)) 0).toNat else (min v (n : Int)).toNat) = _
    by_cases hv : v < 0
    · rw [if_pos hv] at h ⊢
      omega
    · rw [if_neg hv] at h ⊢
      omega
def rSlD (K : Fr) : V → Option Int → Option Int → Hp → VK → Prop := fun x lo hi H Q => ∃ c dx r, Obs c H ∧ DatP K c H x dx ∧ slice dx lo hi = some r ∧ Wish K c H r Q
theorem dats_cut {K : Fr} {ha : Addr} {H : Hp} {ds : List D} {vs : List V} (t : Dats K ha H vs ds) (lo hi : Option Int) : Dats K ha H (cutV vs lo hi) (cut ds lo hi) := by
  unfold cutV cut
  rw [t.length, ← sIx_eq, ← sIx_eq]
  exact (t.drop _).take _
theorem sl_D : SlR X (rSlD X.K) := by
  intro pins s σ H x v vl vu lo hi sl Q I rx hs pl pu h
  obtain ⟨c, dx, r, ho, h1, e, q⟩ := h
  cases dx with
  | lst ds =>
    cases e
    obtain ⟨a, xs, rfl, ha, t⟩ := h1.lst
    exact sl_list pins s σ H _ v vl vu lo hi sl Q I rx hs pl pu ⟨a, xs, rfl, SqL.of ha, fun p hp => q p _ hp (dats_cut t lo hi)⟩
  | tup ds =>
    cases e
    obtain ⟨a, xs, rfl, ha, ha', t⟩ := h1.tup
    refine sl_tupA pins s σ H _ v vl vu lo hi sl Q I rx hs pl pu ⟨a, xs, rfl, ha, fun hw => ?_, fun _ => q.tup ho (dats_cut t lo hi)⟩
    have e : cut ds lo hi = ds := by
      unfold cut
      rw [sIx_eq, sIx_eq, ← t.length, hw.1, hw.2]
      simp [t.length]
    exact q.pure (by rw [e]; exact dat_tup.mpr ⟨a, xs, rfl, ha', t⟩)
  | _ => cases e

/-! ### built-in defs -/
def bval : B → Value
  | .len => .builtin "len"
  | .abs => .builtin "abs"
  | .max => .builtin "max"
  | .min => .builtin "min"
  | .int => .type "int"
  | .sum => .builtin "sum"
  | .tuple => .type "tuple"
  | .list => .type "list"
  | .sorted => .builtin "sorted"
  | .all => .builtin "all"
  | .any => .builtin "any"
  | .repr => .builtin "repr"
  | .bool => .type "bool"
theorem insI_perm (x : Int) : ∀ l : List Int, (insI x l).Perm (x :: l)
  | [] => List.Perm.refl _
  | y :: ys => by
    unfold insI
    split
    · exact List.Perm.refl _
    · exact (List.Perm.cons y (insI_perm x ys)).trans (List.Perm.swap x y ys)
theorem sortI_perm : ∀ l : List Int, (sortI l).Perm l
  | [] => List.Perm.refl _
  | x :: xs => (insI_perm x (sortI xs)).trans (List.Perm.cons x (sortI_perm xs))
theorem insI_sorted (x : Int) : ∀ l : List Int, l.Pairwise (· ≤ ·) → (insI x l).Pairwise (· ≤ ·)
  | [], _ => by simp [insI]
  | y :: ys, h => by
    unfold insI
    have h' := List.pairwise_cons.mp h
    split
    · rename_i hxy
      refine List.pairwise_cons.mpr ⟨fun z hz => ?_, h⟩
      rcases List.mem_cons.mp hz with rfl | hz
      · exact hxy
      · exact Int.le_trans hxy (h'.1 z hz)
    · rename_i hxy
      refine List.pairwise_cons.mpr ⟨fun z hz => ?_, insI_sorted x ys h'.2⟩
      rcases List.mem_cons.mp ((insI_perm x ys).mem_iff.mp hz) with rfl | hz
      · omega
      · exact h'.1 z hz
theorem sortI_sorted : ∀ l : List Int, (sortI l).Pairwise (· ≤ ·)
  | [] => List.Pairwise.nil
  | x :: xs => insI_sorted x _ (sortI_sorted xs)
theorem sorted_unique : ∀ {l m : List Int}, l.Perm m → l.Pairwise (· ≤ ·) → m.Pairwise (· ≤ ·) → l = m
  | [], m, p, _, _ => (List.nil_perm.mp p).symm
  | x :: xs, m, p, hl, hm => by
    cases m with
    | nil => exact absurd (List.perm_nil.mp p) (by simp)
    | cons y ys =>
      have hl' := List.pairwise_cons.mp hl
      have hm' := List.pairwise_cons.mp hm
      have e : x = y := by
        have h1 : x ∈ y :: ys := p.mem_iff.mp List.mem_cons_self
        have h2 : y ∈ x :: xs := p.mem_iff.mpr List.mem_cons_self
        rcases List.mem_cons.mp h1 with h1 | h1
        · exact h1
        · rcases List.mem_cons.mp h2 with h2 | h2
          · exact h2.symm
          · have := hl'.1 y h2
            have := hm'.1 x h1
            omega
      subst e
      rw [sorted_unique (List.Perm.cons_inv p) hl'.2 hm'.2]
theorem maxI_of (x : Int) : ∀ (l : List Int), maxI x l ∈ x :: l ∧ ∀ y ∈ x :: l, y ≤ maxI x l
  | [] => by simp [maxI]
  | y :: ys => by
    obtain ⟨h1, h2⟩ := maxI_of (if y > x then y else x) ys
    have e : maxI x (y :: ys) = maxI (if y > x then y else x) ys := rfl
    rw [e]
    have h3 := h2 _ List.mem_cons_self
    generalize maxI (if y > x then y else x) ys = m at *
    refine ⟨?_, fun z hz => ?_⟩
    · rcases List.mem_cons.mp h1 with h | h
      · rw [h]; split <;> simp
      · exact List.mem_cons_of_mem _ (List.mem_cons_of_mem _ h)
    · rcases List.mem_cons.mp hz with rfl | hz
      · split at h3 <;> omega
      · rcases List.mem_cons.mp hz with rfl | hz
        · split at h3 <;> omega
        · exact h2 z (List.mem_cons_of_mem _ hz)
theorem minI_of (x : Int) : ∀ (l : List Int), minI x l ∈ x :: l ∧ ∀ y ∈ x :: l, minI x l ≤ y
  | [] => by simp [minI]
  | y :: ys => by
    obtain ⟨h1, h2⟩ := minI_of (if y < x then y else x) ys
    have e : minI x (y :: ys) = minI (if y < x then y else x) ys := rfl
    rw [e]
    have h3 := h2 _ List.mem_cons_self
    generalize minI (if y < x then y else x) ys = m at *
    refine ⟨?_, fun z hz => ?_⟩
    · rcases List.mem_cons.mp h1 with h | h
      · rw [h]; split <;> simp
      · exact List.mem_cons_of_mem _ (List.mem_cons_of_mem _ h)
    · rcases List.mem_cons.mp hz with rfl | hz
      · split at h3 <;> omega
      · rcases List.mem_cons.mp hz with rfl | hz
        · split at h3 <;> omega
        · exact h2 z (List.mem_cons_of_mem _ hz)
def rBltD (K : Fr) (b : B) : List V → Hp → VK → Prop := fun vs H Q => ∃ c ds r, Obs c H ∧ DatPs K c H vs ds ∧ blt b ds = some r ∧ Wish K c H r Q
theorem repr_run (hg : X.A.guards = some []) (hu : X.A.units + 100 < cLine) {pins : List (Addr × Obj)} {s : Shared} {σ : L2.St} {H : Hp} {x : V} {u : Value} {Q : VK} {c : Cf} {d : D} (I : Inv X pins σ H s) (rx : RelV x u)
    (h : DatP X.K c H x d) (h1 : d.py.showable = true) (hn : d.nh = true) (h3 : d.py.depth ≤ 64) (h4 : d.py.shown.length ≤ sizeLine) (q : Q (.str d.py.shown) H) :
    wpAny (model X.prog X.w) X.A (call (.builtin "repr") [u]) (EP X pins σ Q) X.xe s := by
  have hd : Dat X.K c.ha H x d := by
    cases d with
    | lst ds =>
      obtain ⟨a, xs, e, hq, t⟩ := h.lst
      exact dat_lst.mpr ⟨a, xs, e, hq, Dats.mono same_un _ _ t⟩
    | _ => exact Dat.mono same_un _ _ (h.dat fun _ z => by cases z)
  exact repr_data hg hu I rx hn hd h1 h3 h4 q
/-- sum of a tuple of whole numbers -/
theorem sum_tup (hc : X.calm = true) (pins : List (Addr × Obj)) (s : Shared) (σ : L2.St) (H : Hp) {a : Addr} {ns : List Int} (us : List Value) (Q : VK) (I : Inv X pins σ H s) (r : Vals [V.ref a] us)
    (ha : SqT X.K H a (ns.map V.int)) (q : Q (.int ns.sum) H) : wpAny (model X.prog X.w) X.A (call (.builtin "sum") us) (EP X pins σ Q) X.xe s := by
  obtain ⟨its, rv, ht, _⟩ := I.tuple ha
  rw [Vals.ref1 r]
  have hi := rv.ints
  obtain ⟨xs, e⟩ := hi.allInts.items
  have hn := hi.numsOf
  have e' : its = (intItems xs).toList := by simpa using congrArg Array.toList e
  rw [e', nums_intItems] at hn
  rw [e] at ht
  refine PySem.W.ktm_sumG (I.ok.hd hc) (show s.heap.IsTuple a (intItems xs) from ht) fun h' tk t' hk => ⟨.int ns.sum, H, I.kept hk, ⟨t', ?_⟩, q⟩
  rw [preSum_eq, List.take_of_length_le (by simp), hn]
theorem call_bltD (hc : X.calm = true) (hg : X.A.guards = some []) (hu : X.A.units + 100 < cLine) (b : B) : CallR X (bval b) (rBltD X.K b) := by
  intro pins s σ H vs us Q I r h
  obtain ⟨c, ds, rr, ho, h1, e, q⟩ := h
  unfold blt at e
  split at e
  · cases e
    obtain ⟨v, ws, rfl, d1, d2⟩ := h1.cons_out
    cases d2.nil_out
    obtain ⟨a, xs, rfl, ha, t⟩ := d1.lst
    exact call_len_seq pins s σ H _ us Q I r ⟨a, xs, rfl, .inl (SqL.of ha), by rw [t.length]; exact q.pure (dat_int.mpr rfl)⟩
  · cases e
    obtain ⟨v, ws, rfl, d1, d2⟩ := h1.cons_out
    cases d2.nil_out
    obtain ⟨a, xs, rfl, ha, _, t⟩ := d1.tup
    exact call_len_seq pins s σ H _ us Q I r ⟨a, xs, rfl, .inr ha, by rw [t.length]; exact q.pure (dat_int.mpr rfl)⟩
  · split at e
    · cases e
      obtain ⟨v, ws, rfl, d1, d2⟩ := h1.cons_out
      cases d2.nil_out
      exact call_len_str pins s σ H _ us Q I r ⟨_, by rw [d1.str], by assumption, q.pure (dat_int.mpr rfl)⟩
    · cases e
  · cases e
    obtain ⟨v, ws, rfl, d1, d2⟩ := h1.cons_out
    cases d2.nil_out
    exact call_abs pins s σ H _ us Q I r ⟨_, by rw [d1.int], q.pure (dat_int.mpr rfl)⟩
  · cases e
    obtain ⟨v, ws, rfl, d1, d2⟩ := h1.cons_out
    obtain ⟨v2, ws2, rfl, d3, d4⟩ := d2.cons_out
    cases d4.nil_out
    exact call_max2 hc pins s σ H _ us Q I r ⟨_, _, by rw [d1.int, d3.int], q.pure (dat_int.mpr rfl)⟩
  · cases e
    obtain ⟨v, ws, rfl, d1, d2⟩ := h1.cons_out
    obtain ⟨v2, ws2, rfl, d3, d4⟩ := d2.cons_out
    cases d4.nil_out
    exact call_min2 hc pins s σ H _ us Q I r ⟨_, _, by rw [d1.int, d3.int], q.pure (dat_int.mpr rfl)⟩
  · rename_i i xs
    rw [Option.map_eq_some_iff] at e
    obtain ⟨ns, e, rfl⟩ := e
    obtain ⟨v, ws, rfl, d1, d2⟩ := h1.cons_out
    cases d2.nil_out
    obtain ⟨a, zs, rfl, ha, t⟩ := d1.lst
    have ez := t.ints (ns := i :: ns) (by simp [toInts, e])
    subst ez
    obtain ⟨m1, m2⟩ := maxI_of i ns
    refine cr_max hc pins s σ H _ us Q I r ⟨a, i :: ns, rfl, SqL.of ha, by simp, fun m hm hle => ?_⟩
    have em : m = maxI i ns := by
      have := hle _ m1
      have := m2 m hm
      omega
    subst em
    exact q.pure (dat_int.mpr rfl)
  · rename_i i xs
    rw [Option.map_eq_some_iff] at e
    obtain ⟨ns, e, rfl⟩ := e
    obtain ⟨v, ws, rfl, d1, d2⟩ := h1.cons_out
    cases d2.nil_out
    obtain ⟨a, zs, rfl, ha, t⟩ := d1.lst
    have ez := t.ints (ns := i :: ns) (by simp [toInts, e])
    subst ez
    obtain ⟨m1, m2⟩ := minI_of i ns
    refine cr_min hc pins s σ H _ us Q I r ⟨a, i :: ns, rfl, SqL.of ha, by simp, fun m hm hle => ?_⟩
    have em : m = minI i ns := by
      have := hle _ m1
      have := m2 m hm
      omega
    subst em
    exact q.pure (dat_int.mpr rfl)
  · cases e
    obtain ⟨v, ws, rfl, d1, d2⟩ := h1.cons_out
    cases d2.nil_out
    exact call_int1 pins s σ H _ us Q I r (.inl ⟨_, by rw [d1.int], q.pure (dat_int.mpr rfl)⟩)
  · cases e
    obtain ⟨v, ws, rfl, d1, d2⟩ := h1.cons_out
    cases d2.nil_out
    exact call_int1 pins s σ H _ us Q I r (.inr ⟨_, by rw [d1.bl], q.pure (dat_int.mpr rfl)⟩)
  · cases e
    obtain ⟨v, ws, rfl, d1, d2⟩ := h1.cons_out
    cases d2.nil_out
    exact call_bool1 pins s σ H _ us Q I r (.inl ⟨_, by rw [d1.int], q.pure (dat_bl.mpr rfl)⟩)
  · cases e
    obtain ⟨v, ws, rfl, d1, d2⟩ := h1.cons_out
    cases d2.nil_out
    exact call_bool1 pins s σ H _ us Q I r (.inr ⟨_, by rw [d1.bl], q.pure (dat_bl.mpr rfl)⟩)
  · rw [Option.map_eq_some_iff] at e
    obtain ⟨ns, e, rfl⟩ := e
    obtain ⟨v, ws, rfl, d1, d2⟩ := h1.cons_out
    cases d2.nil_out
    obtain ⟨a, zs, rfl, ha, t⟩ := d1.lst
    have ez := t.ints e
    subst ez
    exact cr_sum hc pins s σ H _ us Q I r ⟨a, ns, rfl, SqL.of ha, q.pure (dat_int.mpr rfl)⟩
  · rw [Option.map_eq_some_iff] at e
    obtain ⟨ns, e, rfl⟩ := e
    obtain ⟨v, ws, rfl, d1, d2⟩ := h1.cons_out
    cases d2.nil_out
    obtain ⟨a, zs, rfl, ha, _, t⟩ := d1.tup
    have ez := t.ints e
    subst ez
    exact sum_tup hc pins s σ H us Q I r ha (q.pure (dat_int.mpr rfl))
  · cases e
    obtain ⟨v, ws, rfl, d1, d2⟩ := h1.cons_out
    cases d2.nil_out
    obtain ⟨a, xs, rfl, ha, t⟩ := d1.lst
    exact call_tuple_of pins s σ H _ us Q I r ⟨a, xs, rfl, .inl ⟨SqL.of ha, q.tup ho t⟩⟩
  · cases e
    obtain ⟨v, ws, rfl, d1, d2⟩ := h1.cons_out
    cases d2.nil_out
    obtain ⟨a, xs, rfl, ha, ha', t⟩ := d1.tup
    exact call_tuple_of pins s σ H _ us Q I r ⟨a, xs, rfl, .inr ⟨ha, q.pure (dat_tup.mpr ⟨a, xs, rfl, ha', t⟩)⟩⟩
  · cases e
    obtain ⟨v, ws, rfl, d1, d2⟩ := h1.cons_out
    cases d2.nil_out
    obtain ⟨a, xs, rfl, ha, t⟩ := d1.lst
    exact call_list_of pins s σ H _ us Q I r ⟨a, xs, rfl, .inl (SqL.of ha), fun l hl => q l _ hl t⟩
  · cases e
    obtain ⟨v, ws, rfl, d1, d2⟩ := h1.cons_out
    cases d2.nil_out
    obtain ⟨a, xs, rfl, ha, _, t⟩ := d1.tup
    exact call_list_of pins s σ H _ us Q I r ⟨a, xs, rfl, .inr ha, fun l hl => q l _ hl t⟩
  · rw [Option.map_eq_some_iff] at e
    obtain ⟨ns, e, rfl⟩ := e
    obtain ⟨v, ws, rfl, d1, d2⟩ := h1.cons_out
    cases d2.nil_out
    obtain ⟨a, zs, rfl, ha, t⟩ := d1.lst
    have ez := t.ints e
    subst ez
    refine cr_sortedI pins s σ H _ us Q I r ⟨a, ns, rfl, SqL.of ha, fun ns' p hp hs hn => ?_⟩
    have em := sorted_unique (hp.trans (sortI_perm ns).symm) hs (sortI_sorted ns)
    subst em
    exact q p _ hn (Dats.of_ints _)
  · rw [Option.map_eq_some_iff] at e
    obtain ⟨ns, e, rfl⟩ := e
    obtain ⟨v, ws, rfl, d1, d2⟩ := h1.cons_out
    cases d2.nil_out
    obtain ⟨a, zs, rfl, ha, t⟩ := d1.lst
    have ez := t.bools e
    subst ez
    exact cr_all hc pins s σ H _ us Q I r ⟨a, ns, rfl, SqL.of ha, q.pure (dat_bl.mpr rfl)⟩
  · rw [Option.map_eq_some_iff] at e
    obtain ⟨ns, e, rfl⟩ := e
    obtain ⟨v, ws, rfl, d1, d2⟩ := h1.cons_out
    cases d2.nil_out
    obtain ⟨a, zs, rfl, ha, t⟩ := d1.lst
    have ez := t.bools e
    subst ez
    exact cr_any hc pins s σ H _ us Q I r ⟨a, ns, rfl, SqL.of ha, q.pure (dat_bl.mpr rfl)⟩
  · split at e
    · rename_i hz
      cases e
      obtain ⟨v, ws, rfl, d1, d2⟩ := h1.cons_out
      cases d2.nil_out
      obtain ⟨u, rfl, rx⟩ := vals1 r
      simp only [Bool.and_eq_true, decide_eq_true_eq] at hz
      exact repr_run hg hu I rx d1 hz.1.2 hz.1.1.1 hz.1.1.2 hz.2 (q.pure (dat_str.mpr rfl))
    · cases e
  · cases e
end
end PD

set_option Elab.async false
set_option linter.all false
set_option maxRecDepth 100000
set_option maxHeartbeats 4000000
/-! PyS5: what a def of the program promises (by a function on plain data), its calls. -/
namespace PD
open PySem PySem.Spec PyProof.Rows L2

def FPost (K : Fr) (ha ca : Addr) (P : Addr → Prop) (H : Hp) (r : R) (g : Hand) (v : V) (H' : Hp) : Prop :=
  (∀ b o, b ≠ ha → H b = some o → H' b = some o) ∧ HandOk ha ca H' g ∧
    match r with
    | .d x => Dat K ha (hid P H') v x
    | .f xs => ∃ p vs, v = .ref p ∧ H p = none ∧ H' p = some (.lst vs) ∧ Dats K ha (hid (fun b => P b ∨ b = p) H') vs xs
/-- the promise by φ -/
def spG (K : Fr) (xa : XA) (n : Nat) (φ : List D → Hand → FR) : Sp := fun vs H Q E => vs.length = n ∧ ∃ ha ca P ds g, P ha ∧ (∀ b, P b → ∃ o, H b = some o) ∧ HandOk ha ca H g ∧ ¬ P ca ∧ Dats K ha (hid P H) vs ds ∧
  match φ ds g with
  | .ret r g' => ∀ v H', FPost K ha ca P H r g' v H' → Q v H'
  | .ex e g' => ∀ cls d H', (∀ b o, b ≠ ha → H b = some o → H' b = some o) → HandOk ha ca H' g' → xa e cls d (hid P H') ha → E cls d H'
  | .bad => False
/-- a def keeps a promise wherever no text is being made -/
structure FnG (P : Program) (w : World) (K : Fr) (mg : Str → Option Value) (base : Heap) (k : Nat) (f : Addr) (fd : FuncData) (ps : List Str) (sp : Sp) : Prop where
  len : ∀ vs H Q E, sp vs H Q E → vs.length = ps.length
  run : ∀ (A : Around) (outer : List Env) (s : Shared) (H : Hp) (args : Args) (us : List Value) (vs : List V) (Q : VK) (E : XK), Room k A → A.guards = some [] → Env0 P w K mg base A outer s H → BindsTo s fd args (ps.zip us) → Vals vs us → sp vs H Q E →
    codeAny (model P w) A (.call (.ref f) args) (CR (L2.CX P w) outer P w H s Q E) s
theorem FnG.mono {P : Program} {w : World} {K : Fr} {mg : Str → Option Value} {base : Heap} {j k : Nat} {f : Addr} {fd : FuncData} {ps : List Str} {sp : Sp} (F : FnG P w K mg base j f fd ps sp) (h : j ≤ k) : FnG P w K mg base k f fd ps sp :=
  ⟨F.len, fun A outer s H args us vs Q E hr => F.run A outer s H args us vs Q E (hr.mono h)⟩
theorem FnG.weaker {P : Program} {w : World} {K : Fr} {mg : Str → Option Value} {base : Heap} {k : Nat} {f : Addr} {fd : FuncData} {ps : List Str} {sp sp' : Sp} (F : FnG P w K mg base k f fd ps sp) (h : ∀ vs H Q E, sp' vs H Q E → sp vs H Q E) : FnG P w K mg base k f fd ps sp' :=
  ⟨fun vs H Q E q => F.len vs H Q E (h _ _ _ _ q), fun A outer s H args us vs Q E hr hg he hb hv hs => F.run A outer s H args us vs Q E hr hg he hb hv (h _ _ _ _ hs)⟩
theorem guards_deeper {A : Around} {env : Env} (h : A.guards = some []) : (A.deeper env).guards = some [] := h

section
variable {X : Cx} {k : Nat} {f : Addr} {fd : FuncData} {ps : List Str} {sp : Sp} {dvs : List V} {ds : List Value} {W : WX} {x : Str} {p pos : Pos} {es : List Expr} {t : TA}
/-- the reading of a call: what is raised is wished for at the caller's slots -/
def tCallG (sp : Sp) (dvs : List V) (W : WX) (t : TA) : TE := fun σ H Q => t σ H fun vs H1 => sp (vs ++ dvs) H1 Q fun cls d H' => W cls d σ H'
theorem runG {pins : List (Addr × Obj)} {σ : L2.St} {H : Hp} {s : Shared} {Q : VK} {us : List Value} {vs : List V} (F : FnG X.prog X.w X.K X.mg X.base k f fd ps sp) (hr : Room k X.A) (hg : X.A.guards = some []) (hb : Binds X.K fd ps ds) (hd : Vals dvs ds) (tk : Takes X W)
    (I : Inv X pins σ H s) (r : Vals vs us) (h : sp (vs ++ dvs) H Q fun cls d H' => W cls d σ H') : wpAny (model X.prog X.w) X.A (call (.ref f) us) (EP X pins σ Q) X.xe s := by
  have r2 := r.append hd
  have len2 : (us ++ ds).length = ps.length := r2.length.symm.trans (F.len _ _ _ _ h)
  have go := F.run X.A X.stack s H ⟨us, []⟩ (us ++ ds) (vs ++ dvs) Q _ hr hg I.env0 (hb s us I.kIn len2) r2 h
  refine wpAny_call (codeAny_mono go fun res s' hq => ?_)
  match res, hq with
  | .error e, hq => exact tk e s' (XE.of_call I (fun _ _ _ z => z) hq)
  | .ok (.ret u), hq => exact I.after hq
  | .ok .next, hq => exact hq.elim
  | .ok .brk, hq => exact hq.elim
  | .ok .cont, hq => exact hq.elim
theorem pe_callG0 (F : FnG X.prog X.w X.K X.mg X.base k f fd ps sp) (hr : Room k X.A) (hgu : X.A.guards = some []) (hg : Gl X x) (hm : X.mg x = some (.ref f)) (hk : PySem.W.keepIn X.K (.ref f) = true) (hb : Binds X.K fd ps ds) (hd : Vals dvs ds) (tk : Takes X W)
    (hdb : (x == ("__debug__" : Str)) = false) : PE X (.Call (.Name x p) [] [] pos) (tCallG sp dvs W tNil) :=
  ⟨fun pins s σ H Q I h => wpAny_Call_Name_kw (ld_glob I hg hm (PySem.W.callWith_K0 I.kIn hk (runG (us := []) F hr hgu hb hd tk I .nil h)) hdb)⟩
/-- no argument is starred -/
def Plain (es : List Expr) (env : Env) : Prop := starEach es env = es.map fun e => (false, eval e env)
theorem Plain.tail {e : Expr} {es : List Expr} {env : Env} (h : Plain (e :: es) env) : Plain es env := by
  unfold Plain at h ⊢
  cases e <;> first | exact (List.cons.inj h).2 | (exact absurd (congrArg Prod.fst (List.cons.inj h).1) (by simp))
theorem Plain.head {e : Expr} {es : List Expr} {env : Env} (h : Plain (e :: es) env) : starEach (e :: es) env = (false, eval e env) :: starEach es env := by
  have h2 := h.tail
  unfold Plain at h h2
  rw [h, h2]; rfl
theorem Plain.any {es : List Expr} {env : Env} (h : Plain es env) (pos : Pos) : (backTo pos (starEach es env)).any (·.1) = false := by
  unfold Plain at h
  rw [h]
  simp [backTo]
theorem pe_callG (F : FnG X.prog X.w X.K X.mg X.base k f fd ps sp) (hr : Room k X.A) (hgu : X.A.guards = some []) (hg : Gl X x) (hm : X.mg x = some (.ref f)) (hk : PySem.W.keepIn X.K (.ref f) = true) (hb : Binds X.K fd ps ds) (hd : Vals dvs ds) (tk : Takes X W) {e : Expr}
    (ha : PA X (e :: es) t) (hdb : (x == ("__debug__" : Str)) = false) (hst : Plain (e :: es) X.env) : PE X (.Call (.Name x p) (e :: es) [] pos) (tCallG sp dvs W t) :=
  ⟨fun pins s σ H Q I h => wpAny_Call_Name_kw (ld_glob I hg hm (PySem.W.callWith_K (h₀ := X.base) I.ok.mod.kin hk (thn (ha.run pos pins s σ H _ I h) fun us s1 ⟨vs, H1, I1, r, q⟩ => ⟨I1.kIn, runG F hr hgu hb hd tk I1 r q⟩) hst.head (hst.tail.any pos)) hdb)⟩
end
end PD

set_option Elab.async false
set_option linter.all false
set_option maxRecDepth 100000
set_option maxHeartbeats 4000000
/-! PyX0: own classes of errors: what stands of them, their __init__, what an error in the air is. -/
namespace PD
open PySem PySem.Spec PyProof.Rows L2

/-- what __init__ promises: every argument is a field -/
def spInit (K : Fr) (C : Addr) (fs : List Str) : Sp := fun vs H Q _ => ∃ (a : Addr) (xs : List V), vs = .ref a :: xs ∧ xs.length = fs.length ∧ H a = some (exo a C none) ∧ OexC K C ∧ (∀ f ∈ fs, PySem.W.findIn K (.ref C) f = some none) ∧
  ∀ (dx : Addr) (H2 : Hp), H dx = none → dx ≠ a → H2 a = some (exo a C (some dx)) → H2 dx = some (exd dx (fs.zip xs).reverse) → (∀ b, b ≠ a → b ≠ dx → H2 b = H b) → Q .non H2
inductive InitBody : List Str → List Stmt → Prop where
  | one {f : Str} {p1 p2 p3 p4 : Pos} : InitBody [f] [.Assign [.Attribute (.Name "self" p1) f p2] (.Name f p3) p4]
  | two {f g : Str} {p1 p2 p3 p4 q1 q2 q3 q4 : Pos} : InitBody [f, g] [.Assign [.Attribute (.Name "self" p1) f p2] (.Name f p3) p4, .Assign [.Attribute (.Name "self" q1) g q2] (.Name g q3) q4]
def plainNm (x : Str) : Bool := !(x == ("__debug__" : Str)) && !(x == ("__classdict__" : Str))
section
variable {P : Program} {w : World} {K : Fr} {mg : Str → Option Value} {base : Heap}
theorem init_ok {fI C : Addr} {nm qual : Str} {pa : Arguments} {body : List Stmt} {sc : Scope} {dV kV doc pm cdv ct oc : Value} {an od : Option Addr} {osl : Array (Option Value)} {fs : List Str}
    (lk : K.lookup fI = some ⟨oc, od, .func (PySem.W.fnOf nm qual pa body sc dV kV doc pm an cdv ct), osl⟩) (code : PySem.W.codeIn K cdv qual = true) (S : FnScope ("self" :: fs) ("self" :: fs) sc) (hn : fs.all plainNm = true) (IB : InitBody fs body) :
    FnOk P w K mg base (L2.CX P w) 1 fI (PySem.W.fnOf nm qual pa body sc dV kV doc pm an cdv ct) ("self" :: fs) (spInit K C fs) := by
  have vis : ∀ x ∈ ("self" :: fs : List Str), Vis sc x := fun x hx => (S.par x hx).elim .inl fun z => .inr (.inl z)
  have vs0 := vis "self" List.mem_cons_self
  refine fn_of lk code S (fun vs H Q E ⟨a, xs, e, hl, _⟩ => by rw [e, List.length_cons, hl]; rfl) fun A outer s H vs Q E room say => ?_
  obtain ⟨a, xs, rfl, hl, ha, T, hno, k⟩ := say
  cases IB with
  | @one f p1 p2 p3 p4 =>
    obtain ⟨y, rfl⟩ := List.length_eq_one_iff.mp hl
    have hf := List.all_eq_true.mp hn f List.mem_cons_self
    unfold plainNm at hf
    simp only [Bool.and_eq_true, Bool.not_eq_true'] at hf
    refine ⟨_, pss_cons (ps_ost (pe_var (i := 0) rfl vs0) (pe_var (i := 1) rfl (vis f (by simp)) hf.1 hf.2)) pss_nil, ?_⟩
    refine ⟨y, rfl, .ref a, rfl, a, C, rfl, T, hno f List.mem_cons_self, .inl ⟨ha, fun dx hd ne => ?_⟩⟩
    exact k dx _ hd ne upd_same (by rw [upd_ne ne, upd_same]; rfl) fun b n1 n2 => by rw [upd_ne n1, upd_ne n2]
  | @two f f' p1 p2 p3 p4 q1 q2 q3 q4 =>
    obtain ⟨y, z, rfl⟩ : ∃ y z, xs = [y, z] := by
      match xs, hl with
      | [y, z], _ => exact ⟨y, z, rfl⟩
    have hf := List.all_eq_true.mp hn f List.mem_cons_self
    have hf' := List.all_eq_true.mp hn f' (by simp)
    unfold plainNm at hf hf'
    simp only [Bool.and_eq_true, Bool.not_eq_true'] at hf hf'
    refine ⟨_, pss_cons (ps_ost (pe_var (i := 0) rfl vs0) (pe_var (i := 1) rfl (vis f (by simp)) hf.1 hf.2)) (pss_cons (ps_ost (pe_var (i := 0) rfl vs0) (pe_var (i := 2) rfl (vis f' (by simp)) hf'.1 hf'.2)) pss_nil), ?_⟩
    refine ⟨y, rfl, .ref a, rfl, a, C, rfl, T, hno f List.mem_cons_self, .inl ⟨ha, fun dx hd ne => ?_⟩⟩
    refine ⟨z, rfl, .ref a, rfl, a, C, rfl, T, hno f' (by simp), .inr ⟨dx, [(f, y)], upd_same, by rw [upd_ne ne, upd_same], by simp, ?_⟩⟩
    exact k dx _ hd ne (by rw [upd_ne (Ne.symm ne), upd_same]) (by rw [upd_same]; rfl) fun b n1 n2 => by rw [upd_ne n2, upd_ne n1, upd_ne n2]
end
/-- what stands of an own class of errors: no field and no __init__, or one or two fields and an __init__ that stores them -/
structure ClsAt (P : Program) (w : World) (K : Fr) (mg : Str → Option Value) (base : Heap) (x : Str) (fs : List Str) (C : Addr) : Prop where
  at_ : mg x = some (.ref C)
  kp : PySem.W.keepIn K (.ref C) = true
  ty : PySem.W.typeIn K (.ref C) = some (.type "type")
  xc : ExcC K C
  no : ∀ f ∈ fs, PySem.W.findIn K (.ref C) f = some none
  nd : fs.Nodup
  ve : PySem.W.kitOne K (.ref C) (.type "ValueError") = some true
  how : (fs = [] ∧ PySem.W.excIn K C PySem.HandSPX.veTail "ValueError.__new__" = true) ∨
    (fs ≠ [] ∧ fs.length ≤ 2 ∧ OexC K C ∧ ∃ fI fd, PySem.W.findIn K (.ref C) "__init__" = some (some (.ref fI)) ∧ PySem.W.typeIn K (.ref fI) = some (.type "function") ∧ Binds K fd ("self" :: fs) [] ∧ FnOk P w K mg base (L2.CX P w) 1 fI fd ("self" :: fs) (spInit K C fs))
/-- an error in the air -/
def xaOf (K : Fr) (xn : List (Str × List Str)) (ad : Nat → Addr) : XA := fun e cls d H ha => cls = .ref (ad e.c) ∧ ∃ q, xn[e.c]? = some q ∧ e.fs.length = q.2.length ∧
  ((q.2 = [] ∧ d = none) ∨ ∃ dd fl, d = some dd ∧ H dd = some (.xd fl) ∧ ∀ (k : Nat) (f : Str) (x : D), q.2[k]? = some f → e.fs[k]? = some x → ∃ v, fl.lookup f = some v ∧ Dat K ha H v x)
theorem xaOf_mono {K : Fr} {xn : List (Str × List Str)} {ad : Nat → Addr} : ∀ e cls d H H' ha, Same H H' → xaOf K xn ad e cls d H ha → xaOf K xn ad e cls d H' ha := fun e cls d H H' ha sm ⟨h1, q, h2, h3, h4⟩ => by
  refine ⟨h1, q, h2, h3, ?_⟩
  rcases h4 with h4 | ⟨dd, fl, e1, e2, h4⟩
  · exact .inl h4
  · refine .inr ⟨dd, fl, e1, sm _ _ e2, fun k f x z1 z2 => ?_⟩
    obtain ⟨v, h5, h6⟩ := h4 k f x z1 z2
    exact ⟨v, h5, Dat.mono sm _ _ h6⟩
theorem look_zip : ∀ {fs : List Str} {vs : List V} {k : Nat} {f : Str}, fs.Nodup → fs.length ≤ 2 → vs.length = fs.length → fs[k]? = some f → ∃ v, vs[k]? = some v ∧ ((fs.zip vs).reverse).lookup f = some v := by
  intro fs vs k f nd hl he hk
  match fs, vs, he with
  | [], [], _ => simp at hk
  | [a], [x], _ =>
    cases k with
    | zero => simp at hk; subst hk; exact ⟨x, rfl, by simp [List.lookup]⟩
    | succ k => simp at hk
  | [a, b], [x, y], _ =>
    have hab : a ≠ b := by simp at nd; exact nd
    match k with
    | 0 =>
      simp at hk; subst hk
      have q : (a == b) = false := by simpa using hab
      exact ⟨x, rfl, by simp [List.lookup, q]⟩
    | 1 => simp at hk; subst hk; exact ⟨y, rfl, by simp [List.lookup]⟩
    | k + 2 => simp at hk
  | _ :: _ :: _ :: _, _, _ => simp at hl
/-- making one -/
theorem pmk_none {X : Cx} {C : Addr} {x : Str} {p pos : Pos} (at_c : PySem.W.excIn X.K C PySem.HandSPX.veTail "ValueError.__new__" = true) (m : X.mg x = some (.ref C)) (kp : PySem.W.keepIn X.K (.ref C) = true) (r : Raises X (.ref C)) (gl : Gl X x) (hdb : (x == ("__debug__" : Str)) = false) :
    PMk X (.Call (.Name x p) [] [] pos) (fun _ H Q => Q (.ref C) none H) := fun pins s σ H Q I q => by
  refine wpAny_Call_Name_kw (ld_glob I gl m (PySem.W.callWith_K0 I.kIn kp ?_) hdb)
  obtain ⟨_, _, _, _, _, _, _, _, _, _, _, _, _, _, _, _, _, hC, hN, hi, tl⟩ := exc_obj I.kIn at_c
  exact wpAny_call_exc_subT PySem.F.excBase_ValueError tl hC hN hi fun h' e hm => mk_of I hm r q (I.hok.gone hm.new)
end PD

set_option Elab.async false
set_option linter.all false
set_option maxRecDepth 100000
set_option maxHeartbeats 4000000
/-! PyS6: readings of expressions by the evaluator, and the rules for them. -/
namespace PD
open PySem PySem.Spec PyProof.Rows L2

/-- the defs that may be called (name, number of arguments, number in the environment of functions), the built-in names that nobody stored -/
structure Nm where
  fns : List (Str × Nat × Nat)
  bl : List Str
  /-- the own classes of errors, by number: name and fields -/
  xn : List (Str × List Str)
  /-- the classes that except clauses and isinstance name, with the numbers of those below them -/
  hn : List (Str × List Nat)
  /-- constants of the modules -/
  cn : List (Str × D)
structure Tb where
  nm : Nm
  lv : Nat
  Φ : FEnv
  xa : XA
  xad : Nat → Addr
/-- a def of the table, as it stands -/
def FnIn (P : Program) (w : World) (K : Fr) (mg : Str → Option Value) (base : Heap) (T : Tb) (x : Str) (ar id : Nat) : Prop :=
  ∃ (f : Addr) (fd : FuncData) (ps : List Str) (dvs : List V) (ds : List Value) (dd : List D) (φ : List D → Hand → FR), FnG P w K mg base T.lv f fd ps (spG K T.xa ps.length φ) ∧ mg x = some (.ref f) ∧ PySem.W.keepIn K (.ref f) = true ∧ Binds K fd ps ds ∧ Vals dvs ds ∧
    (∀ ha H, Dats K ha H dvs dd) ∧ ar + dd.length = ps.length ∧ ∀ xs g, xs.length = ar → T.Φ id xs g ≠ .bad → T.Φ id xs g = φ (xs ++ dd) g
/-- the numbers of the classes that are below a named one -/
def HdAt (K : Fr) (mg : Str → Option Value) (T : Tb) (x : Str) (is : List Nat) : Prop := ∃ C, mg x = some (.ref C) ∧ ∀ i q, T.nm.xn[i]? = some q → PySem.W.exmOne K (.ref (T.xad i)) (.ref C) = some (decide (i ∈ is)) ∧ PySem.W.kitOne K (.ref (T.xad i)) (.ref C) = some (decide (i ∈ is))
def vOf : D → V
  | .int i => .int i
  | .bl b => .bl b
  | .str x => .str x
  | _ => .non
/-- what is known of the program behind its top -/
structure Glb (P : Program) (w : World) (K : Fr) (mg : Str → Option Value) (base : Heap) (T : Tb) : Prop where
  fns : ∀ e ∈ T.nm.fns, FnIn P w K mg base T e.1 e.2.1 e.2.2
  bl : ∀ x ∈ T.nm.bl, mg x = none
  lv : 2 ≤ T.lv
  xa : T.xa = xaOf K T.nm.xn T.xad
  xcl : ∀ i q, T.nm.xn[i]? = some q → ClsAt P w K mg base q.1 q.2 (T.xad i)
  hcl : ∀ e ∈ T.nm.hn, HdAt K mg T e.1 e.2
  cst : ∀ e ∈ T.nm.cn, flat e.2 = true ∧ ∃ u, mg e.1 = some u ∧ RelV (vOf e.2) u
/-- a context in which expressions run -/
structure GE (X : Cx) (T : Tb) (N : List Str) (sc : Scope) (W : WX) : Prop where
  nN : X.N = N
  nd : N.Nodup
  sco : X.env.scope = sc
  calm : X.calm = true
  room : Room T.lv X.A
  gd : X.A.guards = some []
  tk : Takes X W
  glb : Glb X.prog X.w X.K X.mg X.base T
theorem GE.hu {X : Cx} {T : Tb} {N : List Str} {sc : Scope} {W : WX} (g : GE X T N sc W) : X.A.units + 100 < cLine := by
  have := g.room.un
  omega

/-- what an expression's value is -/
def ValOk (K : Fr) (c : Cf) (H : Hp) (r : R) (v : V) : Prop :=
  match r with
  | .d x => c.x = none ∧ Dat K c.ha (hid c.P H) v x
  | .f xs => ∃ p vs, v = .ref p ∧ c.x = some p ∧ H p = some (.lst vs) ∧ Dats K c.ha (hid c.P H) vs xs
def tste (Φ : FEnv) (e : E) (s : Stt) : Res Bool := (evE Φ e s).bind fun r s1 => Res.of (truth r.D) s1
section
variable (K : Fr) (T : Tb) (W : WX)
def rdE (e : E) : TE := fun σ H Q => ∃ c s, Rel K c s σ H ∧ c.x = none ∧ Run K T.xa W c σ H (evE T.Φ e s) fun r s' H' c' => ∀ v, ValOk K c' H' r v → Q v H'
def rdP (e : E) : TE := fun σ H Q => ∃ c s, Rel K c s σ H ∧ c.x = none ∧ Run K T.xa W c σ H (pk e (evE T.Φ e) s) fun d s' H' c' => c'.x = none → ∀ v, DatP K c' H' v d → Q v H'
def rdT (e : E) : TT := fun σ H Q => ∃ c s, Rel K c s σ H ∧ c.x = none ∧ Run K T.xa W c σ H (tst e (evE T.Φ e) s) fun b s' H' c' => c'.x = none → Q b H'
def rdTe (e : E) : TT := fun σ H Q => ∃ c s, Rel K c s σ H ∧ c.x = none ∧ Run K T.xa W c σ H (tste T.Φ e s) fun b s' H' c' => c'.x = none → Q b H'
def rdL (es : List E) : TA := fun σ H Q => ∃ c s, Rel K c s σ H ∧ c.x = none ∧ Run K T.xa W c σ H (evL T.Φ es s) fun ds s' H' c' => c'.x = none → ∀ vs, Dats K c'.ha (hid c'.P H') vs ds → Q vs H'
def rdPs (es : List E) : TA := fun σ H Q => ∃ c s, Rel K c s σ H ∧ c.x = none ∧ Run K T.xa W c σ H (evPs T.Φ es s) fun ds s' H' c' => c'.x = none → ∀ vs, DatPs K c' H' vs ds → Q vs H'
def rdO (e : Option E) : TO := fun σ H Q => ∃ c s, Rel K c s σ H ∧ c.x = none ∧ Run K T.xa W c σ H (evO T.Φ e s) fun o s' H' c' => c'.x = none → Q o H'
end
theorem _root_.L2.PE.mono {X : Cx} {e : Expr} {t t' : TE} (h : PE X e t) (w : ∀ σ H Q, t' σ H Q → t σ H Q) : PE X e t' := ⟨fun pins s σ H Q I q => h.run pins s σ H Q I (w σ H Q q)⟩
theorem _root_.L2.PT.mono {X : Cx} {e : Expr} {t t' : TT} (h : PT X e t) (w : ∀ σ H Q, t' σ H Q → t σ H Q) : PT X e t' := ⟨fun pins s σ H Q I q => h.run pins s σ H Q I (w σ H Q q)⟩
theorem _root_.L2.PW.mono {X : Cx} {e : Expr} {t t' : TT} (h : PW X e t) (w : ∀ σ H Q, t' σ H Q → t σ H Q) : PW X e t' := ⟨fun wh pins s σ H Q I q => h.run wh pins s σ H Q I (w σ H Q q)⟩
theorem _root_.L2.PA.mono {X : Cx} {e : List Expr} {t t' : TA} (h : PA X e t) (w : ∀ σ H Q, t' σ H Q → t σ H Q) : PA X e t' := ⟨fun pos pins s σ H Q I q => h.run pos pins s σ H Q I (w σ H Q q)⟩
theorem _root_.L2.PO.mono {X : Cx} {e : Option Expr} {t t' : TO} (h : PO X e t) (w : ∀ σ H Q, t' σ H Q → t σ H Q) : PO X e t' := ⟨fun pins s σ H Q I q => h.run pins s σ H Q I (w σ H Q q)⟩

section
variable {K : Fr} {T : Tb} {W : WX} {c : Cf} {s : Stt} {σ : L2.St} {H : Hp} {v : V}
/-- a value as plain data, behind it -/
theorem ValOk.dat {r : R} (rel : Rel K c s σ H) (h : ValOk K c H r v) : Dat K c.ha (hid (Cf.P { c with x := none }) H) v r.D := by
  cases r with
  | d x => exact Dat.mono rel.nox.2.same _ _ h.2
  | f xs =>
    obtain ⟨p, vs, rfl, hx, hp, t⟩ := h
    obtain ⟨n0, n1, n2⟩ := rel.new p (.inr hx)
    refine dat_lst.mpr ⟨p, vs, rfl, hid_mk (fun z => ?_) hp, Dats.mono rel.nox.2.same _ _ t⟩
    rcases z with z | z | ⟨i, z⟩ | z | z
    · exact n1 z
    · exact n2 z
    · exact rel.xne i p z hx
    · cases z
    · exact (rel.yy p z).2.2.2.2.1 hx
theorem wish_of {xa : XA} {r : R} {Q : VK} (rel : Rel K c s σ H) (hx : c.x = none) (h : ∀ H' c', XS c H c' H' → Rel K c' s σ H' → ∀ v, ValOk K c' H' r v → Q v H') : Wish K c H r Q := by
  cases r with
  | d x =>
    intro v H' hh hd
    rcases hh with rfl | ⟨p, o, hp, rfl⟩
    · exact h _ c .refl rel v ⟨hx, hd⟩
    · obtain ⟨r1, x1⟩ := rel.new1 (o := o) hp
      exact h _ c x1 r1 v ⟨hx, hd⟩
  | f xs =>
    intro p vs hp hd
    obtain ⟨r1, x1⟩ := rel.newx (vs := vs) hx hp
    exact h _ _ x1 r1 _ ⟨p, vs, rfl, rfl, upd_same, Dats.mono x1.same _ _ hd⟩
end

/-! ### what an expression is by what it does -/
structure Snd (X : Cx) (T : Tb) (W : WX) (e : Expr) (m : E) : Prop where
  ee : PE X e (rdE X.K T W m)
  pp : PE X e (rdP X.K T W m)
  tt : PT X e (rdT X.K T W m)
  tte : PT X e (rdTe X.K T W m)
  ww : ∀ op vs pos, e = .BoolOp op vs pos → PW X e (rdTe X.K T W m)
/-- no star, no slice, no set -/
def okE : Expr → Bool
  | .Starred _ _ => false
  | .Slice _ _ _ _ => false
  | .Set _ _ _ => false
  | _ => true
theorem ok_star {e : Expr} (h : okE e = true) (es : List Expr) (env : Env) : starEach (e :: es) env = (false, eval e env) :: starEach es env := by
  cases e <;> first | rfl | cases h
theorem ok_plainIx {e : Expr} (h : okE e = true) : PlainIx e := fun o i => by
  cases e <;> first | rfl | cases h
theorem ok_folded {e : Expr} (h : okE e = true) (env : Env) (x : Value) : foldedSetIterable e env x = pure x := by
  cases e <;> first | rfl | cases h
theorem ok_plain : ∀ {es : List Expr} (env : Env), (∀ e ∈ es, okE e = true) → Plain es env
  | [], _, _ => rfl
  | e :: es, env, h => by
    have h2 := ok_plain env fun x hx => h x (List.mem_cons_of_mem _ hx)
    unfold Plain at h2 ⊢
    rw [ok_star (h e List.mem_cons_self), h2]; rfl
def isVar : E → Bool
  | .var _ => true
  | _ => false
theorem pk_no {m : E} (h : isVar m = false) (f : Stt → Res R) (s : Stt) : pk m f s = (f s).bind fun r s1 => .ok r.D s1 := by
  cases m <;> first | rfl | cases h
theorem tst_no {m : E} (h : isVar m = false) (Φ : FEnv) (s : Stt) : tst m (evE Φ m) s = tste Φ m s := by
  unfold tst tste
  rw [pk_no h]
  cases evE Φ m s <;> rfl
section
variable {X : Cx} {T : Tb} {W : WX} {e : Expr} {m : E}
/-- to look at what is made -/
theorem p_of_e (hm : isVar m = false) (h : PE X e (rdE X.K T W m)) : PE X e (rdP X.K T W m) := h.mono fun σ H Q ⟨c, s, rel, hx, q⟩ => by
  rw [pk_no hm] at q
  refine ⟨c, s, rel, hx, q.bind.mono fun r s1 H1 c1 x1 r1 q1 v hv => ?_⟩
  obtain ⟨r2, x2⟩ := r1.nox
  have hd : Dat X.K c1.ha (hid (Cf.P { c1 with x := none }) H1) v r.D := hv.dat r1
  exact q1 _ _ x2 r2 rfl v (DatP.of (c := { c1 with x := none }) hd)
theorem truV_of {K : Fr} {c : Cf} {H : Hp} {v : V} {d : D} {b : Bool} (h : DatP K c H v d) (e : truth d = some b) : TruV K v H b := by
  cases d with
  | non => rw [h.non]; exact (Option.some.inj e).symm
  | bl k => rw [h.bl]; exact (Option.some.inj e).symm
  | int i => rw [h.int]; exact (Option.some.inj e).symm
  | str x =>
    rw [h.str]
    simp only [truth] at e
    split at e
    · exact ⟨by assumption, (Option.some.inj e).symm⟩
    · cases e
  | lst ds =>
    obtain ⟨a, xs, rfl, ha, t⟩ := h.lst
    refine .inl ⟨xs, SqL.of ha, ?_⟩
    have e' := Option.some.inj e
    rw [← e']
    have hl := t.length
    cases xs <;> cases ds <;> first | rfl | simp at hl
  | tup ds =>
    obtain ⟨a, xs, rfl, ha, _, t⟩ := h.tup
    refine .inr (.inl ⟨xs, ha, ?_⟩)
    have e' := Option.some.inj e
    rw [← e']
    have hl := t.length
    cases xs <;> cases ds <;> first | rfl | simp at hl
  | hand => cases e
  | edic _ => cases e
/-- tests of plain expressions -/
theorem t_of_p (he : ∀ whole, isTrue e X.env whole = (do let v ← whole; standAt e.pos; holding [v] (truthy v))) (h : PE X e (rdP X.K T W m)) : PT X e (rdT X.K T W m) := (pt_truth h he).mono fun σ H Q ⟨c, s, rel, hx, q⟩ => by
  unfold tst at q
  refine ⟨c, s, rel, hx, q.bind.mono fun d s1 H1 c1 x1 r1 q1 hx1 v hv => ?_⟩
  obtain ⟨b, eb, q2⟩ := q1.of
  exact ⟨b, truV_of hv eb, q2 _ _ .refl r1 hx1⟩
theorem te_of_e (he : ∀ whole, isTrue e X.env whole = (do let v ← whole; standAt e.pos; holding [v] (truthy v))) (h : PE X e (rdE X.K T W m)) : PT X e (rdTe X.K T W m) := (pt_truth h he).mono fun σ H Q ⟨c, s, rel, hx, q⟩ => by
  unfold tste at q
  refine ⟨c, s, rel, hx, q.bind.mono fun r s1 H1 c1 x1 r1 q1 v hv => ?_⟩
  obtain ⟨b, eb, q2⟩ := q1.of
  obtain ⟨r2, x2⟩ := r1.nox
  have hd : Dat X.K c1.ha (hid (Cf.P { c1 with x := none }) H1) v r.D := hv.dat r1
  replace hd := DatP.of (c := { c1 with x := none }) hd
  exact ⟨b, truV_of hd eb, q2 _ _ x2 r2 rfl⟩
theorem Snd.plain (hm : isVar m = false) (hb : ∀ op vs pos, e ≠ .BoolOp op vs pos) (he : ∀ whole, isTrue e X.env whole = (do let v ← whole; standAt e.pos; holding [v] (truthy v))) (h : PE X e (rdE X.K T W m)) : Snd X T W e m :=
  ⟨h, p_of_e hm h, t_of_p he (p_of_e hm h), te_of_e he h, fun op vs pos z => absurd z (hb op vs pos)⟩
/-- .. whose tests are told apart -/
theorem Snd.tested (hm : isVar m = false) (hb : ∀ op vs pos, e ≠ .BoolOp op vs pos) (h : PE X e (rdE X.K T W m)) (ht : PT X e (rdTe X.K T W m)) : Snd X T W e m :=
  ⟨h, p_of_e hm h, ht.mono fun σ H Q ⟨c, s, rel, hx, q⟩ => ⟨c, s, rel, hx, by rw [tst_no hm] at q; exact q⟩, ht, fun op vs pos z => absurd z (hb op vs pos)⟩

/-! ### names, constants -/
theorem snd_var {N : List Str} {sc : Scope} (g : GE X T N sc W) {x : Str} {i : Nat} {pos : Pos} (hN : N[i]? = some x) (hv : Vis sc x) (hd : (x == ("__debug__" : Str)) = false) (hc : (x == ("__classdict__" : Str)) = false) : Snd X T W (.Name x pos) (.var i) := by
  have base : PE X (.Name x pos) (tVar i) := pe_var (by rw [g.nN]; exact hN) (by rw [g.sco]; exact hv) hd hc
  have he : PE X (.Name x pos) (rdE X.K T W (.var i)) := base.mono fun σ H Q ⟨c, s, rel, hx, q⟩ => by
    unfold evE give at q
    split at q
    · rename_i y hy
      obtain ⟨v, ev, hd⟩ := rel.get hy
      exact ⟨v, ev, q _ _ .refl rel v ⟨hx, hd⟩⟩
    · rename_i ys hy
      obtain ⟨v, ev, r1, x1, hd⟩ := rel.give hy
      exact ⟨v, ev, q _ _ x1 r1 v ⟨hx, hd⟩⟩
    · exact q.elim
  have hp : PE X (.Name x pos) (rdP X.K T W (.var i)) := base.mono fun σ H Q ⟨c, s, rel, hx, q⟩ => by
    unfold pk at q
    obtain ⟨d, ed, q1⟩ := q.of
    obtain ⟨v, ev, hd⟩ := rel.peek ed
    exact ⟨v, ev, q1 _ _ .refl rel hx v hd⟩
  exact ⟨he, hp, t_of_p (fun _ => rfl) hp, te_of_e (fun _ => rfl) he, fun _ _ _ z => by cases z⟩
theorem dat_vOf {K : Fr} {ha : Addr} {H : Hp} {d : D} (h : flat d = true) : Dat K ha H (vOf d) d := by
  cases d with
  | int i => exact dat_int.mpr rfl
  | bl i => exact dat_bl.mpr rfl
  | str i => exact dat_str.mpr rfl
  | non => exact dat_non.mpr rfl
  | _ => cases h
theorem snd_cst {N : List Str} {sc : Scope} (g : GE X T N sc W) {x : Str} {d : D} {pos : Pos} (hg : Gl X x) (hm : (x, d) ∈ T.nm.cn) (hd : (x == ("__debug__" : Str)) = false) : Snd X T W (.Name x pos) (.k d) := by
  obtain ⟨fl, u, em, rv⟩ := g.glb.cst _ hm
  exact .plain rfl (fun _ _ _ z => by cases z) (fun _ => rfl) ((pe_glob hg em rv hd).mono fun σ H Q ⟨c, s, rel, hx, q⟩ => by
    unfold evE at q
    exact q _ _ .refl rel _ ⟨hx, dat_vOf fl⟩)
theorem snd_k {d : D} {v : V} {cst : Const} {j : Nat} {pos : Pos} (h : PE X (.Constant cst j pos) (tC v)) (hv : ∀ (K : Fr) ha H, Dat K ha H v d) : Snd X T W (.Constant cst j pos) (.k d) :=
  .plain rfl (fun _ _ _ z => by cases z) (fun _ => rfl) (h.mono fun σ H Q ⟨c, s, rel, hx, q⟩ => by
    unfold evE at q
    exact q _ _ .refl rel v ⟨hx, hv _ _ _⟩)

/-! ### operators -/
theorem snd_bin {a b : Expr} {ma mb : E} {op : Operator} {pos : Pos} (ha : Snd X T W a ma) (hb : Snd X T W b mb) : Snd X T W (.BinOp a op b pos) (.bin op ma mb) :=
  .plain rfl (fun _ _ _ z => by cases z) (fun _ => rfl) ((pe_op (op_binD op) ha.pp hb.pp).mono fun σ H Q ⟨c, s, rel, hx, q⟩ => by
    unfold evE at q
    refine ⟨c, s, rel, hx, q.bind.mono fun x s1 H1 c1 x1 r1 q1 hx1 v hv => ⟨c1, s1, r1, hx1, q1.bind.mono fun y s2 H2 c2 x2 r2 q2 hx2 u hu => ?_⟩⟩
    obtain ⟨r, er, q3⟩ := q2.of
    exact ⟨c2, x, y, r, r2.obs, hv.go x2, hu, er, wish_of (xa := T.xa) r2 hx2 q3⟩)
theorem e_cmp {N : List Str} {sc : Scope} (g : GE X T N sc W) {a b : Expr} {ma mb : E} {op : CmpOp} {pos : Pos} (hm : behindInMarks op b = false) (ha : Snd X T W a ma) (hb : Snd X T W b mb) : PE X (.Compare a [op] [b] pos) (rdE X.K T W (.cmp op ma mb)) :=
  (pe_cmpR (op_cmpD (by have := g.hu; omega) op) ha.pp hb.pp hm).mono fun σ H Q ⟨c, s, rel, hx, q⟩ => by
    unfold evE at q
    refine ⟨c, s, rel, hx, q.bind.mono fun x s1 H1 c1 x1 r1 q1 hx1 v hv => ⟨c1, s1, r1, hx1, q1.bind.mono fun y s2 H2 c2 x2 r2 q2 hx2 u hu => ?_⟩⟩
    obtain ⟨r, er, q3⟩ := q2.of_bind
    exact ⟨c2, x, y, r, hv.go x2, hu, er, q3 _ _ .refl r2 _ ⟨hx2, dat_bl.mpr rfl⟩⟩
theorem snd_cmp {N : List Str} {sc : Scope} (g : GE X T N sc W) {a b : Expr} {ma mb : E} {op : CmpOp} {pos : Pos} (hm : behindInMarks op b = false) (ha : Snd X T W a ma) (hb : Snd X T W b mb) : Snd X T W (.Compare a [op] [b] pos) (.cmp op ma mb) :=
  .tested rfl (fun _ _ _ z => by cases z) (e_cmp g hm ha hb) ((pt_cmpR (op_cmpD (by have := g.hu; omega) op) ha.pp hb.pp hm).mono fun σ H Q ⟨c, s, rel, hx, q⟩ => by
    unfold tste at q
    replace q := q.bind
    unfold evE at q
    refine ⟨c, s, rel, hx, q.bind.mono fun x s1 H1 c1 x1 r1 q1 hx1 v hv => ⟨c1, s1, r1, hx1, q1.bind.mono fun y s2 H2 c2 x2 r2 q2 hx2 u hu => ?_⟩⟩
    obtain ⟨r, er, q3⟩ := q2.of_bind
    exact ⟨c2, x, y, r, hv.go x2, hu, er, r, rfl, (q3 _ _ .refl r2) _ _ .refl r2 hx2⟩)
theorem snd_chain {N : List Str} {sc : Scope} (g : GE X T N sc W) {a b d : Expr} {ma mb md : E} {op op' : CmpOp} {pos : Pos} (hm : lastMarks [op, op'] [b, d] = false) (ha : Snd X T W a ma) (hb : Snd X T W b mb) (hd : Snd X T W d md) :
    Snd X T W (.Compare a [op, op'] [b, d] pos) (.chain op op' ma mb md) := by
  have hu : X.A.units + 64 < cLine := by have := g.hu; omega
  refine .tested rfl (fun _ _ _ z => by cases z) ((pe_chain (op_cmpD hu op) (op_cmpD hu op') ha.pp hb.pp hd.pp hm).mono fun σ H Q ⟨c, s, rel, hx, q⟩ => ?_) ((pt_chain (op_cmpD hu op) (op_cmpD hu op') ha.pp hb.pp hd.pp hm).mono fun σ H Q ⟨c, s, rel, hx, q⟩ => ?_)
  · unfold evE at q
    refine ⟨c, s, rel, hx, q.bind.mono fun x s1 H1 c1 x1 r1 q1 hx1 v hv => ⟨c1, s1, r1, hx1, q1.bind.mono fun y s2 H2 c2 x2 r2 q2 hx2 u hu => ?_⟩⟩
    obtain ⟨r, er, q3⟩ := q2.of_bind
    refine ⟨c2, x, y, r, hv.go x2, hu, er, r, rfl, ?_⟩
    cases r with
    | false =>
      rw [if_neg Bool.false_ne_true]
      exact q3 _ _ .refl r2 _ ⟨hx2, dat_bl.mpr rfl⟩
    | true =>
      rw [if_pos rfl]
      refine ⟨c2, s2, r2, hx2, q3.bind.mono fun z s3 H3 c3 x3 r3 q4 hx3 t ht => ?_⟩
      obtain ⟨r', er', q5⟩ := q4.of_bind
      exact ⟨c3, y, z, r', hu.go x3, ht, er', q5 _ _ .refl r3 _ ⟨hx3, dat_bl.mpr rfl⟩⟩
  · unfold tste at q
    replace q := q.bind
    unfold evE at q
    refine ⟨c, s, rel, hx, q.bind.mono fun x s1 H1 c1 x1 r1 q1 hx1 v hv => ⟨c1, s1, r1, hx1, q1.bind.mono fun y s2 H2 c2 x2 r2 q2 hx2 u hu => ?_⟩⟩
    obtain ⟨r, er, q3⟩ := q2.of_bind
    refine ⟨c2, x, y, r, hv.go x2, hu, er, r, rfl, ?_⟩
    cases r with
    | false =>
      rw [if_neg Bool.false_ne_true]
      exact ⟨false, rfl, q3 _ _ .refl r2 _ _ .refl r2 hx2⟩
    | true =>
      rw [if_pos rfl]
      refine ⟨c2, s2, r2, hx2, q3.bind.mono fun z s3 H3 c3 x3 r3 q4 hx3 t ht => ?_⟩
      obtain ⟨r', er', q5⟩ := q4.of_bind
      exact ⟨c3, y, z, r', hu.go x3, ht, er', r', rfl, q5 _ _ .refl r3 _ _ .refl r3 hx3⟩
theorem snd_neg {a : Expr} {ma : E} {pos : Pos} (ha : Snd X T W a ma) : Snd X T W (.UnaryOp .USub a pos) (.neg ma) :=
  .plain rfl (fun _ _ _ z => by cases z) (fun _ => rfl) ((pe_un un_neg ha.pp).mono fun σ H Q ⟨c, s, rel, hx, q⟩ => by
    unfold evE at q
    refine ⟨c, s, rel, hx, q.bind.mono fun x s1 H1 c1 x1 r1 q1 hx1 v hv => ?_⟩
    obtain ⟨i, ei, q2⟩ := q1.of_bind
    cases x with
    | int j =>
      cases ei
      exact ⟨_, hv.int, q2 _ _ .refl r1 _ ⟨hx1, dat_int.mpr rfl⟩⟩
    | _ => cases ei)
theorem snd_not {a : Expr} {ma : E} {pos : Pos} (ha : Snd X T W a ma) : Snd X T W (.UnaryOp .Not a pos) (.not ma) :=
  .tested rfl (fun _ _ _ z => by cases z) ((pe_notT ha.pp).mono fun σ H Q ⟨c, s, rel, hx, q⟩ => by
    unfold evE tst at q
    refine ⟨c, s, rel, hx, q.bind.bind.mono fun x s1 H1 c1 x1 r1 q1 hx1 v hv => ?_⟩
    obtain ⟨b, eb, q2⟩ := q1.of
    exact ⟨b, truV_of hv eb, q2 _ _ .refl r1 _ _ .refl r1 _ ⟨hx1, dat_bl.mpr rfl⟩⟩)
    ((pt_not ha.tt).mono fun σ H Q ⟨c, s, rel, hx, q⟩ => by
    unfold tste at q
    replace q := q.bind
    unfold evE at q
    exact ⟨c, s, rel, hx, q.bind.mono fun x s1 H1 c1 x1 r1 q1 hx1 => (q1 _ _ .refl r1) _ _ .refl r1 hx1⟩)
end
end PD

set_option Elab.async false
set_option linter.all false
set_option maxRecDepth 100000
set_option maxHeartbeats 4000000
/-! PyS7: and, or, displays, items, slices, calls. -/
namespace PD
open PySem PySem.Spec PyProof.Rows L2

theorem Run.monoE {K : Fr} {xa : XA} {W : WX} {c : Cf} {σ : L2.St} {H : Hp} {α : Type} {r : Res α} {k k' : α → Stt → Hp → Cf → Prop} (h : Run K xa W c σ H r k) (m : ∀ a s' H' c', r = .ok a s' → XS c H c' H' → Rel K c' s' σ H' → k a s' H' c' → k' a s' H' c') : Run K xa W c σ H r k' := by
  cases r with
  | ok a s => exact fun H' c' x q => m a s H' c' rfl x q (h H' c' x q)
  | ex e s => exact h
  | bad => exact h
section
variable {X : Cx} {T : Tb} {W : WX}
theorem datP_r {K : Fr} {c : Cf} {s : Stt} {σ : L2.St} {H : Hp} {r : R} {v : V} (rel : Rel K c s σ H) (h : ValOk K c H r v) : DatP K { c with x := none } H v r.D := by
  have hd : Dat K c.ha (hid (Cf.P { c with x := none }) H) v r.D := h.dat rel
  exact DatP.of (c := { c with x := none }) hd

/-! ### and, or -/
theorem snd_one {op : BoolOp} {a : Expr} {ma : E} {pos : Pos} (ha : Snd X T W a ma) : Snd X T W (.BoolOp op [a] pos) ma :=
  ⟨pe_one ha.ee, pe_one ha.pp, by cases op; exact (pw_and1 ha.tt).pt; exact (pw_or1 ha.tt).pt, by cases op; exact (pw_and1 ha.tte).pt; exact (pw_or1 ha.tte).pt, fun _ _ _ _ => by cases op; exact pw_and1 ha.tte; exact pw_or1 ha.tte⟩
theorem snd_and {a b : Expr} {rest : List Expr} {ma mb : E} {pos : Pos} (ha : Snd X T W a ma) (hb : Snd X T W (.BoolOp .And (b :: rest) pos) mb) : Snd X T W (.BoolOp .And (a :: b :: rest) pos) (.and ma mb) := by
  have he : PE X (.BoolOp .And (a :: b :: rest) pos) (rdE X.K T W (.and ma mb)) := (pe_andT ha.ee hb.ee).mono fun σ H Q ⟨c, s, rel, hx, q⟩ => by
    unfold evE at q
    refine ⟨c, s, rel, hx, q.bind.mono fun r s1 H1 c1 x1 r1 q1 v hv => ?_⟩
    obtain ⟨t, et, q2⟩ := q1.of_bind
    obtain ⟨r2, x2⟩ := r1.nox
    refine ⟨t, truV_of (datP_r r1 hv) et, ?_⟩
    cases t with
    | true => rw [if_pos rfl]; exact ⟨_, s1, r2, rfl, Run.weak x2 q2⟩
    | false =>
      rw [if_neg Bool.false_ne_true]
      have hd : Dat X.K c1.ha (hid (Cf.P { c1 with x := none }) H1) v r.D := hv.dat r1
      exact q2 _ _ x2 r2 v ⟨rfl, hd⟩
  have hw : PW X (.BoolOp .And (a :: b :: rest) pos) (rdTe X.K T W (.and ma mb)) := (pw_and ha.tte (hb.ww _ _ _ rfl)).mono fun σ H Q ⟨c, s, rel, hx, q⟩ => by
    unfold tste evE at q
    refine ⟨c, s, rel, hx, ?_⟩
    unfold tste
    cases hE : evE T.Φ ma s with
    | bad => rw [hE] at q; exact q
    | ex e s1 => rw [hE] at q; exact q
    | ok r s1 =>
      rw [hE] at q
      simp only [Res.bind_ok] at q ⊢
      cases ht : truth r.D with
      | none => rw [ht] at q; exact q.elim
      | some t =>
        rw [ht] at q
        simp only [Res.of_some, Res.bind_ok] at q ⊢
        intro H1 c1 x1 r1 hx1
        cases t with
        | true => rw [if_pos rfl]; exact ⟨c1, s1, r1, hx1, Run.weak x1 q⟩
        | false =>
          rw [if_neg Bool.false_ne_true]
          have q' : Run X.K T.xa W c σ H (Res.of (truth r.D) s1) fun b s' H' c' => c'.x = none → Q b H' := q
          rw [ht] at q'
          exact q' _ _ x1 r1 hx1
  exact ⟨he, p_of_e rfl he, hw.pt.mono fun σ H Q ⟨c, s, rel, hx, q⟩ => ⟨c, s, rel, hx, by rw [tst_no rfl] at q; exact q⟩, hw.pt, fun _ _ _ _ => hw⟩
theorem snd_or {a b : Expr} {rest : List Expr} {ma mb : E} {pos : Pos} (ha : Snd X T W a ma) (hb : Snd X T W (.BoolOp .Or (b :: rest) pos) mb) : Snd X T W (.BoolOp .Or (a :: b :: rest) pos) (.or ma mb) := by
  have he : PE X (.BoolOp .Or (a :: b :: rest) pos) (rdE X.K T W (.or ma mb)) := (pe_orT ha.ee hb.ee).mono fun σ H Q ⟨c, s, rel, hx, q⟩ => by
    unfold evE at q
    refine ⟨c, s, rel, hx, q.bind.mono fun r s1 H1 c1 x1 r1 q1 v hv => ?_⟩
    obtain ⟨t, et, q2⟩ := q1.of_bind
    obtain ⟨r2, x2⟩ := r1.nox
    refine ⟨t, truV_of (datP_r r1 hv) et, ?_⟩
    cases t with
    | false => rw [if_neg Bool.false_ne_true]; exact ⟨_, s1, r2, rfl, Run.weak x2 q2⟩
    | true =>
      rw [if_pos rfl]
      have hd : Dat X.K c1.ha (hid (Cf.P { c1 with x := none }) H1) v r.D := hv.dat r1
      exact q2 _ _ x2 r2 v ⟨rfl, hd⟩
  have hw : PW X (.BoolOp .Or (a :: b :: rest) pos) (rdTe X.K T W (.or ma mb)) := (pw_or ha.tte (hb.ww _ _ _ rfl)).mono fun σ H Q ⟨c, s, rel, hx, q⟩ => by
    unfold tste evE at q
    refine ⟨c, s, rel, hx, ?_⟩
    unfold tste
    cases hE : evE T.Φ ma s with
    | bad => rw [hE] at q; exact q
    | ex e s1 => rw [hE] at q; exact q
    | ok r s1 =>
      rw [hE] at q
      simp only [Res.bind_ok] at q ⊢
      cases ht : truth r.D with
      | none => rw [ht] at q; exact q.elim
      | some t =>
        rw [ht] at q
        simp only [Res.of_some, Res.bind_ok] at q ⊢
        intro H1 c1 x1 r1 hx1
        cases t with
        | false => rw [if_neg Bool.false_ne_true]; exact ⟨c1, s1, r1, hx1, Run.weak x1 q⟩
        | true =>
          rw [if_pos rfl]
          have q' : Run X.K T.xa W c σ H (Res.of (truth r.D) s1) fun b s' H' c' => c'.x = none → Q b H' := q
          rw [ht] at q'
          exact q' _ _ x1 r1 hx1
  exact ⟨he, p_of_e rfl he, hw.pt.mono fun σ H Q ⟨c, s, rel, hx, q⟩ => ⟨c, s, rel, hx, by rw [tst_no rfl] at q; exact q⟩, hw.pt, fun _ _ _ _ => hw⟩
theorem pt_ifExp {c a b : Expr} {tc ta tb : TT} {pos : Pos} (hc : PT X c tc) (ha : PT X a ta) (hb : PT X b tb) : PT X (.IfExp c a b pos) (fun σ H Q => tc σ H fun k H1 => if k = true then ta σ H1 Q else tb σ H1 Q) := by
  refine ⟨fun pins s σ H Q I h => ?_⟩
  show wpAny _ _ (do if ← isTrue c X.env (eval c X.env) then isTrue a X.env (eval a X.env) else isTrue b X.env (eval b X.env)) _ _ _
  refine wpAny_bind (thn (hc.run pins s σ H _ I h) fun k s1 ⟨H1, I1, q1⟩ => ?_)
  cases k with
  | true => exact ha.run pins s1 σ H1 Q I1 q1
  | false => exact hb.run pins s1 σ H1 Q I1 q1
theorem snd_ife {c a b : Expr} {mc ma mb : E} {pos : Pos} (hc : Snd X T W c mc) (ha : Snd X T W a ma) (hb : Snd X T W b mb) : Snd X T W (.IfExp c a b pos) (.ife mc ma mb) :=
  .tested rfl (fun _ _ _ z => by cases z) ((pe_ifExp hc.tt ha.ee hb.ee).mono fun σ H Q ⟨c, s, rel, hx, q⟩ => by
    unfold evE at q
    refine ⟨c, s, rel, hx, q.bind.mono fun t s1 H1 c1 x1 r1 q1 hx1 => ?_⟩
    cases t with
    | true => rw [if_pos rfl]; exact ⟨c1, s1, r1, hx1, q1⟩
    | false => rw [if_neg Bool.false_ne_true]; exact ⟨c1, s1, r1, hx1, q1⟩)
    ((pt_ifExp hc.tt ha.tte hb.tte).mono fun σ H Q ⟨c, s, rel, hx, q⟩ => by
    unfold tste evE at q
    have q' : Run X.K T.xa W c σ H ((tst mc (evE T.Φ mc) s).bind fun t s1 => tste T.Φ (match t with | true => ma | false => mb) s1) fun b s' H' c' => c'.x = none → Q b H' := by
      cases hE : tst mc (evE T.Φ mc) s with
      | bad => rw [hE] at q; exact q
      | ex e s1 => rw [hE] at q; exact q
      | ok t s1 => rw [hE] at q; cases t <;> exact q
    refine ⟨c, s, rel, hx, q'.bind.mono fun t s1 H1 c1 x1 r1 q1 hx1 => ?_⟩
    cases t with
    | true => rw [if_pos rfl]; exact ⟨c1, s1, r1, hx1, q1⟩
    | false => rw [if_neg Bool.false_ne_true]; exact ⟨c1, s1, r1, hx1, q1⟩)

/-! ### argument lists -/
def SndL (X : Cx) (T : Tb) (W : WX) : List Expr → List E → Prop
  | [], [] => True
  | e :: es, m :: ms => okE e = true ∧ Snd X T W e m ∧ SndL X T W es ms
  | [], _ :: _ => False
  | _ :: _, [] => False
theorem SndL.nil_out {ms : List E} (h : SndL X T W [] ms) : ms = [] := by
  cases ms with
  | nil => rfl
  | cons _ _ => exact h.elim
theorem SndL.cons_out {e : Expr} {es : List Expr} {ms : List E} (h : SndL X T W (e :: es) ms) : ∃ m ms', ms = m :: ms' ∧ okE e = true ∧ Snd X T W e m ∧ SndL X T W es ms' := by
  cases ms with
  | nil => exact h.elim
  | cons m ms => exact ⟨m, ms, rfl, h⟩
theorem SndL.length : ∀ {es : List Expr} {ms : List E}, SndL X T W es ms → es.length = ms.length
  | [], ms, h => by
    have z := h.nil_out
    subst z; rfl
  | e :: es, ms, h => by
    obtain ⟨m, ms', rfl, _, _, t⟩ := h.cons_out
    simp [t.length]
theorem SndL.ok : ∀ {es : List Expr} {ms : List E}, SndL X T W es ms → ∀ e ∈ es, okE e = true
  | [], _, _, _, h => by cases h
  | e :: es, ms, h, x, hx => by
    obtain ⟨m, ms', rfl, o, _, t⟩ := h.cons_out
    rcases List.mem_cons.mp hx with rfl | hx
    · exact o
    · exact t.ok x hx
theorem SndL.pa : ∀ {es : List Expr} {ms : List E}, SndL X T W es ms → PA X es (rdL X.K T W ms)
  | [], ms, h => by
    rw [h.nil_out]
    exact pa_nil.mono fun σ H Q ⟨c, s, rel, hx, q⟩ => by
      unfold evL at q
      exact q _ _ .refl rel hx [] Dats.nil
  | e :: es, ms, h => by
    obtain ⟨m, ms', rfl, o, h1, t⟩ := h.cons_out
    exact (pa_cons h1.ee t.pa (ok_star o es X.env)).mono fun σ H Q ⟨c, s, rel, hx, q⟩ => by
      unfold evL at q
      refine ⟨c, s, rel, hx, q.bind.mono fun r s1 H1 c1 x1 r1 q1 v hv => ?_⟩
      obtain ⟨r2, x2⟩ := r1.nox
      refine ⟨_, s1, r2, rfl, (Run.weak x2 q1).bind.mono fun xs s2 H2 c2 x3 r3 q2 hx2 vs hvs => q2 _ _ .refl r3 hx2 _ (Dats.cons ?_ hvs)⟩
      have hd := hv.dat r1
      rw [show c2.ha = c1.ha from x3.ha]
      exact Dat.mono x3.same _ _ hd
theorem SndL.pas : ∀ {es : List Expr} {ms : List E}, SndL X T W es ms → PA X es (rdPs X.K T W ms)
  | [], ms, h => by
    rw [h.nil_out]
    exact pa_nil.mono fun σ H Q ⟨c, s, rel, hx, q⟩ => by
      unfold evPs at q
      exact q _ _ .refl rel hx [] trivial
  | e :: es, ms, h => by
    obtain ⟨m, ms', rfl, o, h1, t⟩ := h.cons_out
    exact (pa_cons h1.pp t.pas (ok_star o es X.env)).mono fun σ H Q ⟨c, s, rel, hx, q⟩ => by
      unfold evPs at q
      exact ⟨c, s, rel, hx, q.bind.mono fun r s1 H1 c1 x1 r1 q1 hx1 v hv => ⟨_, s1, r1, hx1, q1.bind.mono fun xs s2 H2 c2 x3 r3 q2 hx2 vs hvs => q2 _ _ .refl r3 hx2 _ ⟨hv.go x3, hvs⟩⟩⟩
theorem evL_length (Φ : FEnv) : ∀ {es : List E} {s s' : Stt} {xs : List D}, evL Φ es s = .ok xs s' → xs.length = es.length
  | [], s, s', xs, h => by
    unfold evL at h
    cases h; rfl
  | e :: es, s, s', xs, h => by
    unfold evL at h
    cases h1 : evE Φ e s with
    | bad => rw [h1] at h; cases h
    | ex _ _ => rw [h1] at h; cases h
    | ok r s1 =>
      rw [h1] at h
      simp only [Res.bind_ok] at h
      cases h2 : evL Φ es s1 with
      | bad => rw [h2] at h; cases h
      | ex _ _ => rw [h2] at h; cases h
      | ok ys s2 =>
        rw [h2] at h
        simp only [Res.bind_ok] at h
        cases h
        simp [evL_length Φ h2]
theorem snd_tup {es : List Expr} {ms : List E} {k : Nat} {pos : Pos} (h : SndL X T W es ms) : Snd X T W (.Tuple es k pos) (.tup ms) :=
  .plain rfl (fun _ _ _ z => by cases z) (fun _ => rfl) ((pe_tup h.pa).mono fun σ H Q ⟨c, s, rel, hx, q⟩ => by
    unfold evE at q
    refine ⟨c, s, rel, hx, q.bind.mono fun xs s1 H1 c1 x1 r1 q1 hx1 vs hvs => ?_⟩
    split at q1
    · rename_i hz
      refine ⟨by rw [hvs.length]; exact hz, fun p hp => ?_⟩
      have w := wish_of (xa := T.xa) r1 hx1 q1
      exact w.tup r1.obs hvs p hp
    · exact q1.elim)
theorem snd_lst {es : List Expr} {ms : List E} {pos : Pos} (h : SndL X T W es ms) : Snd X T W (.List es pos) (.lst ms) :=
  .plain rfl (fun _ _ _ z => by cases z) (fun _ => rfl) ((pe_lst h.pa).mono fun σ H Q ⟨c, s, rel, hx, q⟩ => by
    unfold evE at q
    refine ⟨c, s, rel, hx, q.bind.mono fun xs s1 H1 c1 x1 r1 q1 hx1 vs hvs => ?_⟩
    split at q1
    · rename_i hz
      refine ⟨by rw [hvs.length]; exact hz, fun p hp => ?_⟩
      have w := wish_of (xa := T.xa) r1 hx1 q1
      exact w p vs hp hvs
    · exact q1.elim)

theorem snd_mt {pos : Pos} : Snd X T W (.Dict [] [] pos) (.mt []) :=
  .plain rfl (fun _ _ _ z => by cases z) (fun _ => rfl) (pe_dnewK.mono fun σ H Q ⟨c, s, rel, hx, q⟩ => by
    unfold evE at q
    intro p hp
    obtain ⟨r1, x1⟩ := rel.new1 (o := .dK []) hp
    exact q _ c x1 r1 (.ref p) ⟨hx, dat_edic.mpr ⟨p, rfl, hid_mk (rel.fresh hp) upd_same⟩⟩)
/-- {i: j} -/
theorem snd_mt1 {i j : Int} {k1 k2 : Nat} {p1 p2 pos : Pos} : Snd X T W (.Dict [some (.Constant (.int i) k1 p1)] [.Constant (.int j) k2 p2] pos) (.mt [(i, j)]) :=
  .plain rfl (fun _ _ _ z => by cases z) (fun _ => rfl) ((pe_disp (pps_cons (pe_int (i := i)) (pe_int (i := j)) pps_nil) rfl rfl (by simp) (by simp)).mono fun σ H Q ⟨c, s, rel, hx, q⟩ => by
    unfold evE at q
    intro p hp
    refine ⟨upd_same, [(.inl i, .int j)], rfl, by simp, ?_⟩
    rw [upd_upd]
    obtain ⟨r1, x1⟩ := rel.new1 (o := .dK [(.inl i, .int j)]) hp
    exact q _ c x1 r1 (.ref p) ⟨hx, dat_edic.mpr ⟨p, rfl, hid_mk (rel.fresh hp) upd_same⟩⟩)
theorem rgV_dats {K : Fr} {ha : Addr} {H : Hp} (i j : Int) : Dats K ha H (rgV i j) (rngL i j) := by
  unfold rgV rngL
  generalize List.range (j - i).toNat = l
  induction l with
  | nil => exact Dats.nil
  | cons k l ih => exact Dats.cons (dat_int.mpr rfl) ih
theorem rngL_len (i j : Int) : (rngL i j).length = (j - i).toNat := by simp [rngL]
theorem rg_run {σ : L2.St} {H : Hp} {Q : VK} {c : Cf} {s : Stt} {i j : Int} {is : List D} (rel : Rel X.K c s σ H) (hx : c.x = none) (b : rngOk i j = true) (e : is = rngL i j) (hl : is.length ≤ sizeLine)
    (q : ∀ H' c', XS c H c' H' → Rel X.K c' s σ H' → ∀ v, ValOk X.K c' H' (.f is) v → Q v H') : RgOk i j ∧ ∀ p, H p = none → Q (.ref p) (upd H p (.lst (rgV i j))) := by
  subst e
  unfold rngOk at b
  simp only [Bool.and_eq_true, decide_eq_true_eq] at b
  rw [rngL_len] at hl
  have sz : sizeLine = 2 ^ 24 := rfl
  refine ⟨⟨b.1.1.1, b.1.1.2, b.1.2, b.2, by omega⟩, fun p hp => ?_⟩
  obtain ⟨r1, x1⟩ := rel.newx (vs := rgV i j) hx hp
  exact q _ _ x1 r1 _ ⟨p, _, rfl, rfl, upd_same, rgV_dats i j⟩
theorem snd_lrng1 {N : List Str} {sc : Scope} (g : GE X T N sc W) {a : Expr} {ma : E} {p1 p2 p3 pos : Pos} (hl : Gl X "list") (ml : X.mg "list" = none) (hr : Gl X "range") (mr : X.mg "range" = none) (ha : SndL X T W [a] [ma]) :
    Snd X T W (.Call (.Name "list" p1) [.Call (.Name "range" p2) [a] [] p3] [] pos) (.lrng [ma]) :=
  .plain rfl (fun _ _ _ z => by cases z) (fun _ => rfl) ((pe_listRg g.calm hl ml (prg_1 hr mr ha.2.1.pp (ok_star ha.1 _ _))).mono fun σ H Q ⟨c, s, rel, hx, q⟩ => by
    unfold evE evPs evPs at q
    refine ⟨c, s, rel, hx, q.bind.bind.mono fun x s1 H1 c1 x1 r1 q1 hx1 v hv => ?_⟩
    have q2 : Run X.K T.xa W c1 σ H1 ((Res.of (srcL .rng [x]) s1).bind fun is s2 => if is.length ≤ sizeLine then .ok (.f is) s2 else .bad) fun r s' H' c' => ∀ v, ValOk X.K c' H' r v → Q v H' := by
      simp only [Res.bind_ok] at q1
      exact q1 _ _ .refl r1
    obtain ⟨is, e, q3⟩ := q2.of_bind
    cases x with
    | int j =>
      simp only [srcL] at e
      split at e
      · rename_i b
        cases e
        split at q3
        · rename_i hz
          exact ⟨j, hv.int, rg_run r1 hx1 b rfl hz q3⟩
        · exact q3.elim
      · cases e
    | _ => cases e)
theorem snd_lrng2 {N : List Str} {sc : Scope} (g : GE X T N sc W) {a b : Expr} {ma mb : E} {p1 p2 p3 pos : Pos} (hl : Gl X "list") (ml : X.mg "list" = none) (hr : Gl X "range") (mr : X.mg "range" = none) (ha : SndL X T W [a, b] [ma, mb]) :
    Snd X T W (.Call (.Name "list" p1) [.Call (.Name "range" p2) [a, b] [] p3] [] pos) (.lrng [ma, mb]) :=
  .plain rfl (fun _ _ _ z => by cases z) (fun _ => rfl) ((pe_listRg g.calm hl ml (prg_2 hr mr ha.2.1.pp ha.2.2.2.1.pp (ok_star ha.1 _ _) (ok_star ha.2.2.1 _ _) (by rw [ok_star ha.2.2.1]; rfl))).mono fun σ H Q ⟨c, s, rel, hx, q⟩ => by
    unfold evE evPs evPs evPs at q
    refine ⟨c, s, rel, hx, q.bind.bind.mono fun x s1 H1 c1 x1 r1 q1 hx1 v hv => ?_⟩
    refine ⟨c1, s1, r1, hx1, q1.bind.bind.mono fun y s2 H2 c2 x2 r2 q2 hx2 u hu => ?_⟩
    have q3 : Run X.K T.xa W c2 σ H2 ((Res.of (srcL .rng [x, y]) s2).bind fun is s2 => if is.length ≤ sizeLine then .ok (.f is) s2 else .bad) fun r s' H' c' => ∀ v, ValOk X.K c' H' r v → Q v H' := (q2 _ _ .refl r2) _ _ .refl r2
    obtain ⟨is, e, q4⟩ := q3.of_bind
    cases x with
    | int i =>
      cases y with
      | int j =>
        simp only [srcL] at e
        split at e
        · rename_i b
          cases e
          split at q4
          · rename_i hz
            exact ⟨i, j, hv.int, hu.int, rg_run r2 hx2 b rfl hz q4⟩
          · exact q4.elim
        · cases e
      | _ => cases e
    | _ => cases e)
/-! ### items, slices -/
theorem snd_ix {a i : Expr} {ma mi : E} {pos : Pos} (ha : Snd X T W a ma) (hi : Snd X T W i mi) (ho : okE i = true) : Snd X T W (.Subscript a i pos) (.ix ma mi) :=
  .plain rfl (fun _ _ _ z => by cases z) (fun _ => rfl) ((pe_ix ix_D ha.pp hi.pp (ok_plainIx ho)).mono fun σ H Q ⟨c, s, rel, hx, q⟩ => by
    unfold evE at q
    refine ⟨c, s, rel, hx, q.bind.mono fun x s1 H1 c1 x1 r1 q1 hx1 v hv => ⟨c1, s1, r1, hx1, q1.bind.mono fun y s2 H2 c2 x2 r2 q2 hx2 u hu => ?_⟩⟩
    obtain ⟨d, ed, q3⟩ := q2.of_bind
    exact ⟨c2, _, x, y, d, r2.hnd, r2.hca, hv.go x2, hu, ed, fun z hz => q3 _ _ .refl r2 z ⟨hx2, hz⟩⟩)
/-- a slice's part -/
def SndO (X : Cx) (T : Tb) (W : WX) : Option Expr → Option E → Prop
  | none, none => True
  | some e, some m => Snd X T W e m
  | none, some _ => False
  | some _, none => False
theorem SndO.po : ∀ {o : Option Expr} {m : Option E}, SndO X T W o m → PO X o (rdO X.K T W m)
  | none, none, _ => po_none.mono fun σ H Q ⟨c, s, rel, hx, q⟩ => by
    unfold evO at q
    exact q _ _ .refl rel hx
  | some e, some m, h => (po_some (Snd.pp h)).mono fun σ H Q ⟨c, s, rel, hx, q⟩ => by
    unfold evO at q
    refine ⟨c, s, rel, hx, q.bind.mono fun x s1 H1 c1 x1 r1 q1 hx1 v hv => ?_⟩
    obtain ⟨i, ei, q2⟩ := q1.of_bind
    cases x with
    | int j =>
      cases ei
      exact ⟨_, hv.int, q2 _ _ .refl r1 hx1⟩
    | _ => cases ei
  | none, some _, h => h.elim
  | some _, none, h => h.elim
theorem snd_sl {a : Expr} {lo hi : Option Expr} {ma : E} {ml mh : Option E} {pos p2 : Pos} (ha : Snd X T W a ma) (hl : SndO X T W lo ml) (hh : SndO X T W hi mh) : Snd X T W (.Subscript a (.Slice lo hi none p2) pos) (.sl ma ml mh) :=
  .plain rfl (fun _ _ _ z => by cases z) (fun _ => rfl) ((pe_slice sl_D ha.pp hl.po hh.po).mono fun σ H Q ⟨c, s, rel, hx, q⟩ => by
    unfold evE at q
    refine ⟨c, s, rel, hx, q.bind.mono fun x s1 H1 c1 x1 r1 q1 hx1 v hv => ⟨c1, s1, r1, hx1, q1.bind.mono fun l s2 H2 c2 x2 r2 q2 hx2 => ⟨c2, s2, r2, hx2, q2.bind.mono fun h s3 H3 c3 x3 r3 q3 hx3 => ?_⟩⟩⟩
    obtain ⟨r, er, q4⟩ := q3.of
    exact ⟨c3, x, r, r3.obs, (hv.go x2).go x3, er, wish_of (xa := T.xa) r3 hx3 q4⟩)
theorem snd_rvs {a : Expr} {ma : E} {k : Nat} {p1 p2 p3 pos : Pos} (ha : Snd X T W a ma) : Snd X T W (.Subscript a (.Slice none none (some (.UnaryOp .USub (.Constant (.int 1) k p1) p2)) p3) pos) (.rvs ma) :=
  .plain rfl (fun _ _ _ z => by cases z) (fun _ => rfl) ((pe_revA ha.pp).mono fun σ H Q ⟨c, s, rel, hx, q⟩ => by
    unfold evE at q
    refine ⟨c, s, rel, hx, q.bind.mono fun x s1 H1 c1 x1 r1 q1 hx1 v hv => ?_⟩
    obtain ⟨r, ex, q2⟩ := q1.of
    have w := wish_of (xa := T.xa) r1 hx1 q2
    cases x with
    | lst ds =>
      cases ex
      obtain ⟨a, vs, rfl, ha, t⟩ := hv.lst
      exact ⟨a, vs, rfl, .inl ⟨SqL.of ha, fun p hp => w p _ hp t.reverse⟩⟩
    | tup ds =>
      cases ex
      obtain ⟨a, vs, rfl, ha, ha', t⟩ := hv.tup
      exact ⟨a, vs, rfl, .inr ⟨ha, w.tup r1.obs t.reverse⟩⟩
    | _ => cases ex)

/-! ### calls -/
theorem same_or {c : Cf} {p : Addr} {H : Hp} (hx : c.x = none) : Same (hid (fun b => c.P b ∨ b = p) H) (hid (Cf.P { c with x := some p }) H) := same_hid fun b o n q => ⟨fun z => by
  rcases z with z | z | z | z | z
  · exact n (.inl (.inl z))
  · exact n (.inl (.inr (.inl z)))
  · exact n (.inl (.inr (.inr (.inl z))))
  · exact n (.inr (Option.some.inj z).symm)
  · exact n (.inl (.inr (.inr (.inr (.inr z))))), q⟩
theorem call_run {N : List Str} {sc : Scope} (g : GE X T N sc W) {σ : L2.St} {H1 : Hp} {Q : VK} {c1 : Cf} {s1 : Stt} {id : Nat} {xs dd : List D} {vs dvs : List V} {n ar : Nat} {φ : List D → Hand → FR}
    (r1 : Rel X.K c1 s1 σ H1) (hx1 : c1.x = none) (hvs : Dats X.K c1.ha (hid c1.P H1) vs xs) (hl : xs.length = ar) (hdd : ∀ ha H, Dats X.K ha H dvs dd) (hn : ar + dd.length = n) (hφ : ∀ xs g, xs.length = ar → T.Φ id xs g ≠ .bad → T.Φ id xs g = φ (xs ++ dd) g)
    (q : Run X.K T.xa W c1 σ H1 ((T.Φ id xs s1.g).res s1) fun r s' H' c' => ∀ v, ValOk X.K c' H' r v → Q v H') : spG X.K T.xa n φ (vs ++ dvs) H1 Q fun cls d H' => W cls d σ H' := by
  have hnb : T.Φ id xs s1.g ≠ .bad := fun z => by rw [z] at q; exact q
  have e := hφ xs s1.g hl hnb
  refine ⟨by rw [List.length_append, hvs.length, (hdd c1.ha H1).length]; omega, c1.ha, c1.ca, c1.P, xs ++ dd, s1.g, .inl rfl, fun b h => r1.P_some h, r1.hnd, r1.hca, hvs.append (hdd _ _), ?_⟩
  rw [← e]
  cases hF : T.Φ id xs s1.g with
  | bad => exact hnb hF
  | ret r g' =>
    rw [hF] at q
    intro v H' ⟨ext, hh, hr⟩
    cases r with
    | d x =>
      obtain ⟨r2, x2⟩ := r1.grow ext hh
      exact q H' c1 x2 r2 v ⟨hx1, hr⟩
    | f ys =>
      obtain ⟨p, ws, rfl, hp, hp', t⟩ := hr
      obtain ⟨r2, x2⟩ := r1.growx hx1 hp hp' ext hh
      exact q H' _ x2 r2 _ ⟨p, ws, rfl, rfl, hp', Dats.mono (same_or hx1) _ _ t⟩
  | ex e g' =>
    rw [hF] at q
    intro cls d H' ext hh hxa
    obtain ⟨r2, x2⟩ := r1.grow ext hh
    exact q cls d H' c1 x2 r2 hx1 hxa
theorem snd_call {N : List Str} {sc : Scope} (g : GE X T N sc W) {x : Str} {id : Nat} {es : List Expr} {ms : List E} {p pos : Pos} (hf : (x, es.length, id) ∈ T.nm.fns) (hg : sc.names.lookup x = some .globalImplicit) (hd : (x == ("__debug__" : Str)) = false) (h : SndL X T W es ms) :
    Snd X T W (.Call (.Name x p) es [] pos) (.call id ms) := by
  obtain ⟨f, fd, ps, dvs, ds, dd, φ, F, hm, hk, hb, hdv, hdd, hn, hφ⟩ := g.glb.fns _ hf
  have hgl : Gl X x := by show X.env.scope.names.lookup x = _; rw [g.sco]; exact hg
  refine .plain rfl (fun _ _ _ z => by cases z) (fun _ => rfl) ?_
  cases es with
  | nil =>
    have e := h.nil_out
    subst e
    exact (pe_callG0 F g.room g.gd hgl hm hk hb hdv g.tk hd).mono fun σ H Q ⟨c, s, rel, hx, q⟩ => by
      unfold evE evL at q
      exact call_run (xs := []) g rel hx Dats.nil rfl hdd hn hφ q
  | cons e es =>
    exact (pe_callG F g.room g.gd hgl hm hk hb hdv g.tk h.pa hd (ok_plain X.env h.ok)).mono fun σ H Q ⟨c, s, rel, hx, q⟩ => by
      unfold evE at q
      exact ⟨c, s, rel, hx, q.bind.monoE fun xs s1 H1 c1 eq x1 r1 q1 hx1 vs hvs => call_run g r1 hx1 hvs (by rw [evL_length T.Φ eq, ← h.length]) hdd hn hφ q1⟩

/-! ### built-in defs -/
def bname : B → Str
  | .len => "len"
  | .abs => "abs"
  | .max => "max"
  | .min => "min"
  | .int => "int"
  | .sum => "sum"
  | .tuple => "tuple"
  | .list => "list"
  | .sorted => "sorted"
  | .all => "all"
  | .any => "any"
  | .repr => "repr"
  | .bool => "bool"
theorem bname_boot (b : B) : bootBuiltins (bname b) = some (bval b) ∧ bname b ≠ "__name__" ∧ (bname b == ("__debug__" : Str)) = false := by
  cases b <;> exact ⟨by decide +kernel, by decide +kernel, by decide +kernel⟩
theorem pe_blt {N : List Str} {sc : Scope} (g : GE X T N sc W) (b : B) {e : Expr} {es : List Expr} {t : TA} {p pos : Pos} (hg : sc.names.lookup (bname b) = some .globalImplicit) (hb : bname b ∈ T.nm.bl) (ha : PA X (e :: es) t) (hp : Plain (e :: es) X.env) :
    PE X (.Call (.Name (bname b) p) (e :: es) [] pos) (tCB (rBltD X.K b) t) := by
  have hgl : Gl X (bname b) := by show X.env.scope.names.lookup _ = _; rw [g.sco]; exact hg
  obtain ⟨b1, b2, b3⟩ := bname_boot b
  have hc := call_bltD g.calm g.gd g.hu b
  have hm := g.glb.bl _ hb
  cases b <;> first
    | exact pe_callB hc hgl hm b1 ha b2 b3 hp.head (hp.tail.any pos)
    | exact pe_callTy hc hgl hm b1 ha b2 b3 hp.head (hp.tail.any pos)
theorem snd_blt {N : List Str} {sc : Scope} (g : GE X T N sc W) (b : B) {e : Expr} {es : List Expr} {ms : List E} {p pos : Pos} (hg : sc.names.lookup (bname b) = some .globalImplicit) (hb : bname b ∈ T.nm.bl) (h : SndL X T W (e :: es) ms) :
    Snd X T W (.Call (.Name (bname b) p) (e :: es) [] pos) (.blt b ms) :=
  .plain rfl (fun _ _ _ z => by cases z) (fun _ => rfl) ((pe_blt g b hg hb h.pas (ok_plain X.env h.ok)).mono fun σ H Q ⟨c, s, rel, hx, q⟩ => by
    unfold evE at q
    refine ⟨c, s, rel, hx, q.bind.mono fun xs s1 H1 c1 x1 r1 q1 hx1 vs hvs => ?_⟩
    obtain ⟨r, er, q2⟩ := q1.of
    exact ⟨c1, xs, r, r1.obs, hvs, er, wish_of (xa := T.xa) r1 hx1 q2⟩)

/-! ### isinstance -/
def tyS : Ty → String
  | .bool => "bool"
  | .int => "int"
  | .list => "list"
  | .tuple => "tuple"
  | .str => "str"
def dS : D → String
  | .non => "NoneType"
  | .bl _ => "bool"
  | .int _ => "int"
  | .str _ => "str"
  | .lst _ => "list"
  | .tup _ => "tuple"
  | .hand => "list"
  | .edic _ => "dict"
theorem kit_all (d : D) (t : Ty) : kitB (dS d) (tyS t) = isTy d t := by
  cases d <;> cases t <;> (simp only [dS, tyS, isTy]; decide +kernel)
theorem boot_ty (t : Ty) : bootBuiltins (Str.ofString (tyS t)) = some (.type (tyS t)) ∧ Str.ofString (tyS t) ≠ "__name__" ∧ ((Str.ofString (tyS t)) == ("__debug__" : Str)) = false := by
  cases t <;> exact ⟨by decide +kernel, by decide +kernel, by decide +kernel⟩
theorem tyX_of {K : Fr} {c : Cf} {s : Stt} {σ : L2.St} {H : Hp} {v : V} {d : D} (rel : Rel K c s σ H) (h : DatP K c H v d) : TyX K H v (.type (dS d)) := by
  cases d with
  | non => rw [h.non]; exact .base .non
  | bl b => rw [h.bl]; exact .base (.bl _)
  | int b => rw [h.int]; exact .base (.int _)
  | str b => rw [h.str]; exact .base (.str _)
  | lst ds => obtain ⟨a, xs, rfl, ha, _⟩ := h.lst; exact .base (.lst ha)
  | tup ds =>
    obtain ⟨a, xs, rfl, ha, _⟩ := h.tup
    rcases ha with (ha | ⟨o, ha⟩) | ⟨o, its, n, hk, hc, _⟩
    · exact .base (.tup ha)
    · exact .fTuple ha
    · exact .kTuple hk hc
  | hand => rw [h.hand]; exact .base (.lst rel.hnd.1)
  | edic kvs => obtain ⟨a, rfl, ha⟩ := h.edic; exact .base (.dK ha)
theorem snd_isi {N : List Str} {sc : Scope} (g : GE X T N sc W) {a : Expr} {ma : E} (t : Ty) {p p2 pos : Pos} (hg : sc.names.lookup ("isinstance" : Str) = some .globalImplicit) (hb : ("isinstance" : Str) ∈ T.nm.bl) (hg2 : sc.names.lookup (Str.ofString (tyS t)) = some .globalImplicit)
    (hb2 : Str.ofString (tyS t) ∈ T.nm.bl) (ho : okE a = true) (ha : Snd X T W a ma) : Snd X T W (.Call (.Name "isinstance" p) [a, .Name (Str.ofString (tyS t)) p2] [] pos) (.isi ma t) := by
  have hgl : Gl X "isinstance" := by show X.env.scope.names.lookup _ = _; rw [g.sco]; exact hg
  have hgl2 : Gl X (Str.ofString (tyS t)) := by show X.env.scope.names.lookup _ = _; rw [g.sco]; exact hg2
  obtain ⟨b1, b2, b3⟩ := boot_ty t
  have hn : PE X (.Name (Str.ofString (tyS t)) p2) (tC (.ty (tyS t))) := pe_bltn hgl2 (g.glb.bl _ hb2) b1 rfl b2 b3
  refine .plain rfl (fun _ _ _ z => by cases z) (fun _ => rfl) ((pe_callB call_isi hgl (g.glb.bl _ hb) (by decide +kernel) (pa_cons ha.pp (pa_cons hn pa_nil) (ok_star ho _ _)) (by decide +kernel) (by decide +kernel) (ok_star ho _ _)).mono fun σ H Q ⟨c, s, rel, hx, q⟩ => ?_)
  unfold evE at q
  refine ⟨c, s, rel, hx, q.bind.mono fun x s1 H1 c1 x1 r1 q1 hx1 v hv => ?_⟩
  obtain ⟨b, eb, q2⟩ := q1.of_bind
  exact ⟨v, .ty (tyS t), .type (dS x), .type (tyS t), b, rfl, .ty _, tyX_of r1 hv, kit_ty (by rw [kit_all]; exact eb), q2 _ _ .refl r1 _ ⟨hx1, dat_bl.mpr rfl⟩⟩
end
end PD

set_option Elab.async false
set_option linter.all false
set_option maxRecDepth 100000
set_option maxHeartbeats 4000000
/-! PyS8: targets, what is walked, comprehensions. -/
namespace PD
open PySem PySem.Spec PyProof.Rows L2

/-! ### targets -/
def tgIs : Tg → List Nat
  | .nm i => [i]
  | .tp is => is
def gNames : List Nat → TGs
  | [] => gNil
  | i :: is => gCons (gName i) (gNames is)
def gT (K : Fr) : Tg → TG
  | .nm i => gName i
  | .tp is => gTup K is.length (gNames is)
/-- a name that may be stored, at its slot -/
def NmOk (X : Cx) (x : Str) (i : Nat) : Prop := X.N[i]? = some x ∧ Loc X.env.scope x ∧ (X.fn x = true ∨ X.env.scope.names.lookup x = some .local)
/-- names -/
inductive NmsOk (X : Cx) : List Expr → List Nat → Prop where
  | nil : NmsOk X [] []
  | cons {x : Str} {p : Pos} {i : Nat} {es : List Expr} {is : List Nat} (h : NmOk X x i) (t : NmsOk X es is) : NmsOk X (.Name x p :: es) (i :: is)
inductive TgOk (X : Cx) : Expr → Tg → Prop where
  | nm {x : Str} {p : Pos} {i : Nat} (h : NmOk X x i) : TgOk X (.Name x p) (.nm i)
  | tp {es : List Expr} {is : List Nat} {k : Nat} {p : Pos} (h : NmsOk X es is) : TgOk X (.Tuple es k p) (.tp is)
section
variable {X : Cx}
theorem NmOk.pg {x : Str} {i : Nat} {p : Pos} (nd : X.N.Nodup) (h : NmOk X x i) : PG X (.Name x p) (gName i) := pg_name nd h.1 h.2.1 h.2.2
theorem NmsOk.pgs (nd : X.N.Nodup) {es : List Expr} {is : List Nat} (h : NmsOk X es is) : PGs X es (gNames is) := by
  induction h with
  | nil => exact pgs_nil
  | cons h _ ih => exact pgs_cons (h.pg nd) ih rfl
theorem NmsOk.len {es : List Expr} {is : List Nat} (h : NmsOk X es is) : (assignEach es X.env).length = is.length ∧ (assignEach es X.env).findIdx? (·.1) = none := by
  induction h with
  | nil => exact ⟨rfl, rfl⟩
  | @cons x p i es is h _ ih =>
    have e : assignEach (.Name x p :: es) X.env = (false, assign (.Name x p) X.env) :: assignEach es X.env := rfl
    rw [e]
    refine ⟨by simp [ih.1], ?_⟩
    rw [List.findIdx?_cons]
    simp [ih.2]
theorem TgOk.pg (nd : X.N.Nodup) (hc : X.calm = true) {e : Expr} {t : Tg} (h : TgOk X e t) : PG X e (gT X.K t) := by
  cases h with
  | nm h => exact h.pg nd
  | tp h => exact pg_tup hc (h.pgs nd) h.len.1 h.len.2
end
section
variable {K : Fr} {σ : L2.St} {H : Hp}
theorem names_run {Q : L2.St → Hp → Prop} : ∀ {is : List Nat} {xs : List D} {vs : List V} {c : Cf} {s : Stt} {σ : L2.St}, Rel K c s σ H → Dats K c.ha (hid c.P H) vs xs → xs.length = is.length →
    (∀ σ2 c2, XS c H c2 H → c2.x = c.x → Rel K c2 ((is.zip xs).foldl (fun s p => s.put p.1 (.d p.2)) s) σ2 H → (∀ j, j ∉ is → σ2[j]? = σ[j]?) → Q σ2 H) → gNames is vs σ H Q
  | [], xs, vs, c, s, σ, rel, hd, hl, k => by
    have e : xs = [] := List.length_eq_zero_iff.mp hl
    subst e
    exact ⟨Dats.nil_iff.mp hd, k σ c .refl rfl rel fun _ _ => rfl⟩
  | i :: is, xs, vs, c, s, σ, rel, hd, hl, k => by
    cases xs with
    | nil => simp at hl
    | cons x xs =>
      obtain ⟨v, ws, rfl, h1, t⟩ := hd.cons_out
      obtain ⟨r1, x1⟩ := rel.store (i := i) h1
      refine ⟨v, ws, rfl, ?_⟩
      refine names_run (is := is) (xs := xs) r1 (by exact Dats.mono x1.same _ _ t) (by simpa using hl) fun σ2 c2 x2 hx2 r2 hs => k σ2 c2 (x1.trans x2) hx2 r2 fun j hj => ?_
      rw [hs j fun z => hj (List.mem_cons_of_mem _ z)]
      exact List.getElem?_set_ne fun z => hj (by rw [z]; exact List.mem_cons_self)
theorem bind_run {Q : L2.St → Hp → Prop} {t : Tg} {x : D} {v : V} {c : Cf} {s s1 : Stt} (rel : Rel K c s σ H) (hd : Dat K c.ha (hid c.P H) v x) (e : bindT t x s = some s1)
    (k : ∀ σ2 c2, XS c H c2 H → c2.x = c.x → Rel K c2 s1 σ2 H → (∀ j, j ∉ tgIs t → σ2[j]? = σ[j]?) → Q σ2 H) : gT K t v σ H Q := by
  cases t with
  | nm i =>
    cases e
    obtain ⟨r1, x1⟩ := rel.store (i := i) hd
    exact k _ _ x1 rfl r1 fun j hj => List.getElem?_set_ne fun z => hj (by rw [z]; exact List.mem_cons_self)
  | tp is =>
    cases x with
    | tup xs =>
      simp only [bindT] at e
      split at e
      · rename_i hl
        cases e
        obtain ⟨a, vs, rfl, hs, t⟩ := dat_tup.mp hd
        exact ⟨a, vs, rfl, sqT_same same_un hs, by rw [t.length, hl], names_run rel t hl k⟩
      · cases e
    | _ => cases e
end

theorem foldl_len : ∀ (l : List (Nat × D)) (s : Stt), (l.foldl (fun s p => s.put p.1 (.d p.2)) s).ρ.length = s.ρ.length
  | [], _ => rfl
  | p :: l, s => by
    rw [List.foldl_cons, foldl_len l]
    exact List.length_set
theorem bindT_len {t : Tg} {x : D} {s s1 : Stt} (e : bindT t x s = some s1) : s1.ρ.length = s.ρ.length := by
  cases t with
  | nm i =>
    cases e
    exact List.length_set
  | tp is =>
    cases x with
    | tup xs =>
      simp only [bindT] at e
      split at e
      · cases e
        exact foldl_len _ _
      · cases e
    | _ => cases e
/-! ### what is walked -/
def JOf (K : Fr) (k : Sk) (vs : List V) (H : Hp) (J : It) : Prop :=
  match k with
  | .seq => ∃ a, vs = [.ref a] ∧ (((∃ xs, SqL K H a xs) ∧ J = Itl K a) ∨ ((∃ xs, SqT K H a xs) ∧ J = Itt K a))
  | .rng => (∃ j : Int, vs = [.int j] ∧ -(2 ^ 62) ≤ j ∧ j < 2 ^ 62 ∧ J = Itr 0 j.toNat) ∨ ∃ i j : Int, vs = [.int i, .int j] ∧ (-(2 ^ 62) ≤ i ∧ i < 2 ^ 62 ∧ -(2 ^ 62) ≤ j ∧ j < 2 ^ 62) ∧ J = Itr i (j - i).toNat
  | .zip => ∃ a b xs ys, vs = [.ref a, .ref b] ∧ ((SqL K H a xs ∧ SqL K H b ys ∧ J = Itz K a b) ∨ (SqT K H a xs ∧ SqT K H b ys ∧ J = RZ.ItzT K a b))
  | .enum => ∃ a xs, vs = [.ref a] ∧ ((SqL K H a xs ∧ J = Ite K a) ∨ (SqT K H a xs ∧ J = IteT K a))
  | .rev => ∃ a xs, vs = [.ref a] ∧ ((SqL K H a xs ∧ J = Itv K a xs.length) ∨ (SqT K H a xs ∧ J = RT.ItvT K a xs.length))
/-- J walks ds, wherever G -/
def Walks1 (K : Fr) (J : It) (ds : List D) (c : Cf) (H : Hp) : Prop :=
  (∀ i (h : i < ds.length), J.go i H ∧ ∀ x H2, J.yld i H x H2 → (H2 = H ∨ ∃ p o, H p = none ∧ H2 = upd H p o) ∧ Dat K c.ha (hid c.P H2) x ds[i]) ∧ ∀ i, ds.length ≤ i → J.stop i H
section
variable {K : Fr} {c : Cf} {H : Hp}
theorem dats_at {ha : Addr} {H' : Hp} {ds : List D} {vs : List V} (t : Dats K ha H' vs ds) {i : Nat} (h : i < ds.length) : ∃ v, vs[i]? = some v ∧ Dat K ha H' v ds[i] := t.get (List.getElem?_eq_getElem h)
theorem walks_l {a : Addr} {xs : List V} {ds : List D} (h : SqL K H a xs) (t : Dats K c.ha (hid c.P H) xs ds) : Walks1 K (Itl K a) ds c H := by
  refine ⟨fun i hi => ?_, fun i hi => ⟨xs, h, by rw [t.length]; exact hi⟩⟩
  obtain ⟨v, hv, hd⟩ := dats_at t hi
  refine ⟨⟨xs, v, h, hv⟩, fun x H2 ⟨e, y⟩ => ?_⟩
  subst e
  have e2 : x = v := Option.some.inj ((y xs h).symm.trans hv)
  subst e2
  exact ⟨.inl rfl, hd⟩
theorem walks_t {a : Addr} {xs : List V} {ds : List D} (h : SqT K H a xs) (t : Dats K c.ha (hid c.P H) xs ds) : Walks1 K (Itt K a) ds c H := by
  refine ⟨fun i hi => ?_, fun i hi => ⟨xs, h, by rw [t.length]; exact hi⟩⟩
  obtain ⟨v, hv, hd⟩ := dats_at t hi
  refine ⟨⟨xs, v, h, hv⟩, fun x H2 ⟨e, y⟩ => ?_⟩
  subst e
  have e2 : x = v := Option.some.inj ((y xs h).symm.trans hv)
  subst e2
  exact ⟨.inl rfl, hd⟩
theorem walks_r (lo : Int) (n : Nat) : Walks1 K (Itr lo n) ((List.range n).map fun k => D.int (lo + (k : Nat))) c H := by
  refine ⟨fun i hi => ⟨?_, fun x H2 ⟨e, y⟩ => ?_⟩, fun i hi => ?_⟩
  · show i < n
    simpa using hi
  · subst e; subst y
    refine ⟨.inl rfl, ?_⟩
    simp only [List.getElem_map, List.getElem_range]
    exact dat_int.mpr rfl
  · show n ≤ i
    simpa using hi
theorem pair_dat (ho : Obs c H) {T : Addr} {x y : V} {d e : D} (hT : H T = none) (h1 : Dat K c.ha (hid c.P H) x d) (h2 : Dat K c.ha (hid c.P H) y e) : Dat K c.ha (hid c.P (upd H T (.tup [x, y]))) (.ref T) (.tup [d, e]) :=
  dat_tup.mpr ⟨T, [x, y], rfl, sqT_upd (ho T hT), Dats.cons (Dat.mono (same_upd1 hT) _ _ h1) (Dats.cons (Dat.mono (same_upd1 hT) _ _ h2) Dats.nil)⟩
theorem walks_z (ho : Obs c H) {a b : Addr} {xs ys : List V} {ds es : List D} (h : SqL K H a xs) (h' : SqL K H b ys) (t : Dats K c.ha (hid c.P H) xs ds) (t' : Dats K c.ha (hid c.P H) ys es) : Walks1 K (Itz K a b) ((ds.zip es).map fun p => .tup [p.1, p.2]) c H := by
  refine ⟨fun i hi => ?_, fun i hi => ⟨xs, ys, h, h', ?_⟩⟩
  · have hi' : i < ds.length ∧ i < es.length := by simp at hi; omega
    obtain ⟨v, hv, hd⟩ := dats_at t hi'.1
    obtain ⟨u, hu, he⟩ := dats_at t' hi'.2
    refine ⟨⟨xs, ys, v, u, h, h', hv, hu⟩, fun x H2 ⟨T, x1, y1, ex, hT, eH, f1, f2⟩ => ?_⟩
    subst ex; subst eH
    have e1 : x1 = v := Option.some.inj ((f1 xs h).symm.trans hv)
    have e2 : y1 = u := Option.some.inj ((f2 ys h').symm.trans hu)
    subst e1; subst e2
    refine ⟨.inr ⟨T, _, hT, rfl⟩, ?_⟩
    simp only [List.getElem_map, List.getElem_zip]
    exact pair_dat ho hT hd he
  · rw [t.length, t'.length]
    simp at hi
    omega
theorem walks_zt (ho : Obs c H) {a b : Addr} {xs ys : List V} {ds es : List D} (h : SqT K H a xs) (h' : SqT K H b ys) (t : Dats K c.ha (hid c.P H) xs ds) (t' : Dats K c.ha (hid c.P H) ys es) : Walks1 K (RZ.ItzT K a b) ((ds.zip es).map fun p => .tup [p.1, p.2]) c H := by
  refine ⟨fun i hi => ?_, fun i hi => ⟨xs, ys, h, h', ?_⟩⟩
  · have hi' : i < ds.length ∧ i < es.length := by simp at hi; omega
    obtain ⟨v, hv, hd⟩ := dats_at t hi'.1
    obtain ⟨u, hu, he⟩ := dats_at t' hi'.2
    refine ⟨⟨xs, ys, v, u, h, h', hv, hu⟩, fun x H2 ⟨T, x1, y1, ex, hT, eH, f1, f2⟩ => ?_⟩
    subst ex; subst eH
    have e1 : x1 = v := Option.some.inj ((f1 xs h).symm.trans hv)
    have e2 : y1 = u := Option.some.inj ((f2 ys h').symm.trans hu)
    subst e1; subst e2
    refine ⟨.inr ⟨T, _, hT, rfl⟩, ?_⟩
    simp only [List.getElem_map, List.getElem_zip]
    exact pair_dat ho hT hd he
  · rw [t.length, t'.length]
    simp at hi
    omega
theorem walks_e (ho : Obs c H) {a : Addr} {xs : List V} {ds : List D} (h : SqL K H a xs) (t : Dats K c.ha (hid c.P H) xs ds) : Walks1 K (Ite K a) (ds.zipIdx.map fun p => .tup [.int p.2, p.1]) c H := by
  refine ⟨fun i hi => ?_, fun i hi => ⟨xs, h, by rw [t.length]; simpa using hi⟩⟩
  obtain ⟨v, hv, hd⟩ := dats_at t (by simpa using hi)
  refine ⟨⟨xs, v, h, hv⟩, fun x H2 ⟨T, x1, ex, hT, eH, f1⟩ => ?_⟩
  subst ex; subst eH
  have e1 : x1 = v := Option.some.inj ((f1 xs h).symm.trans hv)
  subst e1
  refine ⟨.inr ⟨T, _, hT, rfl⟩, ?_⟩
  simp only [List.getElem_map, List.getElem_zipIdx]
  have e0 : ((0 + i : Nat) : Int) = ((i : Nat) : Int) := by omega
  rw [e0]
  exact pair_dat ho hT (dat_int.mpr rfl) hd
theorem walks_eT (ho : Obs c H) {a : Addr} {xs : List V} {ds : List D} (h : SqT K H a xs) (t : Dats K c.ha (hid c.P H) xs ds) : Walks1 K (IteT K a) (ds.zipIdx.map fun p => .tup [.int p.2, p.1]) c H := by
  refine ⟨fun i hi => ?_, fun i hi => ⟨xs, h, by rw [t.length]; simpa using hi⟩⟩
  obtain ⟨v, hv, hd⟩ := dats_at t (by simpa using hi)
  refine ⟨⟨xs, v, h, hv⟩, fun x H2 ⟨T, x1, ex, hT, eH, f1⟩ => ?_⟩
  subst ex; subst eH
  have e1 : x1 = v := Option.some.inj ((f1 xs h).symm.trans hv)
  subst e1
  refine ⟨.inr ⟨T, _, hT, rfl⟩, ?_⟩
  simp only [List.getElem_map, List.getElem_zipIdx]
  have e0 : ((0 + i : Nat) : Int) = ((i : Nat) : Int) := by omega
  rw [e0]
  exact pair_dat ho hT (dat_int.mpr rfl) hd
theorem walks_v {a : Addr} {xs : List V} {ds : List D} (h : SqL K H a xs) (t : Dats K c.ha (hid c.P H) xs ds) : Walks1 K (Itv K a xs.length) ds.reverse c H := by
  have hl := t.length
  refine ⟨fun i hi => ?_, fun i hi => ?_⟩
  · have hi' : i < ds.length := by simpa using hi
    obtain ⟨v, hv, hd⟩ := dats_at t (i := ds.length - 1 - i) (by omega)
    rw [← hl] at hv
    refine ⟨⟨by omega, xs, v, h, hv⟩, fun x H2 ⟨e, y⟩ => ?_⟩
    subst e
    have e2 : x = v := Option.some.inj ((y xs h).symm.trans hv)
    subst e2
    refine ⟨.inl rfl, ?_⟩
    simp only [List.getElem_reverse]
    exact hd
  · show xs.length ≤ i
    rw [hl]
    simpa using hi
theorem walks_vt {a : Addr} {xs : List V} {ds : List D} (h : SqT K H a xs) (t : Dats K c.ha (hid c.P H) xs ds) : Walks1 K (RT.ItvT K a xs.length) ds.reverse c H := by
  have hl := t.length
  refine ⟨fun i hi => ?_, fun i hi => ?_⟩
  · have hi' : i < ds.length := by simpa using hi
    obtain ⟨v, hv, hd⟩ := dats_at t (i := ds.length - 1 - i) (by omega)
    rw [← hl] at hv
    refine ⟨⟨by omega, xs, v, h, hv⟩, fun x H2 ⟨e, y⟩ => ?_⟩
    subst e
    have e2 : x = v := Option.some.inj ((y xs h).symm.trans hv)
    subst e2
    refine ⟨.inl rfl, ?_⟩
    simp only [List.getElem_reverse]
    exact hd
  · show xs.length ≤ i
    rw [hl]
    simpa using hi
theorem rng_out {i j : Int} (h : rngOk i j = true) : -(2 ^ 62) ≤ i ∧ i < 2 ^ 62 ∧ -(2 ^ 62) ≤ j ∧ j < 2 ^ 62 := by
  unfold rngOk at h
  simp only [Bool.and_eq_true, decide_eq_true_eq] at h
  exact ⟨h.1.1.1, h.1.1.2, h.1.2, h.2⟩
/-- what walks is there; it walks on while the sources may be looked at -/
theorem j_of_src {k : Sk} {xs ds : List D} {vs : List V} (h : DatPs K c H vs xs) (e : srcL k xs = some ds) :
    ∃ J, JOf K k vs H J ∧ ∀ c' H', DatPs K c' H' vs xs → Obs c' H' → Walks1 K J ds c' H' := by
  unfold srcL at e
  split at e
  · cases e
    obtain ⟨v, ws, rfl, d1, d2⟩ := h.cons_out
    cases d2.nil_out
    obtain ⟨a, zs, rfl, ha, t⟩ := d1.lst
    refine ⟨Itl K a, ⟨a, rfl, .inl ⟨⟨zs, SqL.of ha⟩, rfl⟩⟩, fun c' H' h' _ => ?_⟩
    obtain ⟨_, _, e, d1, _⟩ := h'.cons_out
    cases e
    obtain ⟨b, ys, e, ha, t⟩ := d1.lst
    cases e
    exact walks_l (SqL.of ha) t
  · cases e
    obtain ⟨v, ws, rfl, d1, d2⟩ := h.cons_out
    cases d2.nil_out
    obtain ⟨a, zs, rfl, ha, _, t⟩ := d1.tup
    refine ⟨Itt K a, ⟨a, rfl, .inr ⟨⟨zs, ha⟩, rfl⟩⟩, fun c' H' h' _ => ?_⟩
    obtain ⟨_, _, e, d1, _⟩ := h'.cons_out
    cases e
    obtain ⟨b, ys, e, ha, _, t⟩ := d1.tup
    cases e
    exact walks_t ha t
  · split at e
    · rename_i hz
      cases e
      obtain ⟨v, ws, rfl, d1, d2⟩ := h.cons_out
      cases d2.nil_out
      obtain ⟨z1, z2, z3, z4⟩ := rng_out hz
      refine ⟨_, .inl ⟨_, by rw [d1.int], z3, z4, rfl⟩, fun c' H' _ _ => ?_⟩
      unfold rngL
      rw [Int.sub_zero]
      exact walks_r 0 _
    · cases e
  · split at e
    · rename_i hz
      cases e
      obtain ⟨v, ws, rfl, d1, d2⟩ := h.cons_out
      obtain ⟨v2, ws2, rfl, d3, d4⟩ := d2.cons_out
      cases d4.nil_out
      exact ⟨_, .inr ⟨_, _, by rw [d1.int, d3.int], rng_out hz, rfl⟩, fun c' H' _ _ => walks_r _ _⟩
    · cases e
  · cases e
    obtain ⟨v, ws, rfl, d1, d2⟩ := h.cons_out
    obtain ⟨v2, ws2, rfl, d3, d4⟩ := d2.cons_out
    cases d4.nil_out
    obtain ⟨a, zs, rfl, ha, t⟩ := d1.lst
    obtain ⟨b, us, rfl, hb, t'⟩ := d3.lst
    refine ⟨Itz K a b, ⟨a, b, zs, us, rfl, .inl ⟨SqL.of ha, SqL.of hb, rfl⟩⟩, fun c' H' h' ho => ?_⟩
    obtain ⟨_, _, e, d1, d2⟩ := h'.cons_out
    cases e
    obtain ⟨_, _, e, d3, _⟩ := d2.cons_out
    cases e
    obtain ⟨_, ys, e, ha, t⟩ := d1.lst
    cases e
    obtain ⟨_, ys', e, hb, t'⟩ := d3.lst
    cases e
    exact walks_z ho (SqL.of ha) (SqL.of hb) t t'
  · cases e
    obtain ⟨v, ws, rfl, d1, d2⟩ := h.cons_out
    obtain ⟨v2, ws2, rfl, d3, d4⟩ := d2.cons_out
    cases d4.nil_out
    obtain ⟨a, zs, rfl, ha, _, t⟩ := d1.tup
    obtain ⟨b, us, rfl, hb, _, t'⟩ := d3.tup
    refine ⟨RZ.ItzT K a b, ⟨a, b, zs, us, rfl, .inr ⟨ha, hb, rfl⟩⟩, fun c' H' h' ho => ?_⟩
    obtain ⟨_, _, e, d1, d2⟩ := h'.cons_out
    cases e
    obtain ⟨_, _, e, d3, _⟩ := d2.cons_out
    cases e
    obtain ⟨_, ys, e, ha, _, t⟩ := d1.tup
    cases e
    obtain ⟨_, ys', e, hb, _, t'⟩ := d3.tup
    cases e
    exact walks_zt ho ha hb t t'
  · cases e
    obtain ⟨v, ws, rfl, d1, d2⟩ := h.cons_out
    cases d2.nil_out
    obtain ⟨a, zs, rfl, ha, t⟩ := d1.lst
    refine ⟨Ite K a, ⟨a, zs, rfl, .inl ⟨SqL.of ha, rfl⟩⟩, fun c' H' h' ho => ?_⟩
    obtain ⟨_, _, e, d1, _⟩ := h'.cons_out
    cases e
    obtain ⟨_, ys, e, ha, t⟩ := d1.lst
    cases e
    exact walks_e ho (SqL.of ha) t
  · cases e
    obtain ⟨v, ws, rfl, d1, d2⟩ := h.cons_out
    cases d2.nil_out
    obtain ⟨a, zs, rfl, ha, _, t⟩ := d1.tup
    refine ⟨IteT K a, ⟨a, zs, rfl, .inr ⟨ha, rfl⟩⟩, fun c' H' h' ho => ?_⟩
    obtain ⟨_, _, e, d1, _⟩ := h'.cons_out
    cases e
    obtain ⟨_, ys, e, ha, _, t⟩ := d1.tup
    cases e
    exact walks_eT ho ha t
  · rename_i ls
    cases e
    obtain ⟨v, ws, rfl, d1, d2⟩ := h.cons_out
    cases d2.nil_out
    obtain ⟨a, zs, rfl, ha, t⟩ := d1.lst
    refine ⟨Itv K a zs.length, ⟨a, zs, rfl, .inl ⟨SqL.of ha, rfl⟩⟩, fun c' H' h' _ => ?_⟩
    obtain ⟨_, _, e, d1, _⟩ := h'.cons_out
    cases e
    obtain ⟨_, ys, e, ha', t'⟩ := d1.lst
    cases e
    rw [show zs.length = ys.length from by rw [t.length, t'.length]]
    exact walks_v (SqL.of ha') t'
  · rename_i ls
    cases e
    obtain ⟨v, ws, rfl, d1, d2⟩ := h.cons_out
    cases d2.nil_out
    obtain ⟨a, zs, rfl, ha, _, t⟩ := d1.tup
    refine ⟨RT.ItvT K a zs.length, ⟨a, zs, rfl, .inr ⟨ha, rfl⟩⟩, fun c' H' h' _ => ?_⟩
    obtain ⟨_, _, e, d1, _⟩ := h'.cons_out
    cases e
    obtain ⟨_, ys, e, ha', _, t'⟩ := d1.tup
    cases e
    rw [show zs.length = ys.length from by rw [t.length, t'.length]]
    exact walks_vt ha' t'
  · cases e
end

/-! ### the iterators -/
theorem _root_.L2.PI.mono {X : Cx} {tg e : Expr} {t t' : TI} (h : PI X tg e t) (w : ∀ σ H R, t' σ H R → t σ H R) : PI X tg e t' := ⟨fun pins s σ H R I q => h.run pins s σ H R I (w σ H R q)⟩
/-- a list or a tuple, as it comes -/
def iSq (K : Fr) (te : TE) : TI := fun σ H R => te σ H fun x H1 => ∃ a, x = .ref a ∧ (((∃ xs, SqL K H1 a xs) ∧ R (Itl K a) H1) ∨ ((∃ xs, SqT K H1 a xs) ∧ R (Itt K a) H1))
section
variable {X : Cx} {tg : Expr}
theorem pi_sq {l : Expr} {te : TE} (hl : PE X l te) : PI X tg l (iSq X.K te) := by
  refine ⟨fun pins s σ H R I h => thn (hl.run pins s σ H _ I h) fun v s1 he => ?_⟩
  obtain ⟨x, H1, I1, rx, a, ex, hq⟩ := he
  subst ex
  have ev : v = Value.ref a := rx
  subst ev
  have spot : ∀ b ∈ [s1.heap.objs.size], FpOk X pins H1 b := fun b hb => by
    have e := List.mem_singleton.mp hb
    rw [e]
    exact I1.fpOk (Nat.le_refl _) (I1.hok.fresh (Nat.le_refl _))
  have more : ∀ o : Obj, Inv X pins σ H1 { s1 with heap := s1.heap.push o } := fun o => I1.kept (t' := s1.toks) fun _ _ q => Heap.get?_push_of_some _ q
  rcases hq with ⟨⟨xs, hs⟩, q⟩ | ⟨⟨xs, hs⟩, q⟩
  · obtain ⟨its, _, pl, _⟩ := I1.list hs
    exact wpAny_pyIter_list pl.isList ⟨_, [s1.heap.objs.size], _, Itl X.K a, H1, rfl, more _, turn_list a _, ⟨_, Heap.get?_push_size _ rfl, rfl, rfl⟩, spot, q⟩
  · obtain ⟨its, _, pt, _⟩ := I1.tuple hs
    exact wpAny_pyIter_tuple (items := its.toArray) pt ⟨_, [s1.heap.objs.size], _, Itt X.K a, H1, rfl, more _, turn_tuple a _, ⟨_, Heap.get?_push_size _ rfl, rfl, rfl⟩, spot, q⟩
end
end PD

set_option Elab.async false
set_option linter.all false
set_option maxRecDepth 100000
set_option maxHeartbeats 4000000
/-! PyS9: sources of loops, comprehensions. -/
namespace PD
open PySem PySem.Spec PyProof.Rows L2

section
variable (K : Fr) (T : Tb) (W : WX)
def rdSP (k : Sk) (ms : List E) : TI := fun σ H R => ∃ c s, Rel K c s σ H ∧ c.x = none ∧ Run K T.xa W c σ H (evPs T.Φ ms s) fun xs s' H' c' => c'.x = none → ∀ vs, DatPs K c' H' vs xs → ∃ J, JOf K k vs H' J ∧ R J H'
def rdSL (k : Sk) (ms : List E) : TI := fun σ H R => ∃ c s, Rel K c s σ H ∧ c.x = none ∧ Run K T.xa W c σ H (evL T.Φ ms s) fun xs s' H' c' => c'.x = none → ∀ vs, Dats K c'.ha (hid c'.P H') vs xs → ∃ J, JOf K k vs H' J ∧ R J H'
end
theorem evPs_length (Φ : FEnv) : ∀ {es : List E} {s s' : Stt} {xs : List D}, evPs Φ es s = .ok xs s' → xs.length = es.length
  | [], s, s', xs, h => by
    unfold evPs at h
    cases h; rfl
  | e :: es, s, s', xs, h => by
    unfold evPs at h
    cases h1 : pk e (evE Φ e) s with
    | bad => rw [h1] at h; cases h
    | ex _ _ => rw [h1] at h; cases h
    | ok r s1 =>
      rw [h1] at h
      simp only [Res.bind_ok] at h
      cases h2 : evPs Φ es s1 with
      | bad => rw [h2] at h; cases h
      | ex _ _ => rw [h2] at h; cases h
      | ok ys s2 =>
        rw [h2] at h
        simp only [Res.bind_ok] at h
        cases h
        simp [evPs_length Φ h2]
theorem DatPs.length {K : Fr} {c : Cf} {H : Hp} : ∀ {vs : List V} {ds : List D}, DatPs K c H vs ds → vs.length = ds.length
  | [], [], _ => rfl
  | _ :: _, _ :: _, h => by simp [DatPs.length h.2]
  | [], _ :: _, h => h.elim
  | _ :: _, [], h => h.elim
theorem Dats.ps {K : Fr} {c : Cf} {H : Hp} : ∀ {vs : List V} {ds : List D}, Dats K c.ha (hid c.P H) vs ds → DatPs K c H vs ds
  | vs, [], h => by
    have e := Dats.nil_iff.mp h
    subst e; trivial
  | vs, d :: ds, h => by
    obtain ⟨v, ws, rfl, h1, t⟩ := h.cons_out
    exact ⟨DatP.of h1, Dats.ps t⟩
inductive SrcOk (X : Cx) (T : Tb) (W : WX) (tg : Expr) : Expr → Sk → List E → Prop where
  | seq {e : Expr} {m : E} (h : Snd X T W e m) : SrcOk X T W tg e .seq [m]
  | rng1 {a : Expr} {ms : List E} {p pos : Pos} (hg : Gl X "range") (hm : X.mg "range" = none) (h : SndL X T W [a] ms) : SrcOk X T W tg (.Call (.Name "range" p) [a] [] pos) .rng ms
  | rng2 {a b : Expr} {ms : List E} {p pos : Pos} (hg : Gl X "range") (hm : X.mg "range" = none) (h : SndL X T W [a, b] ms) : SrcOk X T W tg (.Call (.Name "range" p) [a, b] [] pos) .rng ms
  | zip {a b : Expr} {ms : List E} {p pos tp : Pos} {es : List Expr} {k : Nat} (ht : tg = .Tuple es k tp) (hg : Gl X "zip") (hm : X.mg "zip" = none) (h : SndL X T W [a, b] ms) : SrcOk X T W tg (.Call (.Name "zip" p) [a, b] [] pos) .zip ms
  | enum {a : Expr} {ms : List E} {p pos tp : Pos} {es : List Expr} {k : Nat} (ht : tg = .Tuple es k tp) (hg : Gl X "enumerate") (hm : X.mg "enumerate" = none) (h : SndL X T W [a] ms) : SrcOk X T W tg (.Call (.Name "enumerate" p) [a] [] pos) .enum ms
  | rev {a : Expr} {m : E} {p pos : Pos} (hg : Gl X "reversed") (hm : X.mg "reversed" = none) (ho : okE a = true) (h : Snd X T W a m) : SrcOk X T W tg (.Call (.Name "reversed" p) [a] [] pos) .rev [m]
section
variable {X : Cx} {T : Tb} {W : WX} {tg : Expr}
theorem star1 {a : Expr} {ms : List E} (h : SndL X T W [a] ms) : starEach [a] X.env = [(false, eval a X.env)] := by
  obtain ⟨m, ms', rfl, o, _, _⟩ := h.cons_out
  rw [ok_star o]; rfl
theorem star2 {a b : Expr} {ms : List E} (h : SndL X T W [a, b] ms) : starEach [a, b] X.env = [(false, eval a X.env), (false, eval b X.env)] ∧ starEach [b] X.env = [(false, eval b X.env)] := by
  obtain ⟨m, ms', rfl, o, _, t⟩ := h.cons_out
  have q := star1 t
  exact ⟨by rw [ok_star o, q], q⟩
theorem SrcOk.p {iter : Expr} {k : Sk} {ms : List E} (h : SrcOk X T W tg iter k ms) : PI X tg iter (rdSP X.K T W k ms) := by
  cases h with
  | seq h =>
    refine (pi_sq h.pp).mono fun σ H R ⟨c, s, rel, hx, q⟩ => ?_
    unfold evPs at q
    refine ⟨c, s, rel, hx, q.bind.mono fun x s1 H1 c1 x1 r1 q1 hx1 v hv => ?_⟩
    unfold evPs at q1
    obtain ⟨J, hJ, hR⟩ := q1 _ _ .refl r1 hx1 [v] ⟨hv, trivial⟩
    obtain ⟨a, e, hJ⟩ := hJ
    cases e
    rcases hJ with ⟨hs, rfl⟩ | ⟨hs, rfl⟩
    · exact ⟨a, rfl, .inl ⟨hs, hR⟩⟩
    · exact ⟨a, rfl, .inr ⟨hs, hR⟩⟩
  | rng1 hg hm h =>
    refine (pi_range1 hg hm h.pas (star1 h)).mono fun σ H R ⟨c, s, rel, hx, q⟩ => ⟨c, s, rel, hx, q.monoE fun xs s1 H1 c1 eq x1 r1 q1 hx1 vs hvs => ?_⟩
    obtain ⟨J, hJ, hR⟩ := q1 hx1 vs hvs
    have hl := hvs.length
    rw [evPs_length T.Φ eq, ← h.length] at hl
    rcases hJ with ⟨j, e, b1, b2, rfl⟩ | ⟨i, j, e, _⟩
    · exact ⟨j, e, b1, b2, hR⟩
    · rw [e] at hl; simp at hl
  | rng2 hg hm h =>
    obtain ⟨s1, s2⟩ := star2 h
    refine (pi_range2 hg hm h.pas s1 s2).mono fun σ H R ⟨c, s, rel, hx, q⟩ => ⟨c, s, rel, hx, q.monoE fun xs s1 H1 c1 eq x1 r1 q1 hx1 vs hvs => ?_⟩
    obtain ⟨J, hJ, hR⟩ := q1 hx1 vs hvs
    have hl := hvs.length
    rw [evPs_length T.Φ eq, ← h.length] at hl
    rcases hJ with ⟨j, e, _⟩ | ⟨i, j, e, b, rfl⟩
    · rw [e] at hl; simp at hl
    · exact ⟨i, j, e, b, hR⟩
  | zip ht hg hm h =>
    subst ht
    obtain ⟨s1, s2⟩ := star2 h
    refine (RZ.pi_zipA hg hm h.pas (by rw [s1, s2]) (by rw [s2]; rfl)).mono fun σ H R ⟨c, s, rel, hx, q⟩ => ⟨c, s, rel, hx, q.mono fun xs s1 H1 c1 x1 r1 q1 hx1 vs hvs => ?_⟩
    obtain ⟨J, ⟨a, b, xs', ys', e, hJ⟩, hR⟩ := q1 hx1 vs hvs
    rcases hJ with ⟨h1, h2, rfl⟩ | ⟨h1, h2, rfl⟩
    · exact ⟨a, b, xs', ys', e, .inl ⟨h1, h2, hR⟩⟩
    · exact ⟨a, b, xs', ys', e, .inr ⟨h1, h2, hR⟩⟩
  | enum ht hg hm h =>
    subst ht
    refine (pi_enumA hg hm h.pas (star1 h)).mono fun σ H R ⟨c, s, rel, hx, q⟩ => ⟨c, s, rel, hx, q.mono fun xs s1 H1 c1 x1 r1 q1 hx1 vs hvs => ?_⟩
    obtain ⟨J, ⟨a, xs', e, hJ⟩, hR⟩ := q1 hx1 vs hvs
    rcases hJ with ⟨h1, rfl⟩ | ⟨h1, rfl⟩
    · exact ⟨a, xs', e, .inl ⟨h1, hR⟩⟩
    · exact ⟨a, xs', e, .inr ⟨h1, hR⟩⟩
  | rev hg hm ho h =>
    refine (RT.pi_revA hg hm h.pp (ok_star ho _ _)).mono fun σ H R ⟨c, s, rel, hx, q⟩ => ?_
    unfold evPs at q
    refine ⟨c, s, rel, hx, q.bind.mono fun x s1 H1 c1 x1 r1 q1 hx1 v hv => ?_⟩
    unfold evPs at q1
    obtain ⟨J, ⟨a, xs', e, hJ⟩, hR⟩ := q1 _ _ .refl r1 hx1 [v] ⟨hv, trivial⟩
    cases e
    rcases hJ with ⟨hs, rfl⟩ | ⟨hs, rfl⟩
    · exact ⟨a, xs', rfl, .inl ⟨hs, hR⟩⟩
    · exact ⟨a, xs', rfl, .inr ⟨hs, hR⟩⟩
theorem one_L {c : Cf} {s : Stt} {σ : L2.St} {H : Hp} {m : E} {k : Sk} {R : It → Hp → Prop} (q : Run X.K T.xa W c σ H (evL T.Φ [m] s) fun xs s' H' c' => c'.x = none → ∀ vs, Dats X.K c'.ha (hid c'.P H') vs xs → ∃ J, JOf X.K k vs H' J ∧ R J H') :
    Run X.K T.xa W c σ H (evE T.Φ m s) fun r s' H' c' => ∀ v, ValOk X.K c' H' r v → ∃ J, JOf X.K k [v] H' J ∧ R J H' := by
  unfold evL at q
  refine q.bind.mono fun r s1 H1 c1 x1 r1 q1 v hv => ?_
  unfold evL at q1
  obtain ⟨r2, x2⟩ := r1.nox
  have hd := hv.dat r1
  exact q1 _ _ x2 r2 rfl [v] (Dats.cons hd Dats.nil)
theorem SrcOk.l {iter : Expr} {k : Sk} {ms : List E} (h : SrcOk X T W tg iter k ms) : PI X tg iter (rdSL X.K T W k ms) := by
  cases h with
  | seq h =>
    refine (pi_sq h.ee).mono fun σ H R ⟨c, s, rel, hx, q⟩ => ⟨c, s, rel, hx, (one_L q).mono fun r s1 H1 c1 x1 r1 q1 v hv => ?_⟩
    obtain ⟨J, ⟨a, e, hJ⟩, hR⟩ := q1 v hv
    cases e
    rcases hJ with ⟨hs, rfl⟩ | ⟨hs, rfl⟩
    · exact ⟨a, rfl, .inl ⟨hs, hR⟩⟩
    · exact ⟨a, rfl, .inr ⟨hs, hR⟩⟩
  | rng1 hg hm h =>
    refine (pi_range1 hg hm h.pa (star1 h)).mono fun σ H R ⟨c, s, rel, hx, q⟩ => ⟨c, s, rel, hx, q.monoE fun xs s1 H1 c1 eq x1 r1 q1 hx1 vs hvs => ?_⟩
    obtain ⟨J, hJ, hR⟩ := q1 hx1 vs hvs
    have hl := hvs.length
    rw [evL_length T.Φ eq, ← h.length] at hl
    rcases hJ with ⟨j, e, b1, b2, rfl⟩ | ⟨i, j, e, _⟩
    · exact ⟨j, e, b1, b2, hR⟩
    · rw [e] at hl; simp at hl
  | rng2 hg hm h =>
    obtain ⟨s1, s2⟩ := star2 h
    refine (pi_range2 hg hm h.pa s1 s2).mono fun σ H R ⟨c, s, rel, hx, q⟩ => ⟨c, s, rel, hx, q.monoE fun xs s1 H1 c1 eq x1 r1 q1 hx1 vs hvs => ?_⟩
    obtain ⟨J, hJ, hR⟩ := q1 hx1 vs hvs
    have hl := hvs.length
    rw [evL_length T.Φ eq, ← h.length] at hl
    rcases hJ with ⟨j, e, _⟩ | ⟨i, j, e, b, rfl⟩
    · rw [e] at hl; simp at hl
    · exact ⟨i, j, e, b, hR⟩
  | zip ht hg hm h =>
    subst ht
    obtain ⟨s1, s2⟩ := star2 h
    refine (RZ.pi_zipA hg hm h.pa (by rw [s1, s2]) (by rw [s2]; rfl)).mono fun σ H R ⟨c, s, rel, hx, q⟩ => ⟨c, s, rel, hx, q.mono fun xs s1 H1 c1 x1 r1 q1 hx1 vs hvs => ?_⟩
    obtain ⟨J, ⟨a, b, xs', ys', e, hJ⟩, hR⟩ := q1 hx1 vs hvs
    rcases hJ with ⟨h1, h2, rfl⟩ | ⟨h1, h2, rfl⟩
    · exact ⟨a, b, xs', ys', e, .inl ⟨h1, h2, hR⟩⟩
    · exact ⟨a, b, xs', ys', e, .inr ⟨h1, h2, hR⟩⟩
  | enum ht hg hm h =>
    subst ht
    refine (pi_enumA hg hm h.pa (star1 h)).mono fun σ H R ⟨c, s, rel, hx, q⟩ => ⟨c, s, rel, hx, q.mono fun xs s1 H1 c1 x1 r1 q1 hx1 vs hvs => ?_⟩
    obtain ⟨J, ⟨a, xs', e, hJ⟩, hR⟩ := q1 hx1 vs hvs
    rcases hJ with ⟨h1, rfl⟩ | ⟨h1, rfl⟩
    · exact ⟨a, xs', e, .inl ⟨h1, hR⟩⟩
    · exact ⟨a, xs', e, .inr ⟨h1, hR⟩⟩
  | rev hg hm ho h =>
    refine (RT.pi_revA hg hm h.ee (ok_star ho _ _)).mono fun σ H R ⟨c, s, rel, hx, q⟩ => ⟨c, s, rel, hx, (one_L q).mono fun r s1 H1 c1 x1 r1 q1 v hv => ?_⟩
    obtain ⟨J, ⟨a, xs', e, hJ⟩, hR⟩ := q1 v hv
    cases e
    rcases hJ with ⟨hs, rfl⟩ | ⟨hs, rfl⟩
    · exact ⟨a, xs', rfl, .inl ⟨hs, hR⟩⟩
    · exact ⟨a, xs', rfl, .inr ⟨hs, hR⟩⟩
end

/-! ### the block of a comprehension -/
theorem GE.blk {X : Cx} {T : Tb} {N : List Str} {sc scope : Scope} {W : WX} (g : GE X T N sc W) (s : Shared) (H : Hp) (C : Addr) (cl : List (Str × Addr)) (fp : List Addr) : GE (X.blk s H scope (compEnvC scope cl C X.env) fp) T N (relS scope sc) (fun _ _ _ _ => False) :=
  ⟨g.nN, g.nd, by rw [← g.sco]; rfl, g.calm, g.room, g.gd, takes0, g.glb⟩
theorem forget_no (s : Stt) : ∀ (vs : List Nat) (j : Nat), j ∈ vs → (s.forget vs).ρ[j]? = some .no ∨ (s.forget vs).ρ[j]? = none
  | i :: vs, j, h => by
    unfold Stt.forget
    by_cases z : j = i
    · subst z
      by_cases q : j < (s.forget vs).ρ.length
      · exact .inl (put_get q)
      · exact .inr (List.getElem?_eq_none (by unfold Stt.put; rw [List.length_set]; omega))
    · rw [put_get_ne z]
      exact forget_no s vs j (by rcases List.mem_cons.mp h with h | h; exact absurd h z; exact h)
theorem wipe_len (σ : L2.St) (vs : List Nat) : (wipe σ vs).length = σ.length := wipe_length σ vs
theorem wipe_in {σ : L2.St} : ∀ {vs : List Nat} {j : Nat}, j ∈ vs → j < σ.length → (wipe σ vs)[j]? = some none
  | i :: vs, j, h, hl => by
    unfold wipe
    by_cases z : i = j
    · subst z
      exact List.getElem?_set_self (by rw [wipe_length]; exact hl)
    · rw [List.getElem?_set_ne z]
      exact wipe_in (by rcases List.mem_cons.mp h with h | h; exact absurd h.symm z; exact h) hl
theorem wipe_eq {σ τ : L2.St} {vs : List Nat} (hl : τ.length = σ.length) (h : ∀ j, j ∉ vs → τ[j]? = σ[j]?) : wipe τ vs = wipe σ vs := by
  apply List.ext_getElem?
  intro j
  by_cases q : j ∈ vs
  · by_cases l : j < σ.length
    · rw [wipe_in q l, wipe_in q (by omega)]
    · rw [List.getElem?_eq_none (by rw [wipe_length]; omega), List.getElem?_eq_none (by rw [wipe_length]; omega)]
  · rw [wipe_out q, wipe_out q]
    exact h j q
theorem wipe_wipe (σ : L2.St) (vs : List Nat) : wipe (wipe σ vs) vs = wipe σ vs := wipe_eq (wipe_length σ vs) fun j hj => wipe_out hj
section
variable {K : Fr} {c : Cf} {s : Stt} {σ : L2.St} {H : Hp}
theorem Rel.wipe (r : Rel K c s σ H) : ∀ vs : List Nat, ∃ c', XS c H c' H ∧ c'.x = c.x ∧ Rel K c' (s.forget vs) (wipe σ vs) H
  | [] => ⟨c, .refl, rfl, r⟩
  | i :: vs => by
    obtain ⟨c', x1, hx, r1⟩ := Rel.wipe r vs
    obtain ⟨r2, x2⟩ := r1.rid (i := i) (cl := .no) (σ' := (L2.wipe σ vs).set i none) List.length_set (fun j hj => List.getElem?_set_ne (Ne.symm hj)) celOk_no (fun _ z => by cases z)
    exact ⟨_, x1.trans x2, hx, r2⟩
theorem Rel.unwipe {vs : List Nat} (r : Rel K c s (L2.wipe σ vs) H) (h : ∀ j, j ∈ vs → s.ρ[j]? = some .no ∨ s.ρ[j]? = none) : Rel K c s σ H :=
  ⟨by rw [r.len, wipe_length], fun i => by
    by_cases q : i ∈ vs
    · rcases h i q with e | e
      · rw [e]; exact celOk_no
      · rw [e]; exact celOk_none
    · have z := r.cel i
      rw [wipe_out q] at z
      exact z, r.hnd, r.hca, r.inj, r.own, r.new, r.xne, r.keep, r.p0, r.cah, r.hah, r.xh, r.yy⟩
theorem DatP.go2 {c' : Cf} {H' : Hp} {v : V} {d : D} (hha : c'.ha = c.ha) (same : Same (hid c.P H) (hid c'.P H')) (ext : ∀ b o, b ≠ c.ha → H b = some o → H' b = some o) (h : DatP K c H v d) : DatP K c' H' v d := by
  cases d with
  | lst ds =>
    obtain ⟨a, xs, e, n, q, t⟩ := h
    exact ⟨a, xs, e, by rw [hha]; exact n, ext _ _ n q, by rw [hha]; exact Dats.mono same ds xs t⟩
  | _ =>
    show Dat K c'.ha (hid c'.P H') v _
    rw [hha]
    exact Dat.mono same _ _ h
theorem DatPs.go2 {c' : Cf} {H' : Hp} (hha : c'.ha = c.ha) (same : Same (hid c.P H) (hid c'.P H')) (ext : ∀ b o, b ≠ c.ha → H b = some o → H' b = some o) : ∀ {vs : List V} {ds : List D}, DatPs K c H vs ds → DatPs K c' H' vs ds
  | [], [], _ => trivial
  | v :: vs, d :: ds, h => ⟨h.1.go2 hha same ext, DatPs.go2 hha same ext h.2⟩
  | [], _ :: _, h => h.elim
  | _ :: _, [], h => h.elim
end
theorem compL_no_ex {f : Stt → Res (Option D)} {t : Tg} {vs : List Nat} : ∀ {ds acc : List D} {s s' : Stt} {e : Exc}, compL f t vs ds acc s ≠ .ex e s'
  | [], acc, s, s', e, h => by unfold compL at h; cases h
  | d :: ds, acc, s, s', e, h => by
    unfold compL at h
    split at h
    · cases h
    · split at h
      · split at h
        · exact compL_no_ex h
        · cases h
      · exact compL_no_ex h
      · cases h
/-- a clause's test, or none -/
def SndOb (X : Cx) (T : Tb) (W : WX) : List Expr → Option E → Prop
  | [], none => True
  | [e], some m => Snd X T W e m
  | _, _ => False
def rdT1 (K : Fr) (T : Tb) (W : WX) (o : Option E) : TT := fun σ H Q => ∃ c s, Rel K c s σ H ∧ c.x = none ∧ Run K T.xa W c σ H (evO1 T.Φ o s) fun b s' H' c' => c'.x = none → Q b H'
theorem SndOb.pts {X : Cx} {T : Tb} {W : WX} : ∀ {ifs : List Expr} {o : Option E}, SndOb X T W ifs o → PTs X ifs (rdT1 X.K T W o)
  | [], none, _ => ⟨fun pins s σ H Q I ⟨c, st, rel, hx, q⟩ => pts_nil.run pins s σ H Q I (by unfold evO1 at q; exact q _ _ .refl rel hx)⟩
  | [e], some m, h => ⟨fun pins s σ H Q I ⟨c, st, rel, hx, q⟩ => (pts_one (Snd.tt h)).run pins s σ H Q I ⟨c, st, rel, hx, by unfold evO1 at q; exact q⟩⟩
  | [], some _, h => h.elim
  | [_], none, h => h.elim
  | _ :: _ :: _, none, h => h.elim
  | _ :: _ :: _, some _, h => h.elim
def cF (Φ : FEnv) (mc : Option E) (me : E) : Stt → Res (Option D) := fun s => (evO1 Φ mc s).bind fun b s3 => match b with
        | true => (evE Φ me s3).bind fun y s4 => .ok (some y.D) s4
        | false => .ok none s3
theorem e_comp {X : Cx} {T : Tb} {N : List Str} {sc scope : Scope} {W : WX} (g : GE X T N sc W) {tg iter elt : Expr} {ifs : List Expr} {pos : Pos} {own : List (Str × Nat)} {k : Sk} {ms : List E} {mc : Option E} {me : E} {t : Tg}
    (hi : SrcOk X T W tg iter k ms) (hfo : okE iter = true) (ok : BlkOk X.N X.env.scope scope own)
    (htg : ∀ s H C cl fp, TgOk (X.blk s H scope (compEnvC scope cl C X.env) fp) tg t) (hts : ∀ j, j ∈ tgIs t → j ∈ own.map (·.2))
    (hc : ∀ s H C cl fp, SndOb (X.blk s H scope (compEnvC scope cl C X.env) fp) T (fun _ _ _ _ => False) ifs mc) (he : ∀ s H C cl fp, Snd (X.blk s H scope (compEnvC scope cl C X.env) fp) T (fun _ _ _ _ => False) elt me) :
    ∀ σ H Q, rdE X.K T W (.comp (own.map (·.2)) t k ms mc me) σ H Q → tLc (rdSP X.K T W k ms) (gT X.K t) (rdT1 X.K T (fun _ _ _ _ => False) mc) (rdE X.K T (fun _ _ _ _ => False) me) (own.map (·.2)) σ H Q := by
  intro σ H Q ⟨c, s, rel, hx, q⟩
  generalize hvs : own.map (·.2) = ws at *
  unfold evE at q
  refine ⟨c, s, rel, hx, q.bind.mono fun xs s1 H1 c1 x1 r1 q1 hx1 vs' hvs' => ?_⟩
  obtain ⟨ds, eds, q2⟩ := q1.of_bind
  obtain ⟨J, hJ, hw⟩ := j_of_src hvs' eds
  refine ⟨J, hJ, fun D hD => ?_⟩
  have q2 : Run X.K T.xa W c1 σ H1 ((compL (cF T.Φ mc me) t ws ds [] (s1.forget ws)).bind fun ys s3 => .ok (.f ys) s3) fun r s' H' c' => ∀ v, ValOk X.K c' H' r v → Q v H' := q2
  cases hcp : compL (cF T.Φ mc me) t ws ds [] (s1.forget ws) with
  | bad => rw [hcp] at q2; exact q2.elim
  | ex e s' => exact absurd hcp compL_no_ex
  | ok ys s3 =>
    rw [hcp] at q2
    have q3 : ∀ H' c', XS c1 H1 c' H' → Rel X.K c' s3 σ H' → ∀ v, ValOk X.K c' H' (.f ys) v → Q v H' := q2
    have nDha : D ≠ c1.ha := fun z => by rw [z, r1.hnd.1] at hD; cases hD
    have nDy : D ∉ c1.y.all := fun z => by
      obtain ⟨_, _, _, _, _, _, e⟩ := r1.yy D z
      rw [hD] at e; cases e
    -- what holds ahead of turn i
    let Inv1 : Nat → Hp → Prop := fun i H' => ∃ c' s' acc accD, Rel X.K c' s' (wipe σ ws) H' ∧ c'.x = none ∧ c'.y = ⟨D :: c1.y.l, c1.y.o, c1.y.b⟩ ∧ c'.ha = c1.ha ∧ c'.ca = c1.ca ∧ c'.P0 = c1.P0 ∧ c'.H0 = c1.H0 ∧ Same (hid c1.P H1) (hid c'.P H') ∧
      (∀ b o, b ≠ c1.ha → H1 b = some o → H' b = some o) ∧ H' D = some (.lst acc) ∧ Dats X.K c1.ha (hid c'.P H') acc accD ∧ compL (cF T.Φ mc me) t ws (ds.drop i) accD s' = .ok ys s3 ∧ ∀ j, j ∈ ws → s'.ρ[j]? = some .no ∨ s'.ρ[j]? = none
    refine ⟨fun i m H' => m = ds.length - i ∧ i ≤ ds.length ∧ Inv1 i H', ⟨_, rfl, Nat.zero_le _, ?_⟩, fun i m H' ⟨em, hi, c', s', acc, accD, rl, ex0, ey, e1, e2, e3, e4, same, ext, hDa, hda, hcl, hno⟩ => ?_⟩
    · obtain ⟨cw, xw, hxw, rw1⟩ := r1.wipe ws
      obtain ⟨r2, sm⟩ := rw1.openY (p := D) (vs := []) hD
      have ext0 : ∀ b o, H1 b = some o → upd H1 D (.lst []) b = some o := fun b o z => by rw [upd_ne (ne_of_none z hD)]; exact z
      exact ⟨_, s1.forget ws, [], [], r2, hxw.trans hx1, by rw [← xw.y], xw.ha, xw.ca, xw.P0, xw.H0, xw.same.trans sm, fun b o _ z => ext0 b o z, upd_same, Dats.nil, by rw [List.drop_zero]; exact hcp, forget_no s1 ws⟩
    · obtain ⟨go, stop⟩ := hw c' H' (hvs'.go2 e1 same ext) rl.obs
      by_cases hlt : i < ds.length
      · obtain ⟨g1, g2⟩ := go i hlt
        refine .inr ⟨g1, fun H'' => Inv1 (i + 1) H'', fun H'' hI => ⟨ds.length - (i + 1), by omega, rfl, hlt, hI⟩, fun x H2 hy => ?_⟩
        obtain ⟨hgr, hdx⟩ := g2 x H2 hy
        have dr : ds.drop i = ds[i] :: ds.drop (i + 1) := List.drop_eq_getElem_cons hlt
        rw [dr] at hcl
        unfold compL at hcl
        cases hb : bindT t ds[i] s' with
        | none => rw [hb] at hcl; cases hcl
        | some s1' =>
          rw [hb] at hcl
          simp only at hcl
          -- the heap with the item
          obtain ⟨rl2, same2, ext2⟩ : Rel X.K c' s' (wipe σ ws) H2 ∧ Same (hid c'.P H') (hid c'.P H2) ∧ ∀ b o, H' b = some o → H2 b = some o := by
            rcases hgr with rfl | ⟨p, o, hp, rfl⟩
            · exact ⟨rl, fun _ _ z => z, fun _ _ z => z⟩
            · obtain ⟨a1, a2⟩ := rl.new1 (o := o) hp
              exact ⟨a1, a2.same, fun b u z => by rw [upd_ne (ne_of_none z hp)]; exact z⟩
          refine bind_run rl2 hdx hb fun σ2 c2 x2 hx2 r2 hout => ?_
          have ew : wipe σ2 ws = wipe σ ws := by
            have l2 : σ2.length = (wipe σ ws).length := by rw [← r2.len, ← rl2.len]; exact bindT_len hb
            rw [← wipe_wipe σ ws]
            exact wipe_eq l2 fun j hj => hout j fun z => hj (hts j z)
          refine ⟨ew, c2, s1', r2, hx2.trans ex0, ?_⟩
          have fin : ∀ {c5 : Cf} {s5 : Stt} {H5 : Hp} {ac : List V} {acD : List PD.D}, Rel X.K c5 s5 σ2 H5 → c5.x = none → XS c2 H2 c5 H5 → (H5 D = some (.lst ac)) → Dats X.K c1.ha (hid c5.P H5) ac acD →
              compL (cF T.Φ mc me) t ws (ds.drop (i + 1)) acD (s5.forget ws) = .ok ys s3 → Inv1 (i + 1) H5 := fun {c5 s5 H5 ac acD} r5 hx5 x5 hD5 hd5 hc5 => by
            obtain ⟨cw, xw, hxw, rw1⟩ := r5.wipe ws
            rw [ew] at rw1
            refine ⟨cw, s5.forget ws, ac, acD, rw1, hxw.trans hx5, by rw [xw.y, x5.y, x2.y, ey], by rw [xw.ha, x5.ha, x2.ha, e1], by rw [xw.ca, x5.ca, x2.ca, e2], by rw [xw.P0, x5.P0, x2.P0, e3], by rw [xw.H0, x5.H0, x2.H0, e4],
              same.trans (same2.trans (x2.same.trans (x5.same.trans xw.same))), fun b o n z => ?_, hD5, Dats.mono xw.same _ _ hd5, hc5, forget_no s5 ws⟩
            exact x5.ext b o (by rw [x2.ha, e1]; exact n) (ext2 b o (ext b o n z))
          cases h4 : evO1 T.Φ mc s1' with
          | bad => simp only [cF, h4, Res.bind_bad] at hcl; cases hcl
          | ex e s4 => simp only [cF, h4, Res.bind_ex] at hcl; cases hcl
          | ok b s4 =>
            simp only [cF, h4, Res.bind_ok] at hcl
            intro H3 c3 x3 r3 hx3
            have hD3 : H3 D = some (.lst acc) := x3.ext D _ (by rw [x2.ha, e1]; exact nDha) (ext2 _ _ hDa)
            have hd3 : Dats X.K c1.ha (hid c3.P H3) acc accD := Dats.mono (same2.trans (x2.same.trans x3.same)) _ _ hda
            cases b with
            | false =>
              rw [if_neg Bool.false_ne_true]
              exact fin r3 hx3 x3 hD3 hd3 hcl
            | true =>
              rw [if_pos rfl]
              refine ⟨c3, s4, r3, hx3, ?_⟩
              cases h5 : evE T.Φ me s4 with
              | bad => simp only [h5, Res.bind_bad] at hcl; cases hcl
              | ex e s5 => simp only [h5, Res.bind_ex] at hcl; cases hcl
              | ok r s5 =>
                simp only [h5, Res.bind_ok] at hcl
                split at hcl
                · rename_i hsz
                  intro H4 c4 x4 r4 v hv
                  have nD3 : D ≠ c3.ha := by rw [x3.ha, x2.ha, e1]; exact nDha
                  have hD4 : H4 D = some (.lst acc) := x4.ext D _ nD3 hD3
                  refine ⟨acc, hD4, by rw [hda.length]; exact hsz, ?_⟩
                  obtain ⟨r5, x5⟩ := r4.nox
                  have hdv := hv.dat r4
                  have hDq : D ∉ (Cf.y { c4 with x := none }).b := by
                    show D ∉ c4.y.b
                    rw [x4.y, x3.y, x2.y, ey]
                    exact fun z => nDy (List.mem_append_right _ z)
                  have hDy : D ∈ (Cf.y { c4 with x := none }).l := by
                    show D ∈ c4.y.l
                    rw [x4.y, x3.y, x2.y, ey]
                    exact List.mem_cons_self
                  obtain ⟨r6, sm6, ex6⟩ := r5.growY (ws := acc ++ [v]) hDy hDq
                  -- as a step from c2, H2 it changes D; so the invariant is built by hand
                  obtain ⟨cw, xw, hxw, rw1⟩ := r6.wipe ws
                  rw [ew] at rw1
                  have y4 : c4.ha = c1.ha := by rw [x4.ha, x3.ha, x2.ha, e1]
                  refine ⟨cw, s5.forget ws, acc ++ [v], accD ++ [r.D], rw1, hxw, by rw [xw.y]; show c4.y = _; rw [x4.y, x3.y, x2.y, ey], by rw [xw.ha]; exact y4, by rw [xw.ca]; show c4.ca = _; rw [x4.ca, x3.ca, x2.ca, e2], by rw [xw.P0]; show c4.P0 = _; rw [x4.P0, x3.P0, x2.P0, e3],
                    by rw [xw.H0]; show c4.H0 = _; rw [x4.H0, x3.H0, x2.H0, e4], same.trans (same2.trans (x2.same.trans (x3.same.trans (x4.same.trans (x5.same.trans (sm6.trans xw.same)))))), fun b o n z => ?_, upd_same, ?_, hcl, forget_no s5 ws⟩
                  · have nb : b ≠ D := fun w => by rw [w, hD] at z; cases z
                    refine ex6 b o nb (x4.ext b o (by rw [x3.ha, x2.ha, e1]; exact n) (x3.ext b o (by rw [x2.ha, e1]; exact n) (ext2 b o (ext b o n z))))
                  · refine Dats.append (Dats.mono (x4.same.trans (x5.same.trans (sm6.trans xw.same))) _ _ hd3) (Dats.cons ?_ Dats.nil)
                    rw [← y4]
                    exact Dat.mono (sm6.trans xw.same) _ _ hdv
                · cases hcl
      · have ei : i = ds.length := by omega
        subst ei
        refine .inl ⟨stop _ (Nat.le_refl _), ?_⟩
        rw [List.drop_length] at hcl
        unfold compL at hcl
        cases hcl
        obtain ⟨r2, pP⟩ := rl.shutY (p := D) (y0 := c1.y) ey nDy ex0
        have r3 := r2.unwipe hno
        have sm : Same (hid c'.P H') (hid (Cf.P { c' with y := c1.y, x := some D }) H') := same_hid fun b o n z => ⟨fun w => n ((pP b).mp w), z⟩
        refine q3 H' { c' with y := c1.y, x := some D } ⟨e1, e2, e3, e4, rfl, same.trans sm, ext⟩ r3 _ ⟨D, acc, rfl, rfl, hDa, ?_⟩
        have hd9 : Dats X.K c'.ha (hid c'.P H') acc ys := by rw [e1]; exact hda
        exact Dats.mono sm _ _ hd9
end PD

set_option Elab.async false
set_option linter.all false
set_option maxRecDepth 100000
set_option maxHeartbeats 4000000
/-! PyX10: own lists of own rows: made, measured, one item of one row stored. -/
namespace PD
open PySem PySem.Spec PyProof.Rows L2

theorem toRows_eq : ∀ {ds : List D} {xss : List (List Int)}, toRows ds = some xss → ds = rowsD xss
  | [], xss, h => by
    have : ([] : List (List Int)) = xss := Option.some.inj h
    subst this; rfl
  | d :: ds, xss, h => by
    cases d with
    | lst es =>
      simp only [toRows, Option.bind_eq_some_iff, Option.map_eq_some_iff] at h
      obtain ⟨ns, h1, yss, h2, rfl⟩ := h
      have e1 : ∀ {es : List D} {ns : List Int}, toInts es = some ns → es = ns.map .int := by
        intro es
        induction es with
        | nil =>
          intro ns h
          have : ([] : List Int) = ns := Option.some.inj h
          subst this; rfl
        | cons e es ih =>
          intro ns h
          cases e with
          | int i =>
            simp only [toInts, Option.map_eq_some_iff] at h
            obtain ⟨ms, h1, rfl⟩ := h
            rw [ih h1]; rfl
          | _ => cases h
      rw [e1 h1, toRows_eq h2]; rfl
    | _ => cases h
section
variable {K : Fr} {c c' : Cf} {s : Stt} {σ : L2.St} {H H' : Hp}
theorem CelOk.go1 {i : Nat} {cl : Option Cell} {o : Option (Option V)} (h : CelOk K c H i cl o) (n2 : ∀ xss, cl ≠ some (.own2 xss)) (hha : c'.ha = c.ha) (same : Same (hid c.P H) (hid c'.P H'))
    (own : ∀ a vs, c.A i = some a → H a = some (.lst vs) → c'.A i = some a ∧ H' a = some (.lst vs)) : CelOk K c' H' i cl o := by
  cases cl with
  | none => exact celOk_none
  | some cl =>
    cases cl with
    | no => exact celOk_no
    | d x =>
      obtain ⟨v, e, q⟩ := celOk_d.mp h
      exact celOk_d.mpr ⟨v, e, by rw [hha]; exact Dat.mono same _ _ q⟩
    | own xs =>
      obtain ⟨a, vs, e, h1, h2, h3⟩ := celOk_own.mp h
      obtain ⟨q1, q2⟩ := own a vs h1 h2
      exact celOk_own.mpr ⟨a, vs, e, q1, q2, by rw [hha]; exact Dats.mono same _ _ h3⟩
    | own2 xss => exact absurd rfl (n2 xss)
theorem dats_at2 {ha : Addr} : ∀ {vs : List V} {ds : List D}, vs.length = ds.length → (∀ (k : Nat) v d, vs[k]? = some v → ds[k]? = some d → Dat K ha H v d) → Dats K ha H vs ds
  | [], [], _, _ => Dats.nil
  | [], _ :: _, h, _ => by simp at h
  | _ :: _, [], h, _ => by simp at h
  | v :: vs, d :: ds, h, k => Dats.cons (k 0 v d rfl rfl) (dats_at2 (by simpa using h) fun i v d h1 h2 => k (i + 1) v d (by simpa using h1) (by simpa using h2))
/-- the own rows are rows as others -/
theorem Rel.un2 (r : Rel K c s σ H) {i : Nat} {xss : List (List Int)} (e : s.ρ[i]? = some (.own2 xss)) {ds : List D} (h2 : ∀ b o, b ∉ c.y.b → H b = some o → H' b = some o)
    (hd : Dats K c.ha (hid (Cf.P { c with y := ⟨c.y.l, 0, []⟩ }) H') (c.y.b.map .ref) ds) : Rel K { c with y := ⟨c.y.l, 0, []⟩ } (s.put i (.own ds)) σ H' ∧ SS c H { c with y := ⟨c.y.l, 0, []⟩ } H' := by
  have q := r.cel i
  rw [e] at q
  obtain ⟨a, ev, hA, ho, nd, ha, hl, hr⟩ := celOk_own2.mp q
  have hi : i < s.ρ.length := (List.getElem?_eq_some_iff.mp e).1
  have pP : ∀ b, Cf.P { c with y := ⟨c.y.l, 0, []⟩ } b → c.P b := fun b z => by
    rcases z with z | z | z | z | z
    · exact .inl z
    · exact .inr (.inl z)
    · exact .inr (.inr (.inl z))
    · exact .inr (.inr (.inr (.inl z)))
    · have z : b ∈ c.y.l ++ [] := z
      rw [List.append_nil] at z
      exact .inr (.inr (.inr (.inr (List.mem_append_left _ z))))
  have hb : ∀ b ∈ c.y.b, c.P b := fun b z => .inr (.inr (.inr (.inr (List.mem_append_right _ z))))
  have same : Same (hid c.P H) (hid (Cf.P { c with y := ⟨c.y.l, 0, []⟩ }) H') := same_hid fun b o n q => ⟨fun z => n (pP b z), h2 b o (fun z => n (hb b z)) q⟩
  have nb : ∀ j b, c.A j = some b → b ∉ c.y.b := fun j b z w => (r.yb w).2.2.2.1 j z
  have y2 : ∀ b ∈ c.y.l, b ∉ c.y.b := fun b z w => nd.2 b w z
  refine ⟨⟨?_, fun j => ?_, ⟨h2 _ _ (fun w => (r.yb w).2.1 rfl) r.hnd.1, h2 _ _ (fun w => r.hca (hb _ w)) r.hnd.2.1, r.hnd.2.2⟩, fun z => r.hca (pP _ z), r.inj, fun j b z => ?_, r.new, r.xne, fun b o n q => ?_, r.p0, r.cah, r.hah, fun p z => ?_, fun b z => ?_⟩, ⟨rfl, rfl, rfl, rfl, rfl, same⟩⟩
  · unfold Stt.put; rw [List.length_set]; exact r.len
  · by_cases z : j = i
    · subst z
      rw [put_get hi]
      exact celOk_own.mpr ⟨a, _, ev, hA, h2 _ _ (nb _ _ hA) ha, hd⟩
    · rw [put_get_ne z]
      refine (r.cel j).go1 (fun yss w => ?_) rfl same fun b vs k1 k2 => ⟨k1, h2 _ _ (nb _ _ k1) k2⟩
      have q2 := r.cel j
      rw [w] at q2
      obtain ⟨_, _, _, ho2, _⟩ := celOk_own2.mp q2
      exact z (ho2.symm.trans ho)
  · by_cases w : j = i
    · subst w; exact ⟨.inl ds, put_get hi⟩
    · obtain ⟨o, eo⟩ := r.own j b z
      exact ⟨o, by rw [put_get_ne w]; exact eo⟩
  · exact h2 b o (fun w => by rw [(r.yb w).1] at q; cases q) (r.keep b o n q)
  · obtain ⟨vs, ev⟩ := r.xh p z
    exact ⟨vs, h2 _ _ (fun w => (r.yb w).2.2.2.2.1 z) ev⟩
  · have z : b ∈ c.y.l ++ [] := z
    rw [List.append_nil] at z
    obtain ⟨y0, y1, y2', y3, y4, vs, y5⟩ := r.yy b (List.mem_append_left _ z)
    exact ⟨y0, y1, y2', y3, y4, vs, h2 _ _ (y2 b z) y5⟩
/-- what is seen of own rows once they are own no longer -/
theorem Rel.seen2 (r : Rel K c s σ H) {i : Nat} {xss : List (List Int)} (e : s.ρ[i]? = some (.own2 xss)) {b : Addr} (hb : b ∈ c.y.b) : ¬ Cf.P { c with y := ⟨c.y.l, 0, []⟩ } b := fun z => by
  have q := r.cel i
  rw [e] at q
  obtain ⟨a, ev, hA, ho, nd, ha, hl, hr⟩ := celOk_own2.mp q
  obtain ⟨y0, y1, y2, y3, y4, y5⟩ := r.yb hb
  rcases z with z | z | ⟨j, z⟩ | z | z
  · exact y1 z
  · exact y2 z
  · exact y3 j z
  · exact y4 z
  · have z : b ∈ c.y.l ++ [] := z
    rw [List.append_nil] at z
    exact nd.2 b hb z
theorem Rel.dem (r : Rel K c s σ H) (hx : c.x = none) (i : Nat) : ∃ c', Rel K c' (dem s i) σ H ∧ SS c H c' H ∧ c'.x = none := by
  unfold PD.dem
  split
  · rename_i xss e
    have q := r.cel i
    rw [e] at q
    obtain ⟨a, ev, hA, ho, nd, ha, hl, hr⟩ := celOk_own2.mp q
    obtain ⟨r1, s1⟩ := r.un2 (H' := H) (ds := rowsD xss) e (fun _ _ _ z => z) (dats_at2 (by rw [List.length_map, rowsD, List.length_map, hl]) fun k v d h1 h2 => by
      rw [rowsD, List.getElem?_map, Option.map_eq_some_iff] at h2
      obtain ⟨xs, h3, rfl⟩ := h2
      obtain ⟨b, hb, hv⟩ := hr k xs h3
      rw [List.getElem?_map, hb] at h1
      have h1 := (Option.some.inj h1).symm
      subst h1
      exact dat_lst.mpr ⟨b, _, rfl, hid_mk (r.seen2 e (List.mem_of_getElem? hb)) hv, Dats.of_ints _⟩)
    exact ⟨_, r1, s1, hx⟩
  · exact ⟨c, r, .refl, hx⟩
/-- own rows are made -/
theorem Rel.new2 (r : Rel K c s σ H) (hx : c.x = none) {i : Nat} (hi : i < s.ρ.length) (n2 : s.ρ.any isO2 = false) {a : Addr} {bs : List Addr} {xss : List (List Int)} (ext : ∀ b o, H b = some o → H' b = some o) (fa : H a = none) (fb : ∀ b ∈ bs, H b = none ∧ b ≠ a) (nd : bs.Nodup)
    (ha : H' a = some (.lst (bs.map .ref))) (hl : bs.length = xss.length) (hr : ∀ (k : Nat) xs, xss[k]? = some xs → ∃ b, bs[k]? = some b ∧ H' b = some (.lst (xs.map V.int))) :
    Rel K { c with A := fun j => if j = i then some a else c.A j, y := ⟨c.y.l, i, bs⟩ } (s.put i (.own2 xss)) (σ.set i (some (.ref a))) H' ∧ SS c H { c with A := fun j => if j = i then some a else c.A j, y := ⟨c.y.l, i, bs⟩ } H' := by
  have nP : ∀ b, H b = none → ¬ c.P b := fun b z => r.fresh z
  have h0 : ∀ b, H b = none → c.H0 b = none := fun b z => by
    cases w : c.H0 b with
    | none => rfl
    | some o =>
      have q := r.keep b o (fun w => nP b z (.inl w)) w
      rw [z] at q; cases q
  have pP : ∀ b, Cf.P { c with A := fun j => if j = i then some a else c.A j, y := ⟨c.y.l, i, bs⟩ } b → c.P b ∨ H b = none := fun b z => by
    rcases z with z | z | ⟨j, z⟩ | z | z
    · exact .inl (.inl z)
    · exact .inl (.inr (.inl z))
    · by_cases w : j = i
      · simp [w] at z
        exact .inr (by rw [← z]; exact fa)
      · simp [w] at z
        exact .inl (.inr (.inr (.inl ⟨j, z⟩)))
    · exact .inl (.inr (.inr (.inr (.inl z))))
    · rcases List.mem_append.mp z with z | z
      · exact .inl (.inr (.inr (.inr (.inr (List.mem_append_left _ z)))))
      · exact .inr (fb b z).1
  have same : Same (hid c.P H) (hid (Cf.P { c with A := fun j => if j = i then some a else c.A j, y := ⟨c.y.l, i, bs⟩ }) H') := same_hid fun b o n q => ⟨fun z => (pP b z).elim n (fun w => by rw [q] at w; cases w), ext b o q⟩
  have Aso : ∀ j b, c.A j = some b → ∃ o, H b = some o := fun j b z => r.P_some (.inr (.inr (.inl ⟨j, z⟩)))
  have get : ∀ j b, (if j = i then some a else c.A j) = some b → (j = i ∧ b = a) ∨ (j ≠ i ∧ c.A j = some b) := fun j b h => by
    by_cases z : j = i
    · simp [z] at h
      exact .inl ⟨z, h.symm⟩
    · simp [z] at h
      exact .inr ⟨z, h⟩
  have hs := r.len
  have nha : ∀ b, H b = none → b ≠ c.ha := fun b z w => nP b z (.inl w)
  have np0 : ∀ b, H b = none → ¬ c.P0 b := fun b z w => nP b z (.inr (.inl w))
  refine ⟨⟨?_, fun j => ?_, r.hnd.grow ext, fun z => (pP _ z).elim r.hca (fun w => by rw [r.hnd.2.1] at w; cases w), fun j k b h1 h2 => ?_, fun j b h1 => ?_, fun b h1 => ?_, fun j b _ z => (by rw [show _ = c.x from rfl, hx] at z; cases z), fun b o n q => ext b o (r.keep b o n q), r.p0, r.cah, r.hah, fun p z => (by rw [show _ = c.x from rfl, hx] at z; cases z), fun b z => ?_⟩, ⟨rfl, rfl, rfl, rfl, rfl, same⟩⟩
  · unfold Stt.put; rw [List.length_set, List.length_set]; exact hs
  · by_cases z : j = i
    · subst z
      rw [put_get hi, List.getElem?_set_self (by rw [← hs]; exact hi)]
      refine celOk_own2.mpr ⟨a, rfl, by simp, rfl, ⟨nd, fun b hb w => ?_⟩, ha, hl, hr⟩
      obtain ⟨_, _, _, _, _, vs, e⟩ := r.yy b (List.mem_append_left _ w)
      rw [(fb b hb).1] at e; cases e
    · rw [put_get_ne z, List.getElem?_set_ne (Ne.symm z)]
      refine (r.cel j).go1 (fun yss w => ?_) rfl same fun b vs k1 k2 => ⟨by simp [z, k1], ext _ _ k2⟩
      have hm := List.mem_of_getElem? w
      rw [List.any_eq_false] at n2
      exact n2 _ hm rfl
  · rcases get j b h1 with ⟨z1, e1⟩ | ⟨z1, e1⟩ <;> rcases get k b h2 with ⟨z2, e2⟩ | ⟨z2, e2⟩
    · rw [z1, z2]
    · obtain ⟨o, eo⟩ := Aso k b e2
      rw [e1, fa] at eo; cases eo
    · obtain ⟨o, eo⟩ := Aso j b e1
      rw [e2, fa] at eo; cases eo
    · exact r.inj j k b e1 e2
  · rcases get j b h1 with ⟨z1, e1⟩ | ⟨z1, e1⟩
    · subst z1; exact ⟨.inr xss, put_get hi⟩
    · obtain ⟨o, eo⟩ := r.own j b e1
      exact ⟨o, by rw [put_get_ne z1]; exact eo⟩
  · rcases h1 with ⟨j, h1⟩ | h1
    · rcases get j b h1 with ⟨_, e1⟩ | ⟨z1, e1⟩
      · rw [e1]; exact ⟨h0 a fa, nha a fa, np0 a fa⟩
      · exact r.new b (.inl ⟨j, e1⟩)
    · rw [show _ = c.x from rfl, hx] at h1; cases h1
  · rcases List.mem_append.mp z with z | z
    · obtain ⟨y0, y1, y2, y3, y4, vs, y5⟩ := r.yy b (List.mem_append_left _ z)
      refine ⟨y0, y1, y2, fun j w => ?_, y4, vs, ext _ _ y5⟩
      rcases get j b w with ⟨_, e1⟩ | ⟨_, e1⟩
      · rw [e1, fa] at y5; cases y5
      · exact y3 j e1
    · obtain ⟨f1, f2⟩ := fb b z
      refine ⟨h0 b f1, nha b f1, np0 b f1, fun j w => ?_, (fun w => by rw [show _ = c.x from rfl, hx] at w; cases w), ?_⟩
      · rcases get j b w with ⟨_, e1⟩ | ⟨_, e1⟩
        · exact f2 e1
        · obtain ⟨o, eo⟩ := Aso j b e1
          rw [f1] at eo; cases eo
      · obtain ⟨k, hk, ek⟩ := List.mem_iff_getElem.mp z
        obtain ⟨b', e1, e2⟩ := hr k (xss[k]'(by rw [← hl]; exact hk)) (List.getElem?_eq_getElem _)
        rw [List.getElem?_eq_getElem hk, ek] at e1
        have e1 := Option.some.inj e1
        subst e1
        exact ⟨_, e2⟩
end
section
variable {X : Cx} {T : Tb} {N : List Str} {sc : Scope} {w : Nat} {W : WX} {pos : Pos}
/-- len(x) of an own list, its rows own or not; len(x[k]) of own rows -/
theorem snd_len2 (g : GE X T N sc W) {i : Nat} {x : Str} {p1 p2 : Pos} (hl : Gl X "len") (ml : X.mg "len" = none) (hN : X.N[i]? = some x) (hv : Vis X.env.scope x) (hd : (x == ("__debug__" : Str)) = false) (hc : (x == ("__classdict__" : Str)) = false) :
    Snd X T W (.Call (.Name "len" p1) [.Name x p2] [] pos) (.len2 i none) :=
  .plain rfl (fun _ _ _ z => by cases z) (fun _ => rfl) ((pe_callB call_len_seq hl ml (by decide +kernel) (pa_cons (pe_var hN hv hd hc) pa_nil) (by decide +kernel) (by decide +kernel)).mono fun σ H Q ⟨c, s, rel, hx, q⟩ => by
    unfold evE at q
    obtain ⟨n, en, q2⟩ := q.of_bind
    have q3 : ∀ v, ValOk X.K c H (.d (.int n)) v → Q v H := q2 _ _ .refl rel
    unfold len2 at en
    split at en
    · rename_i xss e _
      cases en
      have qc := rel.cel i
      rw [e] at qc
      obtain ⟨a, ev, hA, ho, nd, ha, hl, hr⟩ := celOk_own2.mp qc
      refine ⟨_, ev, a, _, rfl, .inl (SqL.of ha), ?_⟩
      rw [List.length_map, hl]
      exact q3 _ ⟨hx, dat_int.mpr rfl⟩
    · rename_i xs e _
      cases en
      have qc := rel.cel i
      rw [e] at qc
      obtain ⟨a, vs, ev, hA, ha, hd⟩ := celOk_own.mp qc
      refine ⟨_, ev, a, _, rfl, .inl (SqL.of ha), ?_⟩
      rw [hd.length]
      exact q3 _ ⟨hx, dat_int.mpr rfl⟩
    · rename_i z
      cases z
    · cases en)
theorem snd_len2k (g : GE X T N sc W) {i : Nat} {x : Str} {k : Int} {j : Nat} {p1 p2 p3 p4 : Pos} (h0 : 0 ≤ k) (hl : Gl X "len") (ml : X.mg "len" = none) (hN : X.N[i]? = some x) (hv : Vis X.env.scope x) (hd : (x == ("__debug__" : Str)) = false) (hc : (x == ("__classdict__" : Str)) = false) :
    Snd X T W (.Call (.Name "len" p1) [.Subscript (.Name x p2) (.Constant (.int k) j p3) p4] [] pos) (.len2 i (some k.toNat)) :=
  .plain rfl (fun _ _ _ z => by cases z) (fun _ => rfl) ((pe_callB call_len_seq hl ml (by decide +kernel) (pa_cons (pe_ix ix_list (pe_var hN hv hd hc) pe_int (fun _ _ => rfl)) pa_nil) (by decide +kernel) (by decide +kernel)).mono fun σ H Q ⟨c, s, rel, hx, q⟩ => by
    unfold evE at q
    obtain ⟨n, en, q2⟩ := q.of_bind
    have q3 : ∀ v, ValOk X.K c H (.d (.int n)) v → Q v H := q2 _ _ .refl rel
    unfold len2 at en
    split at en
    · rename_i z
      cases z
    · rename_i z
      cases z
    · rename_i xss k' e z
      cases z
      rw [Option.map_eq_some_iff] at en
      obtain ⟨xs, h1, rfl⟩ := en
      have qc := rel.cel i
      rw [e] at qc
      obtain ⟨a, ev, hA, ho, nd, ha, hl, hr⟩ := celOk_own2.mp qc
      obtain ⟨b, hb, hvb⟩ := hr _ _ h1
      have hk : k.toNat < c.y.b.length := (List.getElem?_eq_some_iff.mp hb).1
      refine ⟨_, ev, a, _, k, .ref b, rfl, rfl, SqL.of ha, ?_, b, _, rfl, .inl (SqL.of hvb), ?_⟩
      · unfold atI
        rw [List.length_map]
        have : L2.ixN c.y.b.length k = some k.toNat := by
          rw [← ixN_eq]
          unfold PD.ixN
          rw [if_pos h0, if_pos (by omega)]
        rw [this]
        show (c.y.b.map V.ref)[k.toNat]? = _
        rw [List.getElem?_map, hb]; rfl
      · rw [List.length_map]
        exact q3 _ ⟨hx, dat_int.mpr rfl⟩
    · cases en)
end
end PD

set_option Elab.async false
set_option linter.all false
set_option maxRecDepth 100000
set_option maxHeartbeats 4000000
/-! PyS10: expressions of the program into the language, and that it is right. -/
namespace PD
open PySem PySem.Spec PyProof.Rows L2

def vis (sc : Scope) (x : Str) : Bool :=
  match sc.names.lookup x with
  | some .local => true
  | some .cell => true
  | some .free => true
  | _ => false
def okNm (x : Str) : Bool := !(x == ("__debug__" : Str)) && !(x == ("__classdict__" : Str))
def ixOf (N : List Str) (x : Str) : Option Nat := N.findIdx? fun y => decide (y = x)
def slotOf (N : List Str) (sc : Scope) (x : Str) : Option Nat := if vis sc x && okNm x then ixOf N x else none
def isGl (sc : Scope) (x : Str) : Bool :=
  match sc.names.lookup x with
  | some .globalImplicit => true
  | _ => false
def mapO {α β : Type} (f : α → Option β) : List α → Option (List β)
  | [] => some []
  | a :: as => (f a).bind fun b => (mapO f as).map (b :: ·)
def cArgs (r : Expr → Option E) (es : List Expr) : Option (List E) := mapO (fun e => if okE e then r e else none) es
def isB (nm : Nm) (sc : Scope) (f : Str) : Bool := isGl sc f && decide (f ∈ nm.bl)
def isTp : Expr → Bool
  | .Tuple _ _ _ => true
  | _ => false
def cSeq (r : Expr → Option E) (iter : Expr) : Option (Sk × List E) := (r iter).map fun m => (.seq, [m])
def cSrc (nm : Nm) (sc : Scope) (r : Expr → Option E) (tg : Expr) (iter : Expr) : Option (Sk × List E) :=
  match iter with
  | .Call (.Name f _) args [] _ =>
    if isB nm sc f then
      if f = "range" then (match args with
        | [_] => (cArgs r args).map fun ms => (.rng, ms)
        | [_, _] => (cArgs r args).map fun ms => (.rng, ms)
        | _ => none)
      else if f = "zip" then (match args with
        | [_, _] => if isTp tg then (cArgs r args).map fun ms => (.zip, ms) else none
        | _ => none)
      else if f = "enumerate" then (match args with
        | [_] => if isTp tg then (cArgs r args).map fun ms => (.enum, ms) else none
        | _ => none)
      else if f = "reversed" then (match args with
        | [a] => if okE a then (r a).map fun m => (.rev, [m]) else none
        | _ => none)
      else cSeq r iter
    else cSeq r iter
  | _ => cSeq r iter
def tgB1 (N : List Str) (scope : Scope) (x : Str) : Option Nat :=
  match scope.names.lookup x with
  | some .local => ixOf N x
  | some .cell => ixOf N x
  | _ => none
def nmX (f : Str → Option Nat) : Expr → Option Nat
  | .Name x _ => f x
  | _ => none
def cTg (f : Str → Option Nat) : Expr → Option Tg
  | .Name x _ => (f x).map .nm
  | .Tuple es _ _ => (mapO (nmX f) es).map .tp
  | _ => none
def ownOf (N : List Str) (scope : Scope) : List (Str × Nat) := N.zipIdx.filter fun p =>
  match scope.names.lookup p.1 with
  | some .local => true
  | some .cell => true
  | _ => false
def allB : List B := [.len, .abs, .max, .min, .int, .sum, .tuple, .list, .sorted, .all, .any, .repr, .bool]
def bltOf (f : Str) : Option B := allB.find? fun b => decide (bname b = f)
def tyN (f : Str) : Option Ty := [Ty.bool, .int, .list, .tuple, .str].find? fun t => decide (Str.ofString (tyS t) = f)
def cCall (nm : Nm) (sc : Scope) (r : Expr → Option E) (f : Str) (args : List Expr) : Option E :=
  if isGl sc f && okNm f then
    if f ∈ nm.bl then
      if f = "isinstance" then (match args with
        | [a, .Name t _] => (tyN t).bind fun ty => if okE a && isB nm sc t then (r a).map fun m => .isi m ty else none
        | _ => none)
      else (bltOf f).bind fun b => (match args with
        | [] => none
        | _ :: _ => (cArgs r args).map (.blt b))
    else (nm.fns.find? fun e => decide (e.1 = f) && decide (e.2.1 = args.length)).bind fun e => (cArgs r args).map (.call e.2.2)
  else none
def cLr (nm : Nm) (sc : Scope) (r : Expr → Option E) (f : Str) (args : List Expr) : Option E :=
  match args with
  | [.Call (.Name g _) as [] _] => if f = "list" && isB nm sc f && g = "range" && isB nm sc g then (match as with
    | [_] => (cArgs r as).map .lrng
    | [_, _] => (cArgs r as).map .lrng
    | _ => none) else none
  | _ => none
def cCall2 (nm : Nm) (sc : Scope) (r : Expr → Option E) (f : Str) (args : List Expr) : Option E :=
  match cLr nm sc r f args with
  | some m => some m
  | none => cCall nm sc r f args
def cOpt (r : Expr → Option E) : Option Expr → Option (Option E)
  | none => some none
  | some e => (r e).map some
def cIfs (r : Expr → Option E) : List Expr → Option (Option E)
  | [] => some none
  | [e] => (r e).map some
  | _ => none
def cComp (nm : Nm) (N : List Str) (r : Scope → Expr → Option E) (sc : Scope) (elt tg iter : Expr) (ifs : List Expr) (scope : Scope) : Option E :=
  if blkC N sc scope (ownOf N scope) && okE iter then
    (cTg (tgB1 N scope) tg).bind fun t => if (tgIs t).all (fun j => decide (j ∈ (ownOf N scope).map (·.2))) then
      (cSrc nm sc (r sc) tg iter).bind fun s => (cIfs (r (relS scope sc)) ifs).bind fun c => (r (relS scope sc) elt).map fun m => .comp ((ownOf N scope).map (·.2)) t s.1 s.2 c m
    else none
  else none
/-- len(x), len(x[k]) of an own list of own rows -/
def cLen (nm : Nm) (o2 : List Str) (N : List Str) (sc : Scope) (f : Str) (args : List Expr) : Option E :=
  if f = "len" && isB nm sc f then (match args with
    | [.Name x _] => if x ∈ o2 then (slotOf N sc x).map fun i => .len2 i none else none
    | [.Subscript (.Name x _) (.Constant (.int k) _ _) _] => if x ∈ o2 then (if 0 ≤ k then (slotOf N sc x).map fun i => .len2 i (some k.toNat) else none) else none
    | _ => none) else none
def stepE (nm : Nm) (o2 : List Str) (N : List Str) (r : Scope → Expr → Option E) (sc : Scope) (e : Expr) : Option E :=
  match e with
  | .Name x _ => if isGl sc x && okNm x then (nm.cn.find? fun e => decide (e.1 = x)).map fun e => .k e.2 else (slotOf N sc x).map .var
  | .Constant .none _ _ => some (.k .non)
  | .Constant (.bool b) _ _ => some (.k (.bl b))
  | .Constant (.int i) _ _ => some (.k (.int i))
  | .Constant (.str x) _ _ => some (.k (.str x))
  | .BinOp a op b _ => (r sc a).bind fun x => (r sc b).map fun y => .bin op x y
  | .UnaryOp .Not a _ => (r sc a).map .not
  | .UnaryOp .USub a _ => (r sc a).map .neg
  | .BoolOp _ [a] _ => r sc a
  | .BoolOp .And (a :: b :: rest) pos => (r sc a).bind fun x => (r sc (.BoolOp .And (b :: rest) pos)).map fun y => .and x y
  | .BoolOp .Or (a :: b :: rest) pos => (r sc a).bind fun x => (r sc (.BoolOp .Or (b :: rest) pos)).map fun y => .or x y
  | .Compare a [op] [b] _ => if behindInMarks op b then none else (r sc a).bind fun x => (r sc b).map fun y => .cmp op x y
  | .Compare a [op, op'] [b, d] _ => if lastMarks [op, op'] [b, d] then none else (r sc a).bind fun x => (r sc b).bind fun y => (r sc d).map fun z => .chain op op' x y z
  | .IfExp c a b _ => (r sc c).bind fun x => (r sc a).bind fun y => (r sc b).map fun z => .ife x y z
  | .Tuple es _ _ => (cArgs (r sc) es).map .tup
  | .List es _ => (cArgs (r sc) es).map .lst
  | .Subscript a (.Slice lo hi none _) _ => (r sc a).bind fun x => (cOpt (r sc) lo).bind fun l => (cOpt (r sc) hi).map fun h => .sl x l h
  | .Subscript a (.Slice none none (some (.UnaryOp .USub (.Constant (.int i) _ _) _)) _) _ => if i = 1 then (r sc a).map .rvs else none
  | .Subscript a i _ => if okE i then (r sc a).bind fun x => (r sc i).map fun y => .ix x y else none
  | .Call (.Name f _) args [] _ => (match cLen nm o2 N sc f args with
    | some m => some m
    | none => cCall2 nm sc (r sc) f args)
  | .Dict [] [] _ => some (.mt [])
  | .Dict [some (.Constant (.int i) _ _)] [.Constant (.int j) _ _] _ => some (.mt [(i, j)])
  | .ListComp elt [⟨tg, iter, ifs, n⟩] scope _ => if n = 0 then cComp nm N r sc elt tg iter ifs scope else none
  | _ => none
def compE (nm : Nm) (o2 : List Str) (N : List Str) : Nat → Scope → Expr → Option E
  | 0 => fun _ _ => none
  | n + 1 => stepE nm o2 N (compE nm o2 N n)

/-! ### it is right -/
theorem mapO_nil {α β : Type} {f : α → Option β} {bs : List β} (h : mapO f [] = some bs) : bs = [] := (Option.some.inj h).symm
theorem mapO_cons {α β : Type} {f : α → Option β} {a : α} {as : List α} {bs : List β} (h : mapO f (a :: as) = some bs) : ∃ b bs', f a = some b ∧ mapO f as = some bs' ∧ bs = b :: bs' := by
  unfold mapO at h
  rw [Option.bind_eq_some_iff] at h
  obtain ⟨b, h1, h2⟩ := h
  rw [Option.map_eq_some_iff] at h2
  obtain ⟨bs', h2, h3⟩ := h2
  exact ⟨b, bs', h1, h2, h3.symm⟩
theorem ixOf_at {N : List Str} {x : Str} {i : Nat} (h : ixOf N x = some i) : N[i]? = some x := by
  unfold ixOf at h
  obtain ⟨hi, hp, _⟩ := List.findIdx?_eq_some_iff_getElem.mp h
  rw [List.getElem?_eq_getElem hi, of_decide_eq_true hp]
theorem vis_of {sc : Scope} {x : Str} (h : vis sc x = true) : Vis sc x := by
  unfold vis at h
  split at h
  · exact .inl (by assumption)
  · exact .inr (.inl (by assumption))
  · exact .inr (.inr (by assumption))
  · cases h
theorem okNm_of {x : Str} (h : okNm x = true) : (x == ("__debug__" : Str)) = false ∧ (x == ("__classdict__" : Str)) = false := by
  unfold okNm at h
  rw [Bool.and_eq_true] at h
  exact ⟨by cases q : (x == ("__debug__" : Str)) <;> simp_all, by cases q : (x == ("__classdict__" : Str)) <;> simp_all⟩
theorem isGl_of {sc : Scope} {x : Str} (h : isGl sc x = true) : sc.names.lookup x = some .globalImplicit := by
  unfold isGl at h
  split at h
  · assumption
  · cases h
section
variable {X : Cx} {T : Tb} {N : List Str} {sc : Scope} {W : WX}
theorem GE.gl (g : GE X T N sc W) {x : Str} (h : isGl sc x = true) : Gl X x := by
  show X.env.scope.names.lookup x = _
  rw [g.sco]
  exact isGl_of h
theorem isB_of (g : GE X T N sc W) {x : Str} (h : isB T.nm sc x = true) : Gl X x ∧ X.mg x = none := by
  unfold isB at h
  rw [Bool.and_eq_true] at h
  exact ⟨g.gl h.1, g.glb.bl _ (of_decide_eq_true h.2)⟩
theorem sndL_of {r : Expr → Option E} (hr : ∀ e m, r e = some m → Snd X T W e m) : ∀ {es : List Expr} {ms : List E}, cArgs r es = some ms → SndL X T W es ms
  | [], ms, h => by
    have e := mapO_nil h
    subst e; trivial
  | e :: es, ms, h => by
    obtain ⟨m, ms', h1, h2, rfl⟩ := mapO_cons h
    split at h1
    · exact ⟨by assumption, hr _ _ h1, sndL_of hr h2⟩
    · cases h1
theorem cSeq_ok {r : Expr → Option E} (hr : ∀ e m, r e = some m → Snd X T W e m) {tg iter : Expr} {k : Sk} {ms : List E} (h : cSeq r iter = some (k, ms)) : SrcOk X T W tg iter k ms := by
  unfold cSeq at h
  rw [Option.map_eq_some_iff] at h
  obtain ⟨m, h1, h2⟩ := h
  cases h2
  exact .seq (hr _ _ h1)
theorem cSrc_ok (g : GE X T N sc W) {r : Expr → Option E} (hr : ∀ e m, r e = some m → Snd X T W e m) {tg iter : Expr} {k : Sk} {ms : List E} (h : cSrc T.nm sc r tg iter = some (k, ms)) : SrcOk X T W tg iter k ms := by
  unfold cSrc at h
  split at h
  · rename_i f p args pos
    split at h
    · rename_i hb
      obtain ⟨gl, hm⟩ := isB_of g hb
      split at h
      · rename_i e
        subst e
        split at h
        · rw [Option.map_eq_some_iff] at h
          obtain ⟨m, h1, h2⟩ := h
          cases h2
          exact .rng1 gl hm (sndL_of hr h1)
        · rw [Option.map_eq_some_iff] at h
          obtain ⟨m, h1, h2⟩ := h
          cases h2
          exact .rng2 gl hm (sndL_of hr h1)
        · cases h
      · split at h
        · rename_i e
          subst e
          split at h
          · split at h
            · rename_i ht
              rw [Option.map_eq_some_iff] at h
              obtain ⟨m, h1, h2⟩ := h
              cases h2
              cases tg with
              | Tuple es k tp => exact .zip rfl gl hm (sndL_of hr h1)
              | _ => cases ht
            · cases h
          · cases h
        · split at h
          · rename_i e
            subst e
            split at h
            · split at h
              · rename_i ht
                rw [Option.map_eq_some_iff] at h
                obtain ⟨m, h1, h2⟩ := h
                cases h2
                cases tg with
                | Tuple es k tp => exact .enum rfl gl hm (sndL_of hr h1)
                | _ => cases ht
              · cases h
            · cases h
          · split at h
            · rename_i e
              subst e
              split at h
              · split at h
                · rename_i ho
                  rw [Option.map_eq_some_iff] at h
                  obtain ⟨m, h1, h2⟩ := h
                  cases h2
                  exact .rev gl hm ho (hr _ _ h1)
                · cases h
              · cases h
            · exact cSeq_ok hr h
    · exact cSeq_ok hr h
  · exact cSeq_ok hr h
theorem cCall_ok (g : GE X T N sc W) {r : Expr → Option E} (hr : ∀ e m, r e = some m → Snd X T W e m) {f : Str} {args : List Expr} {m : E} {p pos : Pos} (h : cCall T.nm sc r f args = some m) : Snd X T W (.Call (.Name f p) args [] pos) m := by
  unfold cCall at h
  split at h
  · rename_i hg
    rw [Bool.and_eq_true] at hg
    have gl := isGl_of hg.1
    have hd := (okNm_of hg.2).1
    split at h
    · rename_i hb
      split at h
      · rename_i e
        subst e
        split at h
        · rename_i a t tp
          rw [Option.bind_eq_some_iff] at h
          obtain ⟨ty, h1, h2⟩ := h
          split at h2
          · rename_i ho
            rw [Bool.and_eq_true] at ho
            have ht : Str.ofString (tyS ty) = t := by
              unfold tyN at h1
              have h1' := List.find?_some (p := fun t' => decide (Str.ofString (tyS t') = t)) h1
              exact of_decide_eq_true h1'
            subst ht
            have hob := ho.2
            unfold isB at hob
            rw [Bool.and_eq_true] at hob
            rw [Option.map_eq_some_iff] at h2
            obtain ⟨m', h3, h4⟩ := h2
            cases h4
            exact snd_isi g ty gl hb (isGl_of hob.1) (of_decide_eq_true hob.2) ho.1 (hr _ _ h3)
          · cases h2
        · cases h
      · rw [Option.bind_eq_some_iff] at h
        obtain ⟨b, h1, h2⟩ := h
        have hn : bname b = f := by
          unfold bltOf at h1
          have h1' := List.find?_some (p := fun b => decide (bname b = f)) h1
          exact of_decide_eq_true h1'
        subst hn
        split at h2
        · cases h2
        · rw [Option.map_eq_some_iff] at h2
          obtain ⟨ms, h3, h4⟩ := h2
          cases h4
          exact snd_blt g b gl hb (sndL_of hr h3)
    · rw [Option.bind_eq_some_iff] at h
      obtain ⟨e, h1, h2⟩ := h
      have hm := List.mem_of_find?_eq_some h1
      have hp := List.find?_some h1
      simp only [Bool.and_eq_true, decide_eq_true_eq] at hp
      obtain ⟨x, ar, id⟩ := e
      obtain ⟨e1, e2⟩ := hp
      dsimp only at e1 e2
      subst e1; subst e2
      rw [Option.map_eq_some_iff] at h2
      obtain ⟨ms, h3, h4⟩ := h2
      cases h4
      exact snd_call g hm gl hd (sndL_of hr h3)
  · cases h
theorem cCall2_ok (g : GE X T N sc W) {r : Expr → Option E} (hr : ∀ e m, r e = some m → Snd X T W e m) {f : Str} {args : List Expr} {m : E} {p pos : Pos} (h : cCall2 T.nm sc r f args = some m) : Snd X T W (.Call (.Name f p) args [] pos) m := by
  unfold cCall2 at h
  split at h
  · rename_i m' hm
    cases h
    unfold cLr at hm
    split at hm
    · rename_i g' p2 as p3
      split at hm
      · rename_i q
        simp only [Bool.and_eq_true, decide_eq_true_eq] at q
        obtain ⟨⟨⟨rfl, q1⟩, rfl⟩, q2⟩ := q
        obtain ⟨l1, l2⟩ := isB_of g q1
        obtain ⟨r1, r2⟩ := isB_of g q2
        split at hm
        · rw [Option.map_eq_some_iff] at hm
          obtain ⟨ms, h1, rfl⟩ := hm
          have sl := sndL_of hr h1
          obtain ⟨m1, ms1, rfl, _, _, t⟩ := sl.cons_out
          have := t.nil_out
          subst this
          exact snd_lrng1 g l1 l2 r1 r2 sl
        · rw [Option.map_eq_some_iff] at hm
          obtain ⟨ms, h1, rfl⟩ := hm
          have sl := sndL_of hr h1
          obtain ⟨m1, ms1, rfl, _, _, t⟩ := sl.cons_out
          obtain ⟨m2, ms2, rfl, _, _, t2⟩ := t.cons_out
          have := t2.nil_out
          subst this
          exact snd_lrng2 g l1 l2 r1 r2 sl
        · cases hm
      · cases hm
    · cases hm
  · exact cCall_ok g hr h
theorem cLen_ok (g : GE X T N sc W) {o2 : List Str} {f : Str} {args : List Expr} {m : E} {p pos : Pos} (h : cLen T.nm o2 N sc f args = some m) : Snd X T W (.Call (.Name f p) args [] pos) m := by
  have sl : ∀ {x : Str} {i : Nat}, slotOf N sc x = some i → X.N[i]? = some x ∧ Vis X.env.scope x ∧ (x == ("__debug__" : Str)) = false ∧ (x == ("__classdict__" : Str)) = false := fun {x i} h => by
    unfold slotOf at h
    split at h
    · rename_i q
      rw [Bool.and_eq_true] at q
      obtain ⟨d1, d2⟩ := okNm_of q.2
      exact ⟨by rw [g.nN]; exact ixOf_at h, by rw [g.sco]; exact vis_of q.1, d1, d2⟩
    · cases h
  unfold cLen at h
  split at h
  · rename_i q
    simp only [Bool.and_eq_true, decide_eq_true_eq] at q
    obtain ⟨rfl, q1⟩ := q
    obtain ⟨gl, hm⟩ := isB_of g q1
    split at h
    · split at h
      · rw [Option.map_eq_some_iff] at h
        obtain ⟨i, h1, rfl⟩ := h
        obtain ⟨a1, a2, a3, a4⟩ := sl h1
        exact snd_len2 g gl hm a1 a2 a3 a4
      · cases h
    · split at h
      · split at h
        · rename_i h0
          rw [Option.map_eq_some_iff] at h
          obtain ⟨i, h1, rfl⟩ := h
          obtain ⟨a1, a2, a3, a4⟩ := sl h1
          exact snd_len2k g h0 gl hm a1 a2 a3 a4
        · cases h
      · cases h
    · cases h
  · cases h
theorem sndO_of {r : Expr → Option E} (hr : ∀ e m, r e = some m → Snd X T W e m) {o : Option Expr} {m : Option E} (h : cOpt r o = some m) : SndO X T W o m := by
  cases o with
  | none => cases h; trivial
  | some e =>
    unfold cOpt at h
    rw [Option.map_eq_some_iff] at h
    obtain ⟨m', h1, h2⟩ := h
    cases h2
    exact hr _ _ h1
theorem sndOb_of {r : Expr → Option E} (hr : ∀ e m, r e = some m → Snd X T W e m) {o : List Expr} {m : Option E} (h : cIfs r o = some m) : SndOb X T W o m := by
  unfold cIfs at h
  split at h
  · cases h; trivial
  · rw [Option.map_eq_some_iff] at h
    obtain ⟨m', h1, h2⟩ := h
    cases h2
    exact hr _ _ h1
  · cases h
theorem lookup_keep {scope sc : Scope} {x : Str} {k : NameKind} (hk : k ≠ .free) (h : scope.names.lookup x = some k) : (relS scope sc).names.lookup x = some k := lookup_relS_keep hk h
theorem nmB_ok (g : GE X T N sc W) {scope : Scope} {x : Str} {i : Nat} (h : tgB1 N scope x = some i) (s : Shared) (H : Hp) (C : Addr) (cl : List (Str × Addr)) (fp : List Addr) : NmOk (X.blk s H scope (compEnvC scope cl C X.env) fp) x i := by
  have esc : (X.blk s H scope (compEnvC scope cl C X.env) fp).env.scope = relS scope sc := by rw [← g.sco]; rfl
  unfold tgB1 at h
  split at h
  · rename_i q
    have e := ixOf_at h
    have l := lookup_keep (sc := sc) (by decide) q
    refine ⟨by show X.N[i]? = _; rw [g.nN]; exact e, ?_, .inr ?_⟩
    · left; rw [esc]; exact l
    · rw [esc]; exact l
  · rename_i q
    have e := ixOf_at h
    have l := lookup_keep (sc := sc) (by decide) q
    refine ⟨by show X.N[i]? = _; rw [g.nN]; exact e, ?_, .inl ?_⟩
    · right; rw [esc]; exact l
    · show (scope.names.lookup x == some .cell) = true
      rw [q]; rfl
  · cases h
theorem nmsOk_of {f : Str → Option Nat} (hf : ∀ x i, f x = some i → NmOk X x i) : ∀ {es : List Expr} {is : List Nat}, mapO (nmX f) es = some is → NmsOk X es is
  | [], is, h => by
    have e := mapO_nil h
    subst e; exact .nil
  | e :: es, is, h => by
    obtain ⟨i, is', h1, h2, rfl⟩ := mapO_cons h
    cases e with
    | Name x p => exact .cons (hf _ _ h1) (nmsOk_of hf h2)
    | _ => cases h1
theorem tgOk_of {f : Str → Option Nat} (hf : ∀ x i, f x = some i → NmOk X x i) {e : Expr} {t : Tg} (h : cTg f e = some t) : TgOk X e t := by
  unfold cTg at h
  split at h
  · rw [Option.map_eq_some_iff] at h
    obtain ⟨i, h1, h2⟩ := h
    cases h2
    exact .nm (hf _ _ h1)
  · rw [Option.map_eq_some_iff] at h
    obtain ⟨i, h1, h2⟩ := h
    cases h2
    exact .tp (nmsOk_of hf h1)
  · cases h
/-- what is proved of a compiler of expressions -/
def RtE (T : Tb) (N : List Str) (r : Scope → Expr → Option E) : Prop := ∀ sc e m, r sc e = some m → okE e = true ∧ ∀ X W, GE X T N sc W → Snd X T W e m
/-- a comprehension, its parts -/
structure CompOk (X : Cx) (T : Tb) (W : WX) (elt tg iter : Expr) (ifs : List Expr) (scope : Scope) (own : List (Str × Nat)) (t : Tg) (k : Sk) (ms : List E) (mc : Option E) (me : E) : Prop where
  src : SrcOk X T W tg iter k ms
  fo : okE iter = true
  blk : BlkOk X.N X.env.scope scope own
  tg : ∀ s H C cl fp, TgOk (X.blk s H scope (compEnvC scope cl C X.env) fp) tg t
  ts : ∀ j, j ∈ tgIs t → j ∈ own.map (·.2)
  ifs : ∀ s H C cl fp, SndOb (X.blk s H scope (compEnvC scope cl C X.env) fp) T (fun _ _ _ _ => False) ifs mc
  elt : ∀ s H C cl fp, Snd (X.blk s H scope (compEnvC scope cl C X.env) fp) T (fun _ _ _ _ => False) elt me
theorem cComp_ok {r : Scope → Expr → Option E} (hr : RtE T N r) (g : GE X T N sc W) {elt tg iter : Expr} {ifs : List Expr} {scope : Scope} {m : E} (h : cComp T.nm N r sc elt tg iter ifs scope = some m) :
    ∃ own t k ms mc me, m = .comp (own.map (·.2)) t k ms mc me ∧ CompOk X T W elt tg iter ifs scope own t k ms mc me := by
  unfold cComp at h
  split at h
  · rename_i hb
    rw [Bool.and_eq_true] at hb
    rw [Option.bind_eq_some_iff] at h
    obtain ⟨t, h1, h2⟩ := h
    split at h2
    · rename_i hts
      rw [Option.bind_eq_some_iff] at h2
      obtain ⟨⟨k, ms⟩, h3, h4⟩ := h2
      rw [Option.bind_eq_some_iff] at h4
      obtain ⟨mc, h5, h6⟩ := h4
      rw [Option.map_eq_some_iff] at h6
      obtain ⟨me, h7, h8⟩ := h6
      subst h8
      refine ⟨_, t, k, ms, mc, me, rfl, cSrc_ok g (fun e m q => (hr _ _ _ q).2 X W g) h3, hb.2, by rw [g.nN, g.sco]; exact blkOk_by hb.1, fun s H C cl fp => tgOk_of (fun x i q => nmB_ok g q s H C cl fp) h1, fun j hj => ?_,
        fun s H C cl fp => sndOb_of (fun e m q => (hr _ _ _ q).2 _ _ (g.blk s H C cl fp)) h5, fun s H C cl fp => (hr _ _ _ h7).2 _ _ (g.blk s H C cl fp)⟩
      exact of_decide_eq_true (List.all_eq_true.mp hts j hj)
    · cases h2
  · cases h
theorem CompOk.nd (g : GE X T N sc W) : X.N.Nodup := by rw [g.nN]; exact g.nd
theorem CompOk.ee (g : GE X T N sc W) {elt tg iter : Expr} {ifs : List Expr} {scope : Scope} {own : List (Str × Nat)} {t : Tg} {k : Sk} {ms : List E} {mc : Option E} {me : E} {pos : Pos} (h : CompOk X T W elt tg iter ifs scope own t k ms mc me) :
    PE X (.ListComp elt [⟨tg, iter, ifs, 0⟩] scope pos) (rdE X.K T W (.comp (own.map (·.2)) t k ms mc me)) :=
  (pe_lc g.calm (CompOk.nd g) h.src.p h.blk (fun s H C cl fp => TgOk.pg (X := X.blk s H scope (compEnvC scope cl C X.env) fp) (by show X.N.Nodup; exact CompOk.nd g) g.calm (h.tg s H C cl fp)) (fun s H C cl fp => (h.ifs s H C cl fp).pts) (fun s H C cl fp => (h.elt s H C cl fp).ee) (ok_folded h.fo _)).mono
    (e_comp g (pos := pos) h.src h.fo h.blk h.tg h.ts h.ifs h.elt)
end
theorem stepE_ok {T : Tb} {o2 N : List Str} {r : Scope → Expr → Option E} (hr : RtE T N r) : RtE T N (stepE T.nm o2 N r) := by
  intro sc e m h
  unfold stepE at h
  split at h
  · refine ⟨rfl, fun X W g => ?_⟩
    split at h
    · rename_i q
      rw [Bool.and_eq_true] at q
      rw [Option.map_eq_some_iff] at h
      obtain ⟨e, h1, h2⟩ := h
      have hm := List.mem_of_find?_eq_some h1
      have hp := List.find?_some h1
      obtain ⟨y, d⟩ := e
      have hp' : y = _ := of_decide_eq_true hp
      subst hp'
      cases h2
      exact snd_cst g (g.gl q.1) hm (okNm_of q.2).1
    rw [Option.map_eq_some_iff] at h
    obtain ⟨i, h1, h2⟩ := h
    cases h2
    unfold slotOf at h1
    split at h1
    · rename_i q
      rw [Bool.and_eq_true] at q
      obtain ⟨d1, d2⟩ := okNm_of q.2
      exact snd_var g (ixOf_at h1) (vis_of q.1) d1 d2
    · cases h1
  · cases h; exact ⟨rfl, fun X W g => snd_k pe_non fun _ _ _ => dat_non.mpr rfl⟩
  · cases h; exact ⟨rfl, fun X W g => snd_k pe_bl fun _ _ _ => dat_bl.mpr rfl⟩
  · cases h; exact ⟨rfl, fun X W g => snd_k pe_int fun _ _ _ => dat_int.mpr rfl⟩
  · cases h; exact ⟨rfl, fun X W g => snd_k pe_str fun _ _ _ => dat_str.mpr rfl⟩
  · simp only [Option.bind_eq_some_iff, Option.map_eq_some_iff] at h
    obtain ⟨x, h1, y, h2, rfl⟩ := h
    exact ⟨rfl, fun X W g => snd_bin ((hr _ _ _ h1).2 X W g) ((hr _ _ _ h2).2 X W g)⟩
  · simp only [Option.map_eq_some_iff] at h
    obtain ⟨x, h1, rfl⟩ := h
    exact ⟨rfl, fun X W g => snd_not ((hr _ _ _ h1).2 X W g)⟩
  · simp only [Option.map_eq_some_iff] at h
    obtain ⟨x, h1, rfl⟩ := h
    exact ⟨rfl, fun X W g => snd_neg ((hr _ _ _ h1).2 X W g)⟩
  · exact ⟨rfl, fun X W g => snd_one ((hr _ _ _ h).2 X W g)⟩
  · simp only [Option.bind_eq_some_iff, Option.map_eq_some_iff] at h
    obtain ⟨x, h1, y, h2, rfl⟩ := h
    exact ⟨rfl, fun X W g => snd_and ((hr _ _ _ h1).2 X W g) ((hr _ _ _ h2).2 X W g)⟩
  · simp only [Option.bind_eq_some_iff, Option.map_eq_some_iff] at h
    obtain ⟨x, h1, y, h2, rfl⟩ := h
    exact ⟨rfl, fun X W g => snd_or ((hr _ _ _ h1).2 X W g) ((hr _ _ _ h2).2 X W g)⟩
  · split at h
    · cases h
    · rename_i hm
      simp only [Option.bind_eq_some_iff, Option.map_eq_some_iff] at h
      obtain ⟨x, h1, y, h2, rfl⟩ := h
      exact ⟨rfl, fun X W g => snd_cmp g (by simpa using hm) ((hr _ _ _ h1).2 X W g) ((hr _ _ _ h2).2 X W g)⟩
  · split at h
    · cases h
    · rename_i hm
      simp only [Option.bind_eq_some_iff, Option.map_eq_some_iff] at h
      obtain ⟨x, h1, y, h2, z, h3, rfl⟩ := h
      exact ⟨rfl, fun X W g => snd_chain g (by simpa using hm) ((hr _ _ _ h1).2 X W g) ((hr _ _ _ h2).2 X W g) ((hr _ _ _ h3).2 X W g)⟩
  · simp only [Option.bind_eq_some_iff, Option.map_eq_some_iff] at h
    obtain ⟨x, h1, y, h2, z, h3, rfl⟩ := h
    exact ⟨rfl, fun X W g => snd_ife ((hr _ _ _ h1).2 X W g) ((hr _ _ _ h2).2 X W g) ((hr _ _ _ h3).2 X W g)⟩
  · simp only [Option.map_eq_some_iff] at h
    obtain ⟨x, h1, rfl⟩ := h
    exact ⟨rfl, fun X W g => snd_tup (sndL_of (fun e m q => (hr _ _ _ q).2 X W g) h1)⟩
  · simp only [Option.map_eq_some_iff] at h
    obtain ⟨x, h1, rfl⟩ := h
    exact ⟨rfl, fun X W g => snd_lst (sndL_of (fun e m q => (hr _ _ _ q).2 X W g) h1)⟩
  · simp only [Option.bind_eq_some_iff, Option.map_eq_some_iff] at h
    obtain ⟨x, h1, y, h2, z, h3, rfl⟩ := h
    exact ⟨rfl, fun X W g => snd_sl ((hr _ _ _ h1).2 X W g) (sndO_of (fun e m q => (hr _ _ _ q).2 X W g) h2) (sndO_of (fun e m q => (hr _ _ _ q).2 X W g) h3)⟩
  · split at h
    · rename_i e1
      subst e1
      simp only [Option.map_eq_some_iff] at h
      obtain ⟨x, h1, rfl⟩ := h
      exact ⟨rfl, fun X W g => snd_rvs ((hr _ _ _ h1).2 X W g)⟩
    · cases h
  · split at h
    · rename_i ho
      simp only [Option.bind_eq_some_iff, Option.map_eq_some_iff] at h
      obtain ⟨x, h1, y, h2, rfl⟩ := h
      exact ⟨rfl, fun X W g => snd_ix ((hr _ _ _ h1).2 X W g) ((hr _ _ _ h2).2 X W g) ho⟩
    · cases h
  · split at h
    · rename_i hm
      cases h
      exact ⟨rfl, fun X W g => cLen_ok g hm⟩
    · exact ⟨rfl, fun X W g => cCall2_ok g (fun e m q => (hr _ _ _ q).2 X W g) h⟩
  · cases h; exact ⟨rfl, fun X W g => snd_mt⟩
  · cases h; exact ⟨rfl, fun X W g => snd_mt1⟩
  · split at h
    · rename_i e1
      subst e1
      refine ⟨rfl, fun X W g => ?_⟩
      obtain ⟨own, t, k, ms, mc, me, rfl, hc⟩ := cComp_ok hr g h
      exact .plain rfl (fun _ _ _ z => by cases z) (fun _ => rfl) (hc.ee g)
    · cases h
  · cases h
theorem compE_ok (T : Tb) (o2 N : List Str) : ∀ n, RtE T N (compE T.nm o2 N n)
  | 0 => fun _ _ _ h => by cases h
  | n + 1 => stepE_ok (compE_ok T o2 N n)
end PD

set_option Elab.async false
set_option linter.all false
set_option maxRecDepth 100000
set_option maxHeartbeats 4000000
/-! PyS11: statements: readings by the evaluator, and the rules for them. -/
namespace PD
open PySem PySem.Spec PyProof.Rows L2

/-- a context in which statements run -/
structure GS (X : Cx) (T : Tb) (N : List Str) (sc : Scope) (W : WX) : Prop extends GE X T N sc W where
  pass : PassesOwn (model X.prog X.w) X.A X.env X.xe
  fn : ∀ x, X.fn x = true
  stk : X.stack = X.env :: X.outer
  frm : X.env.frame = some X.env.locals

/-! ### what is wanted behind a statement -/
def KOf (K : Fr) (D : Ends) (f : Fl) (σ : L2.St) (H : Hp) (c : Cf) : Prop :=
  match f with
  | .nx => c.x = none → D.nx σ H
  | .bk => c.x = none → D.bk σ H
  | .ct => c.x = none → D.ct σ H
  | .rt r => ∀ v, ValOk K c H r v → D.rt v H
def RunS (K : Fr) (xa : XA) (W : WX) (c : Cf) (H : Hp) (r : Res Fl) (k : Fl → Stt → L2.St → Hp → Cf → Prop) : Prop :=
  match r with
  | .ok f s' => ∀ σ' H' c', SS c H c' H' → Rel K c' s' σ' H' → k f s' σ' H' c'
  | .ex e s' => ∀ cls d σ' H' c', SS c H c' H' → Rel K c' s' σ' H' → c'.x = none → xa e cls d (hid c'.P H') c'.ha → W cls d σ' H'
  | .bad => False
section
variable {K : Fr} {xa : XA} {W : WX} {c c1 : Cf} {σ : L2.St} {H H1 : Hp} {α : Type} {D : Ends}
abbrev KD (K : Fr) (D : Ends) : Fl → Stt → L2.St → Hp → Cf → Prop := fun f _ σ H c => KOf K D f σ H c
theorem RunS.weak {r : Res Fl} {k : Fl → Stt → L2.St → Hp → Cf → Prop} (x : SS c H c1 H1) (h : RunS K xa W c H r k) : RunS K xa W c1 H1 r k := by
  cases r with
  | ok a s => exact fun σ' H' c' y q => h σ' H' c' (x.trans y) q
  | ex e s => exact fun cls d σ' H' c' y q => h cls d σ' H' c' (x.trans y) q
  | bad => exact h
/-- an expression ahead -/
theorem RunS.bind {r : Res α} {f : α → Stt → Res Fl} {k : Fl → Stt → L2.St → Hp → Cf → Prop} (h : RunS K xa W c H (r.bind f) k) :
    Run K xa W c σ H r fun a s1 H1 c1 => RunS K xa W c1 H1 (f a s1) k := by
  cases r with
  | ok a s => exact fun H' c' x _ => RunS.weak x.ss h
  | ex e s => exact fun cls d H' c' x q hx hz => h cls d σ H' c' x.ss q hx hz
  | bad => exact h
theorem RunS.of {o : Option α} {s : Stt} {f : α → Stt → Res Fl} {k : Fl → Stt → L2.St → Hp → Cf → Prop} (h : RunS K xa W c H ((Res.of o s).bind f) k) : ∃ a, o = some a ∧ RunS K xa W c H (f a s) k := by
  cases o with
  | none => exact h.elim
  | some a => exact ⟨a, rfl, h⟩
end
section
variable (K : Fr) (T : Tb) (w : Nat) (W : WX)
def rdS (m : S) : TS := fun D σ H => ∃ c s, Rel K c s σ H ∧ c.x = none ∧ RunS K T.xa W c H (evS T.Φ w m s) (KD K D)
def rdB (ms : List S) : TS := fun D σ H => ∃ c s, Rel K c s σ H ∧ c.x = none ∧ RunS K T.xa W c H (evB T.Φ w ms s) (KD K D)
end
theorem _root_.L2.PS.mono {X : Cx} {e : Stmt} {t t' : TS} (h : PS X e t) (w : ∀ D σ H, t' D σ H → t D σ H) : PS X e t' := ⟨fun pins s σ H D I q => h.run pins s σ H D I (w D σ H q)⟩
theorem _root_.L2.PSs.mono {X : Cx} {e : List Stmt} {t t' : TS} (h : PSs X e t) (w : ∀ D σ H, t' D σ H → t D σ H) : PSs X e t' := ⟨fun pins s σ H D I q => h.run pins s σ H D I (w D σ H q)⟩

section
variable {K : Fr} {T : Tb} {w : Nat} {W : WX} {c : Cf} {s : Stt} {σ : L2.St} {H : Hp} {D : Ends}
theorem set_run {xa : XA} {t : Tg} {r : R} {v : V} {s2 : Stt} (rel : Rel K c s σ H) (hv : ValOk K c H r v) (e : setT t r s = some s2) (q : RunS K xa W c H (.ok .nx s2) (KD K D)) : gT K t v σ H D.nx := by
  cases r with
  | d x =>
    have e' : bindT t x s = some s2 := by cases t <;> exact e
    exact bind_run rel hv.2 e' fun σ2 c2 x2 hx2 r2 _ => q σ2 H c2 x2.ss r2 (hx2.trans hv.1)
  | f xs =>
    cases t with
    | tp is => cases e
    | nm i =>
      simp only [setT] at e
      split at e
      · rename_i hi
        cases e
        obtain ⟨p, vs, rfl, hx, hp, hd⟩ := hv
        obtain ⟨c', r', x', hx'⟩ := rel.storex (i := i) (by rw [← rel.len]; exact hi) hx hp hd
        exact q _ H c' x'.ss r' hx'
      · cases e
/-- an own list is handed out -/
theorem Rel.handx (r : Rel K c s σ H) (hx : c.x = none) {i : Nat} {xs : List PD.D} (e : s.ρ[i]? = some (.own xs)) :
    ∃ v c', σ[i]? = some (some v) ∧ Rel K c' (s.put i .no) σ H ∧ XS c H c' H ∧ ValOk K c' H (.f xs) v := by
  have q := r.cel i
  rw [e] at q
  obtain ⟨a, vs, ev, h1, h2, h3⟩ := celOk_own.mp q
  obtain ⟨n0, n1, n2⟩ := r.new a (.inl ⟨i, h1⟩)
  obtain ⟨r1, x1⟩ := r.forget1 i
  have nA : ∀ j, (c.rid i).A j ≠ some a := fun j z => by
    by_cases w : j = i
    · simp [Cf.rid, w] at z
    · simp [Cf.rid, w] at z
      exact w (r.inj j i a z h1)
  have pP : ∀ b, Cf.P { c.rid i with x := some a } b → c.P b := fun b z => by
    rcases z with z | z | ⟨j, z⟩ | z | z
    · exact .inl z
    · exact .inr (.inl z)
    · exact c.rid_P (i := i) (.inr (.inr (.inl ⟨j, z⟩)))
    · exact .inr (.inr (.inl ⟨i, by rw [h1]; exact z⟩))
    · exact .inr (.inr (.inr (.inr z)))
  have same : Same (hid c.P H) (hid (Cf.P { c.rid i with x := some a }) H) := same_hid fun b o n q => ⟨fun z => n (pP b z), q⟩
  refine ⟨_, { c.rid i with x := some a }, ev, ?_, ⟨rfl, rfl, rfl, rfl, rfl, same, fun _ _ _ z => z⟩, a, vs, rfl, rfl, h2, Dats.mono same _ _ h3⟩
  have get : ∀ j b, (c.rid i).A j = some b → j ≠ i ∧ c.A j = some b := fun j b z => by
    by_cases w : j = i
    · simp [Cf.rid, w] at z
    · simp [Cf.rid, w] at z
      exact ⟨w, z⟩
  refine ⟨by unfold Stt.put; rw [List.length_set]; exact r.len, fun j => ?_, r.hnd, fun z => r.hca (pP _ z), fun j k b z1 z2 => r.inj j k b (get j b z1).2 (get k b z2).2, fun j b z => ?_, fun b z => ?_, fun j b z1 z2 => ?_, r.keep, r.p0, r.cah, r.hah, fun p z => ?_, fun b z => ?_⟩
  · by_cases z : j = i
    · subst z
      rw [put_get (List.getElem?_eq_some_iff.mp e).1]
      exact celOk_no
    · rw [put_get_ne z]
      exact (r.cel j).go rfl same fun b us k1 k2 => ⟨by simp [Cf.rid, z, k1], k2⟩
  · obtain ⟨us, eu⟩ := r.own j b (get j b z).2
    exact ⟨us, by rw [put_get_ne (get j b z).1]; exact eu⟩
  · rcases z with ⟨j, z⟩ | z
    · exact r.new b (.inl ⟨j, (get j b z).2⟩)
    · have e2 : a = b := Option.some.inj z
      subst e2
      exact ⟨n0, n1, n2⟩
  · have e2 : a = b := Option.some.inj z2
    subst e2
    exact nA j z1
  · have e2 : a = p := Option.some.inj z
    subst e2
    exact ⟨vs, h2⟩
  · obtain ⟨y0, y1, y2, y3, y4, y5⟩ := r.yy b z
    exact ⟨y0, y1, y2, fun j q => y3 j (get j b q).2, fun q => by
      have e2 : a = b := Option.some.inj q
      subst e2
      exact y3 i h1, y5⟩
end
/-! ### the rules -/
/-- at the end of a statement -/
theorem nx_of {K : Fr} {xa : XA} {W : WX} {c : Cf} {s : Stt} {σ : L2.St} {H : Hp} {D : Ends} (rel : Rel K c s σ H) (hx : c.x = none) (q : RunS K xa W c H (.ok .nx s) (KD K D)) : D.nx σ H := q σ H c .refl rel hx
section
variable {X : Cx} {T : Tb} {N : List Str} {sc : Scope} {W : WX} {w : Nat} {e : Expr} {m : E} {pos pos' : Pos}
def isComp : Expr → Bool
  | .ListComp _ _ _ _ => true
  | .SetComp _ _ _ _ => true
  | .DictComp _ _ _ _ _ => true
  | _ => false
theorem sw_no (h : isComp e = false) (t : Option Expr) (l : Nat) (env : Env) : swapsWith e t l env = pure false := by
  cases e <;> first | rfl | cases h
theorem rd_set {t : Tg} {stm : Stmt} (ps : PS X stm (tAsg (rdE X.K T W m) (gT X.K t))) : PS X stm (rdS X.K T w W (.set t m)) := ps.mono fun D σ H ⟨c, s, rel, hx, q⟩ => by
  unfold evS at q
  refine ⟨c, s, rel, hx, (RunS.bind q).mono fun r s1 H1 c1 x1 r1 q1 v hv => ?_⟩
  obtain ⟨s2, e2, q2⟩ := q1.of
  exact set_run r1 hv e2 q2
theorem rs_set (g : GS X T N sc W) {t : Tg} {tg : Expr} (ht : TgOk X tg t) (he : Snd X T W e m) (hs : swapsWith e (some tg) pos.line X.env = pure false) (hw : swappedStores [tg] e X.env = pure none) (h1 : (assignEach [tg] X.env).map (·.2) = [assign tg X.env]) :
    PS X (.Assign [tg] e pos) (rdS X.K T w W (.set t m)) :=
  rd_set (ps_asg he.ee (ht.pg (by rw [g.nN]; exact g.nd) g.calm) hs hw h1)
theorem rs_exp (he : Snd X T W e m) (hc : isComp e = false) : PS X (.Expr e pos) (rdS X.K T w W (.exp m)) := (ps_expr he.ee (sw_no hc _ _ _)).mono fun D σ H ⟨c, s, rel, hx, q⟩ => by
  unfold evS at q
  refine ⟨c, s, rel, hx, (RunS.bind q).mono fun r s1 H1 c1 x1 r1 q1 v hv => ?_⟩
  obtain ⟨r2, x2⟩ := r1.nox
  exact nx_of r2 rfl (q1.weak x2.ss)
theorem rs_ret (he : Snd X T W e m) (hv : isVar m = false) : PS X (.Return (some e) pos) (rdS X.K T w W (.ret m)) := by
  refine (ps_ret he.ee).mono fun D σ H ⟨c, s, rel, hx, q⟩ => ?_
  have q : RunS X.K T.xa W c H ((evE T.Φ m s).bind fun r s1 => .ok (.rt r) s1) (KD X.K D) := by
    unfold evS at q
    cases m <;> first | exact q | cases hv
  exact ⟨c, s, rel, hx, (RunS.bind q).mono fun r s1 H1 c1 x1 r1 q1 v hv => q1 σ H1 c1 .refl r1 v hv⟩
theorem rs_retV {i : Nat} {x : Str} (hi : X.N[i]? = some x) (hv : Vis X.env.scope x) (hd : (x == ("__debug__" : Str)) = false) (hc : (x == ("__classdict__" : Str)) = false) : PS X (.Return (some (.Name x pos')) pos) (rdS X.K T w W (.ret (.var i))) :=
  (ps_ret (pe_var hi hv hd hc)).mono fun D σ H ⟨c, s, rel, hx, q⟩ => by
    unfold evS at q
    split at q
    · rename_i xs hy
      obtain ⟨v, c', ev, r', x', hv⟩ := rel.handx hx hy
      exact ⟨v, ev, q σ H c' x'.ss r' v hv⟩
    · rename_i y hy
      obtain ⟨v, ev, hd⟩ := rel.get hy
      exact ⟨v, ev, q σ H c .refl rel v ⟨hx, hd⟩⟩
    · exact q.elim
theorem rs_retN : PS X (.Return none pos) (rdS X.K T w W .retN) := ps_retN.mono fun D σ H ⟨c, s, rel, hx, q⟩ => by
  unfold evS at q
  exact q σ H c .refl rel .non ⟨hx, dat_non.mpr rfl⟩
theorem rs_pass : PS X (.Pass pos) (rdS X.K T w W .pss) := ps_pass.mono fun D σ H ⟨c, s, rel, hx, q⟩ => by
  unfold evS at q
  exact nx_of rel hx q
theorem rs_brk : PS X (.Break pos) (rdS X.K T w W .brk) := ps_break.mono fun D σ H ⟨c, s, rel, hx, q⟩ => by
  unfold evS at q
  exact q σ H c .refl rel hx
theorem rs_cnt : PS X (.Continue pos) (rdS X.K T w W .cnt) := ps_continue.mono fun D σ H ⟨c, s, rel, hx, q⟩ => by
  unfold evS at q
  exact q σ H c .refl rel hx
theorem rs_bad {stm : Stmt} : PS X stm (rdS X.K T w W .bad) := ps_never.mono fun D σ H ⟨c, s, rel, hx, q⟩ => by
  unfold evS at q
  exact q
theorem rs_if {a b : List Stmt} {ma mb : List S} (hc : Snd X T W e m) (ha : PSs X a (rdB X.K T w W ma)) (hb : PSs X b (rdB X.K T w W mb)) : PS X (.If e a b pos) (rdS X.K T w W (.ifS m ma mb)) :=
  (ps_if hc.tt ha hb).mono fun D σ H ⟨c, s, rel, hx, q⟩ => by
    unfold evS at q
    refine ⟨c, s, rel, hx, (RunS.bind q).mono fun b s1 H1 c1 x1 r1 q1 hx1 => ?_⟩
    cases b with
    | true => exact ⟨c1, s1, r1, hx1, q1⟩
    | false => exact ⟨c1, s1, r1, hx1, q1⟩
theorem rs_par (g : GS X T N sc W) {i j : Nat} {x y : Str} {a b : Expr} {ma mb : E} {px py pt : Pos} {kt k2 pt2} (hi : X.N[i]? = some x) (hj : X.N[j]? = some y) (hij : i ≠ j)
    (hx : X.env.scope.names.lookup x = some .local) (hy : X.env.scope.names.lookup y = some .local) (ha : SndL X T W [a, b] [ma, mb])
    (hw : swappedStores [.Tuple [.Name x px, .Name y py] kt pt] (.Tuple [a, b] k2 pt2) X.env = pure (some [x, y])) :
    PS X (.Assign [.Tuple [.Name x px, .Name y py] kt pt] (.Tuple [a, b] k2 pt2) pos) (rdS X.K T w W (.par i j ma mb)) :=
  (ps_par g.calm (by rw [g.nN]; exact g.nd) hi hj hij hx hy ha.pa hw).mono fun D σ H ⟨c, s, rel, hx, q⟩ => by
    unfold evS at q
    refine ⟨c, s, rel, hx, (RunS.bind q).mono fun xs s1 H1 c1 x1 r1 q1 hx1 vs hvs => ?_⟩
    split at q1
    · obtain ⟨v, vs', rfl, d1, d2⟩ := hvs.cons_out
      obtain ⟨v2, vs'', rfl, d3, d4⟩ := d2.cons_out
      have e0 := Dats.nil_iff.mp d4
      subst e0
      obtain ⟨r2, x2⟩ := r1.store (i := i) d1
      obtain ⟨r3, x3⟩ := r2.store (i := j) (Dat.mono x2.same _ _ d3)
      exact ⟨v, v2, rfl, nx_of r3 hx1 (q1.weak (x2.trans x3).ss)⟩
    · exact q1.elim
theorem rs_aug (g : GS X T N sc W) {i : Nat} {x : Str} {op : Operator} (hi : X.N[i]? = some x) (hx : Loc X.env.scope x) (ho : op = .Add ∨ op = .Sub) (he : Snd X T W e m) : PS X (.AugAssign (.Name x pos') op e pos) (rdS X.K T w W (.aug i op m)) :=
  (ps_aug (by rw [g.nN]; exact g.nd) hi hx he.pp (iop_augD op ho) (.inl (g.fn x))).mono fun D σ H ⟨c, s, rel, hx, q⟩ => by
    unfold evS at q
    obtain ⟨x, ex, q1⟩ := q.of
    obtain ⟨v, ev, hd⟩ := rel.peek ex
    refine ⟨v, ev, c, s, rel, hx, (RunS.bind q1).mono fun y s1 H1 c1 x1 r1 q2 hx1 u hu => ?_⟩
    obtain ⟨n, en, q3⟩ := q2.of
    obtain ⟨r, er, q4⟩ := q3.of
    cases x with
    | int k =>
      refine ⟨c1, k, y, r, hd.int, hu, er, wish_of (xa := T.xa) r1 hx1 fun H2 c2 x2 r2 z hz => ?_⟩
      obtain ⟨r3, x3⟩ := r2.nox
      have hz' := hz.dat r2
      obtain ⟨r4, x4⟩ := r3.store (i := i) hz'
      exact nx_of r4 rfl (q4.weak ((x2.trans x3).trans x4).ss)
    | _ => cases en
/-! methods of own lists -/
theorem own_of {s : Stt} {i : Nat} {xs : List PD.D} (h : ownAt s i = some xs) : s.ρ[i]? = some (.own xs) := by
  unfold ownAt at h
  split at h
  · cases h; assumption
  · cases h
theorem rs_app (g : GS X T N sc W) {i : Nat} {x : Str} {p1 p2 cp : Pos} (hi : X.N[i]? = some x) (hv : Vis X.env.scope x) (hd : (x == ("__debug__" : Str)) = false) (hc : (x == ("__classdict__" : Str)) = false) (hl : (p2.endLine == cp.line) = true) (o : okE e = true) (he : Snd X T W e m) :
    PS X (.Expr (.Call (.Attribute (.Name x p1) "append" p2) [e] [] cp) pos) (rdS X.K T w W (.app i m)) :=
  (ps_expr (pe_bm F.plainAttrs_list F.slot_list_append F.type_list_append mt_append (pe_var hi hv hd hc) (pa_cons he.ee pa_nil (ok_star o _ _)) rfl (by rw [ok_star o]; rfl) hl (ok_star o _ _) rfl)).mono fun D σ H ⟨c, s, rel, hx, q⟩ => by
    unfold evS at q
    obtain ⟨xs, ex, q1⟩ := q.of
    obtain ⟨a, vs, ev, na, ha, hds, _⟩ := rel.write hx (own_of ex)
    refine ⟨_, ev, .inl ⟨rfl, vs, SqL.of ha⟩, c, s, rel, hx, (RunS.bind q1).mono fun r s1 H1 c1 x1 r1 q2 v hv => ?_⟩
    obtain ⟨ys, ey, q3⟩ := q2.of
    obtain ⟨r2, x2⟩ := r1.nox
    obtain ⟨a', vs', ev', na', ha', hds', wr⟩ := r2.write rfl (own_of ey)
    rw [ev] at ev'
    have ea : a = a' := by injection ev' with z; injection z with z; injection z
    subst ea
    split at q3
    · rename_i hz
      have hv' := hv.dat r1
      obtain ⟨r3, x3⟩ := wr (ys ++ [r.D]) (vs' ++ [v]) (Dats.append hds' (Dats.cons hv' Dats.nil))
      exact ⟨a, vs', v, rfl, rfl, ha', by rw [hds'.length]; exact hz, nx_of r3 rfl (q3.weak (x2.ss.trans x3))⟩
    · exact q3.elim
theorem rs_ext (g : GS X T N sc W) {i : Nat} {x : Str} {p1 p2 cp : Pos} (hi : X.N[i]? = some x) (hv : Vis X.env.scope x) (hd : (x == ("__debug__" : Str)) = false) (hc : (x == ("__classdict__" : Str)) = false) (hl : (p2.endLine == cp.line) = true) (o : okE e = true) (he : Snd X T W e m) :
    PS X (.Expr (.Call (.Attribute (.Name x p1) "extend" p2) [e] [] cp) pos) (rdS X.K T w W (.ext i m)) :=
  (ps_expr (pe_bm F.plainAttrs_list F.slot_list_extend F.type_list_extend mt_extend (pe_var hi hv hd hc) (pa_cons he.ee pa_nil (ok_star o _ _)) rfl (by rw [ok_star o]; rfl) hl (ok_star o _ _) rfl)).mono fun D σ H ⟨c, s, rel, hx, q⟩ => by
    unfold evS at q
    obtain ⟨xs, ex, q1⟩ := q.of
    obtain ⟨a, vs, ev, na, ha, hds, _⟩ := rel.write hx (own_of ex)
    refine ⟨_, ev, .inl ⟨rfl, vs, SqL.of ha⟩, c, s, rel, hx, (RunS.bind q1).mono fun r s1 H1 c1 x1 r1 q2 v hv => ?_⟩
    obtain ⟨ys, ey, q3⟩ := q2.of
    obtain ⟨zs, ez, q4⟩ := q3.of
    obtain ⟨r2, x2⟩ := r1.nox
    obtain ⟨a', vs', ev', na', ha', hds', wr⟩ := r2.write rfl (own_of ey)
    rw [ev] at ev'
    have ea : a = a' := by injection ev' with z; injection z with z; injection z
    subst ea
    have hd0 := hv.dat r1
    obtain ⟨ds, ed⟩ : ∃ ds, r.D = .lst ds := by
      cases hr : r.D with
      | lst ds => exact ⟨ds, rfl⟩
      | _ => rw [hr] at ez; cases ez
    rw [ed] at ez hd0
    cases ez
    obtain ⟨b, us, rfl, hb, hdu⟩ := dat_lst.mp hd0
    obtain ⟨_, hb'⟩ := hid_some hb
    split at q4
    · rename_i hz
      obtain ⟨r3, x3⟩ := wr (ys ++ zs) (vs' ++ us) (Dats.append hds' hdu)
      exact ⟨a, b, vs', us, rfl, rfl, ha', hb', by rw [hds'.length, hdu.length]; exact hz, nx_of r3 rfl (q4.weak (x2.ss.trans x3))⟩
    · exact q4.elim
/-- an item of a list, by a place from 0 on -/
def rGetL (K : PySem.W.Frag) : V → V → Hp → VK → Prop := fun o i H Q => ∃ (a : Addr) (xs : List V) (k : Int) (v : V), o = .ref a ∧ i = .int k ∧ H a = some (.lst xs) ∧ 0 ≤ k ∧ xs[k.toNat]? = some v ∧ Q v H
theorem get_lst : PGet X (rGetL X.K) := by
  intro pins s σ H o i ov iv Q I ro ri ⟨a, xs, k, v, eo, ei, ha, h0, hv, q⟩
  subst eo; subst ei
  cases ro
  obtain ⟨t, rfl⟩ := ri
  obtain ⟨its, r, pl, hz⟩ := I.list (SqL.of ha)
  obtain ⟨u, hu, ru⟩ := r.get hv
  have hl := (List.getElem?_eq_some_iff.mp hv).1
  have hn := r.length
  have sz : sizeLine = 16777216 := rfl
  exact wpAny_getItem_list pl.isList h0 (by omega) (by simpa using hu) ⟨v, H, I, ru, q⟩
theorem rs_sixa (g : GS X T N sc W) {i : Nat} {x : Str} {op : Operator} {p1 p2 : Pos} {k : Expr} {mk : E} (ho : op = .Add ∨ op = .Sub) (hi : X.N[i]? = some x) (hv : Vis X.env.scope x) (hd : (x == ("__debug__" : Str)) = false) (hc : (x == ("__classdict__" : Str)) = false) (ok : okE k = true) (hk : Snd X T W k mk) (he : Snd X T W e m) :
    PS X (.AugAssign (.Subscript (.Name x p1) k p2) op e pos) (rdS X.K T w W (.sixa i op mk m)) := by
  have ha : ∀ ov iv new, augStore k ov iv new = (do holding [new, ov, iv] (setItem ov iv new); release [new, ov, iv] []; pure .next) := by
    intro ov iv new
    cases k <;> first | rfl | cases ok
  refine (ps_augS (pe_var hi hv hd hc) hk.pp get_lst he.pp (iop_augD op ho) set_list ha).mono fun D σ H ⟨c, s, rel, hx, q⟩ => ?_
  unfold evS at q
  obtain ⟨xs0, ex0, q0⟩ := q.of
  obtain ⟨a, vs, ev, na, h1, h2, _⟩ := rel.write hx (own_of ex0)
  refine ⟨_, ev, c, s, rel, hx, (RunS.bind q0).mono fun kd s1 H1 c1 x1 r1 q1 hx1 u hu => ?_⟩
  obtain ⟨xs, ex, q2⟩ := q1.of
  obtain ⟨a', vs', ev', na', ha', hds', _⟩ := r1.write hx1 (own_of ex)
  rw [ev] at ev'
  have ea : a = a' := by injection ev' with z; injection z with z; injection z
  subst ea
  obtain ⟨old, eo, q3⟩ := q2.of
  cases kd with
  | int n =>
    simp only [itemNn] at eo
    split at eo
    · rename_i h0
      obtain ⟨vo, hvo, dvo⟩ := hds'.get eo
      refine ⟨a, vs', n, vo, rfl, hu.int, ha', h0, hvo, c1, s1, r1, hx1, (RunS.bind q3).mono fun y s3 H3 c3 x3 r3 q4 hx3 z hz => ?_⟩
      obtain ⟨nv, env, q5⟩ := q4.of
      obtain ⟨ys, ey, q6⟩ := q5.of
      obtain ⟨zs, ez, q7⟩ := q6.of
      obtain ⟨a'', vs'', ev'', na'', ha'', hds'', wr⟩ := r3.write hx3 (own_of ey)
      rw [ev] at ev''
      have ea : a = a'' := by injection ev'' with z; injection z with z; injection z
      subst ea
      simp only [setAt, Option.map_eq_some_iff] at ez
      obtain ⟨j, ej, rfl⟩ := ez
      have key : ∃ (o b f : Int), old = .int o ∧ y = .int b ∧ nv = .int f ∧ binop op (.int o) (.int b) = some (.d (.int f)) := by
        unfold augOp at env
        split at env
        · cases env; exact ⟨_, _, _, rfl, rfl, rfl, rfl⟩
        · cases env; exact ⟨_, _, _, rfl, rfl, rfl, rfl⟩
        · cases env
      obtain ⟨o, b, f, rfl, rfl, rfl, eb⟩ := key
      refine ⟨c3, o, .int b, .d (.int f), dat_int.mp dvo, hz, eb, fun w H5 hh hd => ?_⟩
      have ew := dat_int.mp hd
      subst ew
      rcases hh with rfl | ⟨p, ob, hp, rfl⟩
      · obtain ⟨r4, x4⟩ := wr (ys.set j (.int f)) (vs''.set j (.int f)) (Dats.set (dat_int.mpr rfl) j hds'')
        exact ⟨a, vs'', n, j, rfl, hu.int, ha'', by rw [hds''.length]; exact ej, nx_of r4 hx3 (q7.weak x4)⟩
      · obtain ⟨r5, x5⟩ := r3.new1 (o := ob) hp
        obtain ⟨a3, vs3, ev3, na3, ha3, hds3, wr3⟩ := r5.write hx3 (own_of ey)
        rw [ev] at ev3
        have ea : a = a3 := by injection ev3 with z; injection z with z; injection z
        subst ea
        obtain ⟨r4, x4⟩ := wr3 (ys.set j (.int f)) (vs3.set j (.int f)) (Dats.set (dat_int.mpr rfl) j hds3)
        exact ⟨a, vs3, n, j, rfl, hu.int, ha3, by rw [hds3.length]; exact ej, nx_of r4 hx3 (q7.weak (x5.ss.trans x4))⟩
    · cases eo
  | _ => cases eo
theorem rs_six (g : GS X T N sc W) {i : Nat} {x : Str} {p1 p2 : Pos} {k : Expr} {mk : E} (hi : X.N[i]? = some x) (hv : Vis X.env.scope x) (hd : (x == ("__debug__" : Str)) = false) (hc : (x == ("__classdict__" : Str)) = false) (ok : okE k = true) (hk : Snd X T W k mk) (he : Snd X T W e m) :
    PS X (.Assign [.Subscript (.Name x p1) k p2] e pos) (rdS X.K T w W (.six i mk m)) := by
  have hsw : swapsWithSole [.Subscript (.Name x p1) k p2] e pos.line X.env = pure false := by cases e <;> rfl
  have hst : swappedStores [.Subscript (.Name x p1) k p2] e X.env = pure none := by cases e <;> rfl
  have ha : ∀ v, assign (.Subscript (.Name x p1) k p2) X.env v = (do
      let ov ← holding [v] (eval (.Name x p1) X.env)
      let iv ← holding [v, ov] (eval k X.env)
      standAt p2
      holding [v, ov, iv] (setItem ov iv v)
      release [v, ov, iv] []) := by intro v; cases k <;> first | rfl | cases ok
  refine (ps_asg he.ee (pg_sub (pe_var hi hv hd hc) hk.pp set_list ha) hsw hst rfl).mono fun D σ H ⟨c, s, rel, hx, q⟩ => ?_
  unfold evS at q
  refine ⟨c, s, rel, hx, (RunS.bind q).mono fun r s1 H1 c1 x1 r1 q1 v hv => ?_⟩
  obtain ⟨r2, x2⟩ := r1.nox
  have hd0 := hv.dat r1
  split at q1
  · rename_i xs ex
    obtain ⟨a, vs, ev, na, ha, hds, _⟩ := r2.write rfl ex
    refine ⟨_, ev, _, s1, r2, rfl, (RunS.bind (q1.weak x2.ss)).mono fun kd s2 H2 c2 x3 r3 q3 hx2 u hu => ?_⟩
    obtain ⟨ys, ey, q4⟩ := q3.of
    obtain ⟨zs, ez, q5⟩ := q4.of
    obtain ⟨a', vs', ev', na', ha', hds', wr⟩ := r3.write hx2 (own_of ey)
    rw [ev] at ev'
    have ea : a = a' := by injection ev' with z; injection z with z; injection z
    subst ea
    cases kd with
    | int n =>
      simp only [setAt, Option.map_eq_some_iff] at ez
      obtain ⟨j, ej, rfl⟩ := ez
      have hd1 : Dat X.K c2.ha (hid c2.P H2) v r.D := by
        rw [show c2.ha = c1.ha from x3.ha]
        exact Dat.mono x3.same _ _ hd0
      obtain ⟨r4, x4⟩ := wr (ys.set j r.D) (vs'.set j v) (Dats.set hd1 j hds')
      exact ⟨a, vs', n, j, rfl, hu.int, ha', by rw [hds'.length]; exact ej, nx_of r4 hx2 (q5.weak x4)⟩
    | _ => cases ez
  · rename_i ex
    obtain ⟨hv0, ev, hdh⟩ := r2.get ex
    have eh := dat_hand.mp hdh
    subst eh
    refine ⟨_, ev, _, s1, r2, rfl, (RunS.bind (q1.weak x2.ss)).mono fun kd s2 H2 c2 x3 r3 q3 hx2 u hu => ?_⟩
    obtain ⟨g', eg, q4⟩ := q3.of
    have hd1 : Dat X.K c2.ha (hid c2.P H2) v r.D := by
      rw [show c2.ha = c1.ha from x3.ha]
      exact Dat.mono x3.same _ _ hd0
    have eha : c2.ha = c1.ha := x3.ha
    generalize r.D = dv at eg hd1
    cases kd with
    | int n =>
      cases dv with
      | int z =>
        have ez := dat_int.mp hd1
        subst ez
        obtain ⟨hl, hc, ne⟩ := r3.hnd
        have eg : handSet s2.g n z = some g' := eg
        have go : ∀ xs, HandOk c2.ha c2.ca (upd H2 c2.ha (.lst xs)) g' → D.nx σ (upd H2 c2.ha (.lst xs)) := fun xs hh => by
          obtain ⟨r4, x4⟩ := r3.grow (g := g') (H' := upd H2 c2.ha (.lst xs)) (fun b o n q => by rw [upd_ne n]; exact q) hh
          exact nx_of r4 hx2 (q4.weak x4.ss)
        have hca : ∀ xs, upd H2 c2.ha (.lst xs) c2.ca = some (.lst (s2.g.cells.map V.int)) := fun xs => by rw [upd_ne ne]; exact hc
        unfold handSet at eg
        split at eg
        · rename_i hi
          subst hi
          cases eg
          exact ⟨c2.ha, _, 1, 1, by rw [eha], hu.int, hl, rfl, go _ ⟨upd_same, hca _, ne⟩⟩
        · split at eg
          · rename_i hi
            subst hi
            cases eg
            exact ⟨c2.ha, _, 2, 2, by rw [eha], hu.int, hl, rfl, go _ ⟨upd_same, hca _, ne⟩⟩
          · split at eg
            · rename_i hi
              subst hi
              cases eg
              exact ⟨c2.ha, _, 3, 3, by rw [eha], hu.int, hl, rfl, go _ ⟨upd_same, hca _, ne⟩⟩
            · cases eg
      | _ => cases eg
    | _ => cases dv <;> cases eg
  · exact q1.elim
end
end PD

set_option Elab.async false
set_option linter.all false
set_option maxRecDepth 100000
set_option maxHeartbeats 4000000
/-! PyS12: loops, sequences; statements of the program into the language, and that it is right. -/
namespace PD
open PySem PySem.Spec PyProof.Rows L2

section
variable {X : Cx} {T : Tb} {N : List Str} {sc : Scope} {W : WX} {w : Nat} {e : Expr} {m : E} {pos pos' : Pos}
theorem rs_setLc (g : GS X T N sc W) {i : Nat} {y : Str} {py : Pos} {elt tg iter : Expr} {ifs : List Expr} {scope : Scope} {own : List (Str × Nat)} {t : Tg} {k : Sk} {ms : List E} {mc : Option E} {me : E}
    (h : CompOk X T W elt tg iter ifs scope own t k ms mc me) (hy : X.N[i]? = some y) (hyl : X.env.scope.names.lookup y = some .local) (hsw : swapsWith (.ListComp elt [⟨tg, iter, ifs, 0⟩] scope pos') (some (.Name y py)) pos.line X.env = pure true) :
    PS X (.Assign [.Name y py] (.ListComp elt [⟨tg, iter, ifs, 0⟩] scope pos') pos) (rdS X.K T w W (.set (.nm i) (.comp (own.map (·.2)) t k ms mc me))) :=
  rd_set ((ps_setLc g.calm (CompOk.nd g.toGE) hy hyl hsw h.src.p h.blk (fun s H C cl fp => TgOk.pg (X := X.blk s H scope (compEnvC scope cl C X.env) fp) (by show X.N.Nodup; exact CompOk.nd g.toGE) g.calm (h.tg s H C cl fp)) (fun s H C cl fp => (h.ifs s H C cl fp).pts)
    (fun s H C cl fp => (h.elt s H C cl fp).ee) (ok_folded h.fo _)).mono fun D σ H q => e_comp g.toGE (pos := pos') h.src h.fo h.blk h.tg h.ts h.ifs h.elt σ H _ q)
theorem rs_for (g : GS X T N sc W) {tg iter : Expr} {t : Tg} {k : Sk} {ms : List E} {body : List Stmt} {mb : List S} (hi : SrcOk X T W tg iter k ms) (ht : TgOk X tg t) (hfo : okE iter = true) (hb : PSs X body (rdB X.K T w W mb)) :
    PS X (.For tg iter body [] pos) (rdS X.K T w W (.forS t k ms mb)) :=
  (ps_for g.pass g.calm hi.l (ht.pg (by rw [g.nN]; exact g.nd) g.calm) hb (ok_folded hfo _)).mono fun D σ H ⟨c, s, rel, hx, q⟩ => by
    unfold evS at q
    refine ⟨c, s, rel, hx, (RunS.bind q).mono fun xs s1 H1 c1 x1 r1 q1 hx1 vs hvs => ?_⟩
    obtain ⟨ds, eds, q2⟩ := q1.of
    obtain ⟨J, hJ, hw⟩ := j_of_src hvs.ps eds
    refine ⟨J, hJ, fun i m σ' H' => m = ds.length - i ∧ i ≤ ds.length ∧ ∃ c' s', Rel X.K c' s' σ' H' ∧ c'.x = none ∧ SS c1 H1 c' H' ∧ RunS X.K T.xa W c' H' (forL (evB T.Φ w mb) t (ds.drop i) s') (KD X.K D),
      ⟨_, rfl, Nat.zero_le _, c1, s1, r1, hx1, .refl, by rw [List.drop_zero]; exact q2⟩, ?_⟩
    intro i m σ' H' ⟨em, hi, c', s', r', hx', ss, q'⟩
    have hvs' : Dats X.K c'.ha (hid c'.P H') vs xs := by
      rw [show c'.ha = c1.ha from ss.ha]
      exact Dats.mono ss.same _ _ hvs
    obtain ⟨go, stop⟩ := hw c' H' hvs'.ps r'.obs
    by_cases hlt : i < ds.length
    · obtain ⟨g1, g2⟩ := go i hlt
      refine .inr ⟨g1, fun σ'' H'' => ∃ c' s', Rel X.K c' s' σ'' H'' ∧ c'.x = none ∧ SS c1 H1 c' H'' ∧ RunS X.K T.xa W c' H'' (forL (evB T.Φ w mb) t (ds.drop (i + 1)) s') (KD X.K D),
        fun σ'' H'' z => ⟨ds.length - (i + 1), by omega, rfl, hlt, z⟩, fun x H2 hy => ?_⟩
      obtain ⟨hgr, hdx⟩ := g2 x H2 hy
      have dr : ds.drop i = ds[i] :: ds.drop (i + 1) := List.drop_eq_getElem_cons hlt
      rw [dr] at q'
      unfold forL at q'
      cases hb : bindT t ds[i] s' with
      | none => rw [hb] at q'; exact q'.elim
      | some s1' =>
        rw [hb] at q'
        simp only at q'
        obtain ⟨rl2, ss2⟩ : Rel X.K c' s' σ' H2 ∧ SS c' H' c' H2 := by
          rcases hgr with rfl | ⟨p, o, hp, rfl⟩
          · exact ⟨r', .refl⟩
          · obtain ⟨a1, a2⟩ := r'.new1 (o := o) hp
            exact ⟨a1, a2.ss⟩
        refine bind_run rl2 hdx hb fun σ2 c2 x2 hx2 r2 hout => ⟨c2, s1', r2, hx2.trans hx', ?_⟩
        have step : SS c' H' c2 H2 := ss2.trans x2.ss
        replace q' := q'.weak step
        cases h4 : evB T.Φ w mb s1' with
        | bad => rw [h4] at q'; exact q'.elim
        | ex e s2 => rw [h4] at q'; exact q'
        | ok f s2 =>
          rw [h4] at q'
          cases f with
          | nx => exact fun σ3 H3 c3 ss3 r3 hx3 => ⟨c3, s2, r3, hx3, ss.trans (step.trans ss3), q'.weak ss3⟩
          | ct => exact fun σ3 H3 c3 ss3 r3 hx3 => ⟨c3, s2, r3, hx3, ss.trans (step.trans ss3), q'.weak ss3⟩
          | bk => exact fun σ3 H3 c3 ss3 r3 hx3 => q' σ3 H3 c3 ss3 r3 hx3
          | rt r => exact fun σ3 H3 c3 ss3 r3 v hv => q' σ3 H3 c3 ss3 r3 v hv
    · have e0 : i = ds.length := by omega
      subst e0
      rw [List.drop_length] at q'
      unfold forL at q'
      exact .inl ⟨stop _ (Nat.le_refl _), nx_of r' hx' q'⟩
theorem rs_whl (g : GS X T N sc W) {body : List Stmt} {mb : List S} (hc : Snd X T W e m) (hb : PSs X body (rdB X.K T w W mb)) : PS X (.While e body [] pos) (rdS X.K T w W (.whl m mb)) :=
  (ps_while g.pass hc.tt hb).mono fun D σ H ⟨c, s, rel, hx, q⟩ => by
    unfold evS at q
    refine ⟨fun n σ' H' => ∃ c' s', Rel X.K c' s' σ' H' ∧ c'.x = none ∧ RunS X.K T.xa W c' H' (whlL (tst m (evE T.Φ m)) (evB T.Φ w mb) n s') (KD X.K D), ⟨w, c, s, rel, hx, q⟩, ?_⟩
    intro n σ' H' ⟨c', s', r', hx', q'⟩
    cases n with
    | zero => exact q'.elim
    | succ n =>
      unfold whlL at q'
      refine ⟨c', s', r', hx', ?_⟩
      cases h1 : tst m (evE T.Φ m) s' with
      | bad => rw [h1] at q'; exact q'.elim
      | ex e s2 =>
        rw [h1] at q'
        exact fun cls d H' c' x q hx hz => q' cls d σ' H' c' x.ss q hx hz
      | ok b s1 =>
        rw [h1] at q'
        intro H1 c1 x1 r1 hx1
        cases b with
        | false =>
          rw [if_neg Bool.false_ne_true]
          exact nx_of r1 hx1 (q'.weak x1.ss)
        | true =>
          rw [if_pos rfl]
          refine ⟨fun σ'' H'' => ∃ c' s', Rel X.K c' s' σ'' H'' ∧ c'.x = none ∧ RunS X.K T.xa W c' H'' (whlL (tst m (evE T.Φ m)) (evB T.Φ w mb) n s') (KD X.K D), fun σ'' H'' z => ⟨n, Nat.lt_succ_self _, z⟩, c1, s1, r1, hx1, ?_⟩
          replace q' := q'.weak x1.ss
          simp only at q'
          cases h4 : evB T.Φ w mb s1 with
          | bad => rw [h4] at q'; exact q'.elim
          | ex e s2 => rw [h4] at q'; exact q'
          | ok f s2 =>
            rw [h4] at q'
            cases f with
            | nx => exact fun σ3 H3 c3 ss3 r3 hx3 => ⟨c3, s2, r3, hx3, q'.weak ss3⟩
            | ct => exact fun σ3 H3 c3 ss3 r3 hx3 => ⟨c3, s2, r3, hx3, q'.weak ss3⟩
            | bk => exact fun σ3 H3 c3 ss3 r3 hx3 => q' σ3 H3 c3 ss3 r3 hx3
            | rt r => exact fun σ3 H3 c3 ss3 r3 v hv => q' σ3 H3 c3 ss3 r3 v hv
theorem rb_nil : PSs X [] (rdB X.K T w W []) := pss_nil.mono fun D σ H ⟨c, s, rel, hx, q⟩ => by
  unfold evB at q
  exact nx_of rel hx q
theorem rb_cons {stm : Stmt} {r : List Stmt} {a : S} {b : List S} (h1 : PS X stm (rdS X.K T w W a)) (h2 : PSs X r (rdB X.K T w W b)) : PSs X (stm :: r) (rdB X.K T w W (a :: b)) :=
  (pss_cons h1 h2).mono fun D σ H ⟨c, s, rel, hx, q⟩ => by
    unfold evB at q
    refine ⟨c, s, rel, hx, ?_⟩
    cases h4 : evS T.Φ w a s with
    | bad => rw [h4] at q; exact q.elim
    | ex e s2 => rw [h4] at q; exact q
    | ok f s2 =>
      rw [h4] at q
      cases f with
      | nx => exact fun σ3 H3 c3 ss3 r3 hx3 => ⟨c3, s2, r3, hx3, RunS.weak ss3 q⟩
      | ct => exact fun σ3 H3 c3 ss3 r3 hx3 => q σ3 H3 c3 ss3 r3 hx3
      | bk => exact fun σ3 H3 c3 ss3 r3 hx3 => q σ3 H3 c3 ss3 r3 hx3
      | rt r => exact fun σ3 H3 c3 ss3 r3 v hv => q σ3 H3 c3 ss3 r3 v hv
end
end PD

set_option Elab.async false
set_option linter.all false
set_option maxRecDepth 100000
set_option maxHeartbeats 4000000
/-! PyX1: raise, try. -/
namespace PD
open PySem PySem.Spec PyProof.Rows L2

section
variable {X : Cx} {T : Tb} {N : List Str} {sc : Scope} {W : WX} {w : Nat}
/-! ### raise -/
theorem rs_rse (g : GS X T N sc W) {x : Str} {fs : List Str} {i : Nat} {es : List Expr} {ms : List E} {p p2 pos : Pos} (hi : T.nm.xn[i]? = some (x, fs)) (hl : es.length = fs.length) (gl : Gl X x) (hdb : (x == ("__debug__" : Str)) = false) (he : SndL X T W es ms) :
    PS X (.Raise (some (.Call (.Name x p) es [] p2)) none pos) (rdS X.K T w W (.rse i ms)) := by
  have C := g.glb.xcl i _ hi
  have hxa := g.glb.xa
  have R : Raises X (.ref (T.xad i)) := raises_own C.xc.hs C.ty
  have hml := he.length
  rcases C.how with ⟨e0, mk⟩ | ⟨_, l2, O, fI, fd, iC, tI, bd, F⟩
  · have e0 : fs = [] := e0
    subst e0
    have e1 : es = [] := List.length_eq_zero_iff.mp hl
    subst e1
    have e2 : ms = [] := List.length_eq_zero_iff.mp (by rw [← hml]; rfl)
    subst e2
    refine (ps_raise g.calm g.tk (pmk_none mk C.at_ C.kp R gl hdb)).mono fun D σ H ⟨c, s, rel, hx, q⟩ => ?_
    unfold evS evL at q
    simp only [Res.bind_ok] at q
    exact q _ _ σ H c .refl rel hx (by rw [hxa]; exact ⟨rfl, _, hi, rfl, .inl ⟨rfl, rfl⟩⟩)
  · have hne : ∃ e es', es = e :: es' := by
      cases es with
      | cons e es' => exact ⟨e, es', rfl⟩
      | nil =>
        have : fs = [] := List.length_eq_zero_iff.mp (by rw [← hl]; rfl)
        contradiction
    obtain ⟨e, es', rfl⟩ := hne
    have pl : Plain (e :: es') X.env := ok_plain _ fun y hy => he.ok y hy
    refine (ps_raise g.calm g.tk (pmk_oex O iC tI F (g.room.mono g.glb.lv) bd .nil (passes_call g.tk fun _ _ _ _ z => z.elim) gl C.at_ he.pa hdb pl.head (pl.tail.any p2))).mono fun D σ H ⟨c, s, rel, hx, q⟩ => ?_
    unfold evS at q
    refine ⟨c, s, rel, hx, (RunS.bind q).monoE fun xs s1 H1 c1 ev x1 r1 q1 hx1 vs hvs => ?_⟩
    have hlen : xs.length = fs.length := by rw [evL_length T.Φ ev, ← hml]; exact hl
    have hvl : vs.length = fs.length := hvs.length.trans hlen
    refine ⟨by have : fs.length ≤ 2 := l2; omega, fun a ha => ?_⟩
    rw [List.append_nil]
    refine ⟨a, vs, rfl, hvl, upd_same, O, C.no, fun dx H2 hd ne e1 e2 same => ?_⟩
    have hd1 : H1 dx = none := by rw [upd_ne ne] at hd; exact hd
    refine ⟨rfl, dx, _, e1, e2, hd1, ?_⟩
    have eH : upd (del H2 a) dx (.xd (fs.zip vs).reverse) = upd H1 dx (.xd (fs.zip vs).reverse) := by
      funext b
      by_cases z : b = dx
      · rw [z, upd_same, upd_same]
      · rw [upd_ne z, upd_ne z]
        by_cases y : b = a
        · rw [y, del_same, ha]
        · rw [del_ne y, same b y z, upd_ne y]
    rw [eH]
    obtain ⟨r2, x2⟩ := r1.new1 (o := .xd (fs.zip vs).reverse) hd1
    refine q1 _ _ σ _ c1 x2.ss r2 hx1 ?_
    rw [hxa]
    refine ⟨rfl, _, hi, hlen, .inr ⟨dx, _, rfl, hid_mk (r1.fresh hd1) upd_same, fun k f y hk hy => ?_⟩⟩
    obtain ⟨v, ev1, ev2⟩ := look_zip C.nd l2 hvl hk
    obtain ⟨v', ev3, dv⟩ := hvs.get hy
    rw [ev1] at ev3
    cases ev3
    exact ⟨v, ev2, Dat.mono x2.same _ _ dv⟩
end
end PD

set_option Elab.async false
set_option linter.all false
set_option maxRecDepth 100000
set_option maxHeartbeats 4000000
/-! PyX2: except suites. -/
namespace PD
open PySem PySem.Spec PyProof.Rows L2

/-- what an except suite knows: n the slot of the error's name, is the classes that it takes -/
structure Sx where
  is : List Nat
  n : Option Nat
def rdX (K : Fr) (T : Tb) (x : Sx) (a : Addr) (cls : Value) (d : Option Addr) (σ : L2.St) (H : Hp) (k : Exc → Cf → Stt → Prop) : Prop :=
  ∃ c s e, Rel K c s σ H ∧ c.x = none ∧ (∀ n, x.n = some n → σ[n]? = some (some (.ref a))) ∧ xaOf K T.nm.xn T.xad e cls d (hid c.P H) c.ha ∧ e.c ∈ x.is ∧ k e c s
def rdHE (K : Fr) (T : Tb) (x : Sx) (a : Addr) (cls : Value) (d : Option Addr) (h : HE) : TE := fun σ H Q => rdX K T x a cls d σ H fun e c s => ∃ r, hvE e s h = some r ∧ ∀ H' c', XS c H c' H' → Rel K c' s σ H' → c'.x = none → ∀ v, Dat K c'.ha (hid c'.P H') v r → Q v H'
def rdHL (K : Fr) (T : Tb) (x : Sx) (a : Addr) (cls : Value) (d : Option Addr) (hs : List HE) : TA := fun σ H Q => rdX K T x a cls d σ H fun e c s => ∃ r, hvL e s hs = some r ∧ ∀ H' c', XS c H c' H' → Rel K c' s σ H' → c'.x = none → ∀ vs, Dats K c'.ha (hid c'.P H') vs r → Q vs H'
def rdHA (K : Fr) (T : Tb) (x : Sx) (as : List HA) (a : Addr) (cls : Value) (d : Option Addr) : TS := fun D σ H => rdX K T x a cls d σ H fun e c s => RunS K T.xa (fun _ _ _ _ => False) c H (evHA e as s) (KD K D)

/-- isinstance(e, c), e the error that the suite holds -/
theorem call_isX {X : Cx} {a : Addr} {cls : Value} {d : Option Addr} {oe : Obj} {pn : List (Addr × Obj)} (hz : Zc cls d oe) (hf : ∃ vs, oe.data = .fields vs) :
    CallR (X.suite a ((a, oe) :: pn)) (.builtin "isinstance") (fun xs H Q => ∃ (C : Addr) (c : V) (cv : Value) (b : Bool), cls = .ref C ∧ ExcC X.K C ∧ (d = none ∨ ∃ dd fl, d = some dd ∧ H dd = some (.xd fl)) ∧ xs = [.ref a, c] ∧ (∀ u, RelV c u → u = cv) ∧ PySem.W.kitOne X.K (.ref C) cv = some b ∧ Q (.bl b) H) := by
  intro pins s σ H xs us Q I r h
  obtain ⟨C, c, cv, b, rfl, E, hd, rfl, hcv, e, q⟩ := h
  cases r with
  | cons rx rr =>
    cases rr with
    | cons rt rr =>
      cases rr
      cases rx
      have ec := hcv _ rt
      subst ec
      have hget := (I.pin (a, oe) (List.mem_append.mpr (.inl List.mem_cons_self))).1
      obtain ⟨vs, hv⟩ := hf
      obtain ⟨od, J⟩ : ∃ od, PySem.W.InstAt s.heap a oe C od := by
        have nc : PySem.W.notCls oe = true := by unfold PySem.W.notCls; rw [hv] <;> rfl
        rcases hd with rfl | ⟨dd, fl, rfl, hdd⟩
        · exact ⟨none, hget, hz.1, nc, by rw [hz.2]; trivial⟩
        · obtain ⟨mA, hns, _⟩ := (show ObjOk X.prog X.w H s.heap dd (.xd fl) from I.hok dd _ hdd)
          obtain ⟨o, ho, _⟩ := lookIn_ns hns
          exact ⟨some o, hget, hz.1, nc, by rw [hz.2]; exact ho⟩
      have cl : (PySem.W.clsIn X.K C).isSome = true := by
        have z := E.hd
        unfold PySem.W.hasDictIn at z
        cases q : PySem.W.clsIn X.K C with
        | some _ => rfl
        | none => rw [q] at z; cases z
      exact PySem.W.kia_one (PySem.W.kitx_exc (od := od) cl E.hg E.hk E.hs E.ha E.hn E.ht E.hm) I.kIn J e (fun z => nomatch z) fun tk => ⟨.bl b, H, I.kept (t' := tk) fun _ _ z => z, rfl, q⟩
end PD

set_option Elab.async false
set_option linter.all false
set_option maxRecDepth 100000
set_option maxHeartbeats 4000000
/-! PyX3: expressions of except suites. -/
namespace PD
open PySem PySem.Spec PyProof.Rows L2

/-- the field f of every class of is has the place k -/
def fldAt (nm : Nm) (is : List Nat) (f : Str) : Option Nat := match is with
  | [] => none
  | i :: _ => match nm.xn[i]? with
    | none => none
    | some q => (ixOf q.2 f).bind fun k => if is.all (fun j => match nm.xn[j]? with
      | none => false
      | some q => decide (q.2[k]? = some f)) then some k else none
/-- the error's name -/
def isErr (N : List Str) (sc : Scope) (n : Option Nat) (x : Str) : Bool := vis sc x && okNm x && decide (n.isSome = true) && decide (ixOf N x = n)
/-- the numbers below a class that isinstance names -/
def below (nm : Nm) (sc : Scope) (c : Str) : Option (List Nat) := if isB nm sc c && decide (c = "ValueError") then some (List.range nm.xn.length) else if isGl sc c && okNm c then (nm.hn.find? fun e => decide (e.1 = c)).map (·.2) else none
def cHE (nm : Nm) (N : List Str) (sc : Scope) (x : Sx) : Nat → Expr → Option HE
  | 0, _ => none
  | n + 1, e => match e with
    | .Constant .none _ _ => some (.k .non)
    | .Constant (.bool b) _ _ => some (.k (.bl b))
    | .Constant (.int i) _ _ => some (.k (.int i))
    | .Constant (.str s) _ _ => some (.k (.str s))
    | .Attribute (.Name y _) f _ => if isErr N sc x.n y then (fldAt nm x.is f).map .fld else none
    | .Call (.Name f _) [.Attribute (.Name y _) g _] [] _ => if f = "repr" && isB nm sc f && isErr N sc x.n y then (fldAt nm x.is g).map .rpr else none
    | .Call (.Name f _) [.Name y _, .Name c _] [] _ => if f = "isinstance" && isB nm sc f && isErr N sc x.n y then (below nm sc c).map .isx else none
    | .BoolOp .And [a, b] _ => (cHE nm N sc x n a).bind fun m => (cHE nm N sc x n b).map fun k => .and m k
    | .List es _ => (mapO (fun e => if okE e then cHE nm N sc x n e else none) es).map .lst
    | .Tuple es _ _ => (mapO (fun e => if okE e then cHE nm N sc x n e else none) es).map .tup
    | _ => none
/-- the suite's context -/
structure SX (X : Cx) (T : Tb) (N : List Str) (sc : Scope) (x : Sx) : Prop where
  nN : X.N = N
  nd : N.Nodup
  sco : X.env.scope = sc
  fn : ∀ y, X.fn y = true
  gd : X.A.guards = some []
  hu : X.A.units + 100 < cLine
  glb : Glb X.prog X.w X.K X.mg X.base T
section
variable {X : Cx} {T : Tb} {N : List Str} {sc : Scope} {x : Sx} {a : Addr} {cls : Value} {d : Option Addr} {oe : Obj} {pn : List (Addr × Obj)} {e : Expr} {h : HE} {pos : Pos}
theorem pe_no {e : Expr} {X : Cx} {t : TE} (no : ∀ σ H Q, ¬ t σ H Q) : PE X e t := ⟨fun pins s σ H Q I q => absurd q (no _ _ _)⟩
theorem hx_k {cst : Const} {j : Nat} {c : D} {v : V} (p : PE (X.suite a ((a, oe) :: pn)) (.Constant cst j pos) (tC v)) (hv : ∀ (K : Fr) ha H, Dat K ha H v c) : PE (X.suite a ((a, oe) :: pn)) (.Constant cst j pos) (rdHE X.K T x a cls d (.k c)) :=
  p.mono fun σ H Q ⟨c0, s, e, rel, hx, _, _, _, r, er, q⟩ => by
    unfold hvE at er
    cases er
    exact q _ _ .refl rel hx _ (hv _ _ _)
/-- the error itself -/
theorem hx_err (S : SX X T N sc x) {y : Str} {p : Pos} (he : isErr N sc x.n y = true) : ∃ n, x.n = some n ∧ PE (X.suite a ((a, oe) :: pn)) (.Name y p) (tVar n) := by
  unfold isErr at he
  simp only [Bool.and_eq_true, decide_eq_true_eq] at he
  obtain ⟨⟨⟨h1, h2⟩, h3⟩, h4⟩ := he
  obtain ⟨n, en⟩ := Option.isSome_iff_exists.mp h3
  obtain ⟨d1, d2⟩ := okNm_of h2
  refine ⟨n, en, pe_var (by show X.N[n]? = _; rw [S.nN]; exact ixOf_at (h4.trans en)) ?_ d1 d2⟩
  show Vis X.env.scope y
  rw [S.sco]
  exact vis_of h1
theorem fldAt_of {nm : Nm} {is : List Nat} {f : Str} {k : Nat} (h : fldAt nm is f = some k) : ∀ j ∈ is, ∃ q, nm.xn[j]? = some q ∧ q.2[k]? = some f := by
  unfold fldAt at h
  split at h
  · cases h
  · rename_i i r
    split at h
    · cases h
    · rw [Option.bind_eq_some_iff] at h
      obtain ⟨k', _, h2⟩ := h
      split at h2
      · rename_i hall
        cases h2
        intro j hj
        have z := List.all_eq_true.mp hall j hj
        split at z
        · cases z
        · rename_i q hq
          exact ⟨q, hq, of_decide_eq_true z⟩
      · cases h2
/-- a field, read: what is known of it -/
theorem fld_run (G : Glb X.prog X.w X.K X.mg X.base T) {f : Str} {k : Nat} (hk : fldAt T.nm x.is f = some k) {ex : Exc} {H : Hp} {ha : Addr} (hc : ex.c ∈ x.is) (xz : xaOf X.K T.nm.xn T.xad ex cls d H ha) {r : D} (er : ex.fs[k]? = some r) :
    ∃ C, cls = .ref C ∧ XfC X.K C ∧ PySem.W.findIn X.K (.ref C) f = some none ∧ ∃ (dd : Addr) (fl : List (Str × V)) (v : V), d = some dd ∧ H dd = some (.xd fl) ∧ fl.lookup f = some v ∧ Dat X.K ha H v r := by
  obtain ⟨ec, q, hq, hl, alt⟩ := xz
  obtain ⟨q', hq', hf⟩ := fldAt_of hk _ hc
  rw [hq] at hq'
  cases hq'
  have C := G.xcl _ _ hq
  refine ⟨_, ec, ⟨C.xc.hg, C.xc.hk, C.xc.hs, C.xc.hd⟩, C.no f (List.mem_of_getElem? hf), ?_⟩
  rcases alt with ⟨e0, _⟩ | ⟨dd, fl, e1, e2, e3⟩
  · rw [e0] at hf; simp at hf
  · obtain ⟨v, h1, h2⟩ := e3 k f r hf er
    exact ⟨dd, fl, v, e1, e2, h1, h2⟩
def tFld (a : Addr) (cls : Value) (d : Option Addr) (f : Str) (te : TE) (K : Fr) : TE := fun σ H Q => te σ H fun y H1 => y = .ref a ∧ ∃ C, cls = .ref C ∧ XfC K C ∧ PySem.W.findIn K (.ref C) f = some none ∧ ∃ (dd : Addr) (fl : List (Str × V)) (v : V), d = some dd ∧ H1 dd = some (.xd fl) ∧ fl.lookup f = some v ∧ Q v H1
theorem pe_fld {f : Str} {n : Nat} {p pos : Pos} {y : Str} (hz : Zc cls d oe) (hf : ∃ vs, oe.data = .fields vs) (he : PE (X.suite a ((a, oe) :: pn)) (.Name y p) (tVar n)) : PE (X.suite a ((a, oe) :: pn)) (.Attribute (.Name y p) f pos) (tFld a cls d f (tVar n) X.K) := by
  by_cases z : ∃ C, cls = .ref C ∧ XfC X.K C ∧ PySem.W.findIn X.K (.ref C) f = some none
  · obtain ⟨C, rfl, h1, h2⟩ := z
    exact (pe_xf h1 h2 hz hf he).mono fun σ H Q ⟨v, e1, e2, C', e3, _, _, dd, fl, u, e4, e5, e6, q⟩ => ⟨v, e1, e2, rfl, dd, fl, u, e4, e5, e6, q⟩
  · exact pe_no fun σ H Q ⟨v, e1, e2, C', e3, h1, h2, _⟩ => z ⟨C', e3, h1, h2⟩
theorem hx_fld (S : SX X T N sc x) (hz : Zc cls d oe) (hf : ∃ vs, oe.data = .fields vs) {y f : Str} {k : Nat} {p : Pos} (he : isErr N sc x.n y = true) (hk : fldAt T.nm x.is f = some k) : PE (X.suite a ((a, oe) :: pn)) (.Attribute (.Name y p) f pos) (rdHE X.K T x a cls d (.fld k)) := by
  obtain ⟨n, en, pv⟩ := hx_err (a := a) (oe := oe) (pn := pn) (p := p) S he
  refine (pe_fld hz hf pv).mono fun σ H Q ⟨c, s, ex, rel, hx, hn, xz, hc, r, er, q⟩ => ?_
  unfold hvE at er
  obtain ⟨C, e1, e2, e3, dd, fl, v, e4, e5, e6, dv⟩ := fld_run S.glb hk hc xz er
  exact ⟨.ref a, hn n en, rfl, C, e1, e2, e3, dd, fl, v, e4, (hid_some e5).2, e6, q _ _ .refl rel hx v dv⟩
theorem hx_rpr (S : SX X T N sc x) (hz : Zc cls d oe) (hf : ∃ vs, oe.data = .fields vs) {y f : Str} {k : Nat} {p p1 p2 : Pos} (hb : isB T.nm sc "repr" = true) (he : isErr N sc x.n y = true) (hk : fldAt T.nm x.is f = some k) :
    PE (X.suite a ((a, oe) :: pn)) (.Call (.Name "repr" p1) [.Attribute (.Name y p) f p2] [] pos) (rdHE X.K T x a cls d (.rpr k)) := by
  obtain ⟨n, en, pv⟩ := hx_err (a := a) (oe := oe) (pn := pn) (p := p) S he
  have hg : Gl (X.suite a ((a, oe) :: pn)) "repr" := by
    unfold isB at hb
    rw [Bool.and_eq_true] at hb
    show X.env.scope.names.lookup _ = _
    rw [S.sco]
    exact isGl_of hb.1
  have hm : X.mg "repr" = none := by
    unfold isB at hb
    rw [Bool.and_eq_true] at hb
    exact S.glb.bl _ (of_decide_eq_true hb.2)
  have cr : CallR (X.suite a ((a, oe) :: pn)) (.builtin "repr") (fun vs H Q => ∃ c v r, vs = [v] ∧ DatP X.K c H v r ∧ r.py.showable = true ∧ r.nh = true ∧ r.py.depth ≤ 64 ∧ r.py.shown.length ≤ sizeLine ∧ Q (.str r.py.shown) H) := by
    intro pins s σ H vs us Q I rv ⟨c, v, r, ev, h1, h2, h3, h3', h4, q⟩
    subst ev
    cases rv with
    | cons rx rr =>
      cases rr
      exact repr_run (X := X.suite a ((a, oe) :: pn)) S.gd S.hu I rx h1 h2 h3 h3' h4 q
  refine (pe_callB cr hg hm (by decide +kernel) (pa_cons (pe_fld (pos := p2) hz hf pv) pa_nil) (by decide +kernel) (by decide +kernel)).mono fun σ H Q ⟨c, s, ex, rel, hx, hn, xz, hc, r, er, q⟩ => ?_
  unfold hvE at er
  split at er
  · rename_i r0 hr0
    obtain ⟨C, e1, e2, e3, dd, fl, v, e4, e5, e6, dv⟩ := fld_run S.glb hk hc xz hr0
    rw [Option.map_eq_some_iff] at er
    obtain ⟨r1, eb, rfl⟩ := er
    simp only [blt] at eb
    split at eb
    · rename_i hsh
      cases eb
      simp only [Bool.and_eq_true, decide_eq_true_eq] at hsh
      exact ⟨.ref a, hn n en, rfl, C, e1, e2, e3, dd, fl, v, e4, (hid_some e5).2, e6, c, v, r0, rfl, DatP.of dv, hsh.1.2, hsh.1.1.1, hsh.1.1.2, hsh.2, q _ _ .refl rel hx _ (dat_str.mpr rfl)⟩
    · cases eb
  · cases er
end
end PD

set_option Elab.async false
set_option linter.all false
set_option maxRecDepth 100000
set_option maxHeartbeats 4000000
/-! PyX4: expressions of except suites, all of them. -/
namespace PD
open PySem PySem.Spec PyProof.Rows L2

section
variable {X : Cx} {T : Tb} {N : List Str} {sc : Scope} {x : Sx} {a : Addr} {cls : Value} {d : Option Addr} {oe : Obj} {pn : List (Addr × Obj)} {e : Expr} {h : HE} {pos : Pos}
theorem gl_suite (S : SX X T N sc x) {y : Str} (h : isGl sc y = true) : Gl (X.suite a ((a, oe) :: pn)) y := by
  show X.env.scope.names.lookup _ = _
  rw [S.sco]
  exact isGl_of h
theorem below_of (S : SX X T N sc x) {c : Str} {is : List Nat} {p : Pos} (hb : below T.nm sc c = some is) :
    ∃ (u : V) (cv : Value), PE (X.suite a ((a, oe) :: pn)) (.Name c p) (tC u) ∧ (∀ w, RelV u w → w = cv) ∧ ∀ i q, T.nm.xn[i]? = some q → PySem.W.kitOne X.K (.ref (T.xad i)) cv = some (decide (i ∈ is)) := by
  unfold below at hb
  split at hb
  · rename_i q
    rw [Bool.and_eq_true, decide_eq_true_eq] at q
    obtain ⟨q1, rfl⟩ := q
    unfold isB at q1
    rw [Bool.and_eq_true] at q1
    cases hb
    refine ⟨.ty "ValueError", .type "ValueError", pe_bltn (gl_suite S q1.1) (S.glb.bl _ (of_decide_eq_true q1.2)) (by decide +kernel) rfl (by decide +kernel) (by decide +kernel), fun w z => z, fun i q hi => ?_⟩
    rw [(S.glb.xcl _ _ hi).ve]
    have z : i < T.nm.xn.length := (List.getElem?_eq_some_iff.mp hi).1
    simp [z]
  · split at hb
    · rename_i q
      rw [Bool.and_eq_true] at q
      rw [Option.map_eq_some_iff] at hb
      obtain ⟨e, h1, h2⟩ := hb
      have hm := List.mem_of_find?_eq_some h1
      have hp0 := List.find?_some h1
      have hp := of_decide_eq_true hp0
      obtain ⟨y, js⟩ := e
      subst h2
      have hp : y = c := hp
      subst hp
      obtain ⟨C, e1, e2⟩ := S.glb.hcl _ hm
      exact ⟨.ref C, .ref C, pe_glob (gl_suite S q.1) e1 rfl (okNm_of q.2).1, fun w z => z, fun i q hi => (e2 i q hi).2⟩
    · cases hb
theorem hx_isx (S : SX X T N sc x) (hz : Zc cls d oe) (hf : ∃ vs, oe.data = .fields vs) {y c : Str} {is : List Nat} {p p1 p2 : Pos} (hb : isB T.nm sc "isinstance" = true) (he : isErr N sc x.n y = true) (hk : below T.nm sc c = some is) :
    PE (X.suite a ((a, oe) :: pn)) (.Call (.Name "isinstance" p1) [.Name y p, .Name c p2] [] pos) (rdHE X.K T x a cls d (.isx is)) := by
  obtain ⟨n, en, pv⟩ := hx_err (a := a) (oe := oe) (pn := pn) (p := p) S he
  obtain ⟨u, cv, pc, h1, h2⟩ := below_of (a := a) (oe := oe) (pn := pn) (p := p2) S hk
  unfold isB at hb
  rw [Bool.and_eq_true] at hb
  refine (pe_callB (call_isX hz hf) (gl_suite S hb.1) (S.glb.bl _ (of_decide_eq_true hb.2)) (by decide +kernel) (pa_cons pv (pa_cons pc pa_nil)) (by decide +kernel) (by decide +kernel)).mono fun σ H Q ⟨c, s, ex, rel, hx, hn, xz, hc, r, er, q⟩ => ?_
  unfold hvE at er
  cases er
  obtain ⟨ec, q0, hq, hl, alt⟩ := xz
  refine ⟨.ref a, hn n en, T.xad ex.c, u, cv, _, ec, (S.glb.xcl _ _ hq).xc, ?_, rfl, h1, h2 _ _ hq, q _ _ .refl rel hx _ (dat_bl.mpr rfl)⟩
  rcases alt with ⟨_, e0⟩ | ⟨dd, fl, e1, e2, _⟩
  · exact .inl e0
  · exact .inr ⟨dd, fl, e1, (hid_some e2).2⟩
theorem hx_and {b1 b2 : Expr} {k1 k2 : HE} (h1 : PE (X.suite a ((a, oe) :: pn)) b1 (rdHE X.K T x a cls d k1)) (h2 : PE (X.suite a ((a, oe) :: pn)) b2 (rdHE X.K T x a cls d k2)) : PE (X.suite a ((a, oe) :: pn)) (.BoolOp .And [b1, b2] pos) (rdHE X.K T x a cls d (.and k1 k2)) :=
  (pe_andT h1 (pe_one h2)).mono fun σ H Q ⟨c, s, ex, rel, hx, hn, xz, hc, r, er, q⟩ => by
    unfold hvE at er
    split at er
    · rename_i e1
      exact ⟨c, s, ex, rel, hx, hn, xz, hc, _, e1, fun H' c' x' r' hx' v hv => by
        rw [dat_bl.mp hv]
        refine ⟨true, rfl, ?_⟩
        rw [if_pos rfl]
        exact ⟨c', s, ex, r', hx', hn, by rw [x'.ha]; exact xaOf_mono _ _ _ _ _ _ x'.same xz, hc, r, er, fun H'' c'' x'' => q H'' c'' (x'.trans x'')⟩⟩
    · rename_i e1
      cases er
      exact ⟨c, s, ex, rel, hx, hn, xz, hc, _, e1, fun H' c' x' r' hx' v hv => by
        have hv' := hv
        rw [dat_bl.mp hv]
        refine ⟨false, rfl, ?_⟩
        rw [if_neg Bool.false_ne_true]
        exact q H' c' x' r' hx' _ (dat_bl.mpr rfl)⟩
    · cases er
theorem hx_nil : PA (X.suite a ((a, oe) :: pn)) [] (rdHL X.K T x a cls d []) := pa_nil.mono fun σ H Q ⟨c, s, ex, rel, hx, hn, xz, hc, r, er, q⟩ => by
  unfold hvL at er
  cases er
  exact q _ _ .refl rel hx [] Dats.nil
theorem hx_cons {e : Expr} {es : List Expr} {k : HE} {ks : List HE} (o : okE e = true) (h1 : PE (X.suite a ((a, oe) :: pn)) e (rdHE X.K T x a cls d k)) (h2 : PA (X.suite a ((a, oe) :: pn)) es (rdHL X.K T x a cls d ks)) :
    PA (X.suite a ((a, oe) :: pn)) (e :: es) (rdHL X.K T x a cls d (k :: ks)) := (pa_cons h1 h2 (ok_star o es _)).mono fun σ H Q ⟨c, s, ex, rel, hx, hn, xz, hc, r, er, q⟩ => by
  unfold hvL at er
  split at er
  · rename_i r1 e1
    rw [Option.map_eq_some_iff] at er
    obtain ⟨rs, e2, rfl⟩ := er
    refine ⟨c, s, ex, rel, hx, hn, xz, hc, _, e1, fun H' c' x' r' hx' v hv => ⟨c', s, ex, r', hx', hn, by rw [x'.ha]; exact xaOf_mono _ _ _ _ _ _ x'.same xz, hc, _, e2, fun H'' c'' x'' r'' hx'' vs hvs => q H'' c'' (x'.trans x'') r'' hx'' _ (Dats.cons ?_ hvs)⟩⟩
    rw [show c''.ha = c'.ha from x''.ha]
    exact Dat.mono x''.same _ _ hv
  · cases er
theorem hx_lst {es : List Expr} {ks : List HE} (h : PA (X.suite a ((a, oe) :: pn)) es (rdHL X.K T x a cls d ks)) : PE (X.suite a ((a, oe) :: pn)) (.List es pos) (rdHE X.K T x a cls d (.lst ks)) :=
  (pe_lst h).mono fun σ H Q ⟨c, s, ex, rel, hx, hn, xz, hc, r, er, q⟩ => by
    unfold hvE at er
    rw [Option.bind_eq_some_iff] at er
    obtain ⟨rs, e1, e2⟩ := er
    split at e2
    · rename_i hl
      cases e2
      refine ⟨c, s, ex, rel, hx, hn, xz, hc, _, e1, fun H' c' x' r' hx' vs hvs => ⟨by rw [hvs.length]; exact hl, fun p hp => ?_⟩⟩
      obtain ⟨r2, x2⟩ := r'.new1 (o := .lst vs) hp
      exact q _ c' (x'.trans x2) r2 hx' _ (dat_lst.mpr ⟨p, vs, rfl, hid_mk (r'.fresh hp) upd_same, Dats.mono x2.same _ _ hvs⟩)
    · cases e2
theorem hx_tup {es : List Expr} {ks : List HE} {j : Nat} (h : PA (X.suite a ((a, oe) :: pn)) es (rdHL X.K T x a cls d ks)) : PE (X.suite a ((a, oe) :: pn)) (.Tuple es j pos) (rdHE X.K T x a cls d (.tup ks)) :=
  (pe_tup h).mono fun σ H Q ⟨c, s, ex, rel, hx, hn, xz, hc, r, er, q⟩ => by
    unfold hvE at er
    rw [Option.bind_eq_some_iff] at er
    obtain ⟨rs, e1, e2⟩ := er
    split at e2
    · rename_i hl
      cases e2
      refine ⟨c, s, ex, rel, hx, hn, xz, hc, _, e1, fun H' c' x' r' hx' vs hvs => ⟨by rw [hvs.length]; exact hl, fun p hp => ?_⟩⟩
      obtain ⟨r2, x2⟩ := r'.new1 (o := .tup vs) hp
      exact q _ c' (x'.trans x2) r2 hx' _ (dat_tup.mpr ⟨p, vs, rfl, .inl (.inl (hid_mk (r'.fresh hp) upd_same)), Dats.mono x2.same _ _ hvs⟩)
    · cases e2
theorem cHE_ok (S : SX X T N sc x) (hz : Zc cls d oe) (hf : ∃ vs, oe.data = .fields vs) : ∀ n e h, cHE T.nm N sc x n e = some h → PE (X.suite a ((a, oe) :: pn)) e (rdHE X.K T x a cls d h)
  | 0, _, _, q => by cases q
  | n + 1, e, h, q => by
    have ih := cHE_ok S hz hf n
    have ihl : ∀ {es : List Expr} {ks : List HE}, mapO (fun e => if okE e then cHE T.nm N sc x n e else none) es = some ks → PA (X.suite a ((a, oe) :: pn)) es (rdHL X.K T x a cls d ks) := by
      intro es
      induction es with
      | nil =>
        intro ks hk
        rw [mapO_nil hk]
        exact hx_nil
      | cons e es ihs =>
        intro ks hk
        obtain ⟨m, ms, h1, h2, rfl⟩ := mapO_cons hk
        split at h1
        · rename_i o
          exact hx_cons o (ih _ _ h1) (ihs h2)
        · cases h1
    unfold cHE at q
    split at q
    · cases q; exact hx_k pe_non fun _ _ _ => dat_non.mpr rfl
    · cases q; exact hx_k pe_bl fun _ _ _ => dat_bl.mpr rfl
    · cases q; exact hx_k pe_int fun _ _ _ => dat_int.mpr rfl
    · cases q; exact hx_k pe_str fun _ _ _ => dat_str.mpr rfl
    · split at q
      · rename_i he
        rw [Option.map_eq_some_iff] at q
        obtain ⟨k, h1, rfl⟩ := q
        exact hx_fld S hz hf he h1
      · cases q
    · split at q
      · rename_i he
        simp only [Bool.and_eq_true, decide_eq_true_eq] at he
        obtain ⟨⟨e1, e2⟩, e3⟩ := he
        subst e1
        rw [Option.map_eq_some_iff] at q
        obtain ⟨k, h1, rfl⟩ := q
        exact hx_rpr S hz hf e2 e3 h1
      · cases q
    · split at q
      · rename_i he
        simp only [Bool.and_eq_true, decide_eq_true_eq] at he
        obtain ⟨⟨e1, e2⟩, e3⟩ := he
        subst e1
        rw [Option.map_eq_some_iff] at q
        obtain ⟨k, h1, rfl⟩ := q
        exact hx_isx S hz hf e2 e3 h1
      · cases q
    · simp only [Option.bind_eq_some_iff, Option.map_eq_some_iff] at q
      obtain ⟨m, h1, k, h2, rfl⟩ := q
      exact hx_and (ih _ _ h1) (ih _ _ h2)
    · rw [Option.map_eq_some_iff] at q
      obtain ⟨ks, h1, rfl⟩ := q
      exact hx_lst (ihl h1)
    · rw [Option.map_eq_some_iff] at q
      obtain ⟨ks, h1, rfl⟩ := q
      exact hx_tup (ihl h1)
    · cases q
end
end PD

set_option Elab.async false
set_option linter.all false
set_option maxRecDepth 100000
set_option maxHeartbeats 4000000
/-! PyX5: except suites, try. -/
namespace PD
open PySem PySem.Spec PyProof.Rows L2

def tgN (N : List Str) (sc : Scope) (x : Str) : Option Nat :=
  match sc.names.lookup x with
  | some .local => ixOf N x
  | _ => none
def cHA1 (nm : Nm) (N : List Str) (sc : Scope) (x : Sx) (m : Nat) : Stmt → Option HA
  | .Assign [.Name y _] e _ => if isComp e then none else (tgN N sc y).bind fun i => if x.n = some i then none else (cHE nm N sc x m e).map (.set i)
  | .Return (some e) _ => (cHE nm N sc x m e).map .ret
  | .Pass _ => some .pss
  | .Continue _ => some .cnt
  | .Break _ => some .brk
  | _ => none
section
variable {X : Cx} {T : Tb} {N : List Str} {sc : Scope} {x : Sx} {a : Addr} {cls : Value} {d : Option Addr} {oe : Obj} {pn : List (Addr × Obj)}
theorem ha_ok (S : SX X T N sc x) (hz : Zc cls d oe) (hf : ∃ vs, oe.data = .fields vs) (m : Nat) : ∀ b as, mapO (cHA1 T.nm N sc x m) b = some as → PSs (X.suite a ((a, oe) :: pn)) b (rdHA X.K T x as a cls d)
  | [], as, q => by
    rw [mapO_nil q]
    exact pss_nil.mono fun D σ H ⟨c, s, ex, rel, hx, hn, xz, hc, q⟩ => by
      unfold evHA at q
      exact nx_of rel hx q
  | st' :: b, as, q => by
    obtain ⟨h, hs, h1, h2, rfl⟩ := mapO_cons q
    have ih := ha_ok S hz hf m b hs h2
    unfold cHA1 at h1
    split at h1
    · rename_i y py e pos
      split at h1
      · cases h1
      · rename_i hcp
        rw [Option.bind_eq_some_iff] at h1
        obtain ⟨i, h3, h4⟩ := h1
        split at h4
        · cases h4
        · rename_i hne
          rw [Option.map_eq_some_iff] at h4
          obtain ⟨k, h5, rfl⟩ := h4
          have hi : N[i]? = some y ∧ sc.names.lookup y = some .local := by
            unfold tgN at h3
            split at h3
            · exact ⟨ixOf_at h3, by assumption⟩
            · cases h3
          refine (pss_cons (ps_set (X := X.suite a ((a, oe) :: pn)) (i := i) (by show X.N.Nodup; rw [S.nN]; exact S.nd) (by show X.N[i]? = _; rw [S.nN]; exact hi.1) (.inl (by show X.env.scope.names.lookup y = _; rw [S.sco]; exact hi.2)) (cHE_ok S hz hf m e k h5) (sw_no (Bool.eq_false_iff.mpr hcp) _ _ _) (.inl (S.fn y))) ih).mono fun D σ H ⟨c, s, ex, rel, hx, hn, xz, hc, q⟩ => ?_
          unfold evHA at q
          obtain ⟨r, er, q1⟩ := q.of
          refine ⟨c, s, ex, rel, hx, hn, xz, hc, r, er, fun H' c' x' r' hx' v hv => ?_⟩
          obtain ⟨r2, x2⟩ := r'.store (i := i) hv
          refine ⟨c'.rid i, _, ex, r2, hx', fun n en => ?_, ?_, hc, q1.weak (x'.trans x2).ss⟩
          · rw [List.getElem?_set_ne (fun z => hne (by rw [en, z]))]
            exact hn n en
          · rw [show (c'.rid i).ha = c.ha from (x2.ha).trans x'.ha]
            exact xaOf_mono _ _ _ _ _ _ (x'.same.trans x2.same) xz
    · rename_i e pos
      rw [Option.map_eq_some_iff] at h1
      obtain ⟨k, h5, rfl⟩ := h1
      refine (pss_cons (ps_ret (cHE_ok S hz hf m e k h5)) ih).mono fun D σ H ⟨c, s, ex, rel, hx, hn, xz, hc, q⟩ => ?_
      unfold evHA at q
      obtain ⟨r, er, q1⟩ := q.of
      exact ⟨c, s, ex, rel, hx, hn, xz, hc, r, er, fun H' c' x' r' hx' v hv => q1 σ H' c' x'.ss r' v ⟨hx', hv⟩⟩
    · cases h1
      refine (pss_cons ps_pass ih).mono fun D σ H ⟨c, s, ex, rel, hx, hn, xz, hc, q⟩ => ?_
      unfold evHA at q
      exact ⟨c, s, ex, rel, hx, hn, xz, hc, q⟩
    · cases h1
      refine (pss_cons ps_continue ih).mono fun D σ H ⟨c, s, ex, rel, hx, hn, xz, hc, q⟩ => ?_
      unfold evHA at q
      exact q σ H c .refl rel hx
    · cases h1
      refine (pss_cons ps_break ih).mono fun D σ H ⟨c, s, ex, rel, hx, hn, xz, hc, q⟩ => ?_
      unfold evHA at q
      exact q σ H c .refl rel hx
    · cases h1
end
section
variable {X : Cx} {T : Tb} {N : List Str} {sc : Scope} {W : WX} {w : Nat}
theorem evHA_no_ex {e e' : Exc} : ∀ {as : List HA} {s s' : Stt}, evHA e as s ≠ .ex e' s'
  | [], s, s', h => by unfold evHA at h; cases h
  | .set i k :: as, s, s', h => by
    unfold evHA at h
    cases q : hvE e s k with
    | none => rw [q] at h; cases h
    | some r => rw [q] at h; exact evHA_no_ex h
  | .ret k :: as, s, s', h => by
    unfold evHA at h
    cases q : hvE e s k with
    | none => rw [q] at h; cases h
    | some r => rw [q] at h; cases h
  | .pss :: as, s, s', h => by unfold evHA at h; exact evHA_no_ex h
  | .cnt :: as, s, s', h => by unfold evHA at h; cases h
  | .brk :: as, s, s', h => by unfold evHA at h; cases h
theorem GS.tr (g : GS X T N sc W) {pn : List (Addr × Obj)} {xe : Value → Shared → Prop} {W' : WX} (tk : Takes (X.tr pn xe) W') (ps : PassesOwn (model X.prog X.w) X.A X.env xe) : GS (X.tr pn xe) T N sc W' :=
  ⟨⟨g.nN, g.nd, g.sco, g.calm, g.room, g.gd, tk, g.glb⟩, ps, g.fn, g.stk, g.frm⟩
theorem GS.nox (g : GS X T N sc W) : GS X.nox T N sc (fun _ _ _ _ => False) := ⟨⟨g.nN, g.nd, g.sco, g.calm, g.room, g.gd, takes0, g.glb⟩, PassesOwn.never, g.fn, g.stk, g.frm⟩
theorem GS.sx (g : GS X T N sc W) (x : Sx) : SX X T N sc x := ⟨g.nN, g.nd, g.sco, g.fn, g.gd, g.hu, g.glb⟩
/-- a try whose body raises nothing -/
theorem rs_tryN (g : GS X T N sc W) {b : List Stmt} {mb : List S} {h₀ : ExceptHandler} {hs : List ExceptHandler} {pos : Pos} (hb : PSs X.nox b (rdB X.K T w (fun _ _ _ _ => False) mb)) : PS X (.Try b (h₀ :: hs) [] [] pos) (rdS X.K T w W (.tryN mb)) :=
  (ps_try_thru0 hb).mono fun D σ H ⟨c, s, rel, hx, q⟩ => by
    unfold evS at q
    refine ⟨c, s, rel, hx, ?_⟩
    cases e : evB T.Φ w mb s with
    | ok f s1 => rw [e] at q; exact q
    | ex _ _ => rw [e] at q; exact q.elim
    | bad => rw [e] at q; exact q.elim
/-- the end of a named suite: the name goes -/
theorem Rel.unname {K : Fr} {c : Cf} {s : Stt} {σ : L2.St} {H : Hp} (r : Rel K c s σ H) (i : Nat) : Rel K (c.rid i) (s.put i .no) (σ.set i none) H ∧ XS c H (c.rid i) H :=
  r.rid (i := i) (cl := .no) List.length_set (fun j hj => List.getElem?_set_ne (Ne.symm hj)) celOk_no (fun _ z => by cases z)
theorem Rel.name {K : Fr} {c : Cf} {s : Stt} {σ : L2.St} {H : Hp} (r : Rel K c s σ H) (i : Nat) (v : V) : Rel K (c.rid i) (s.put i .no) (σ.set i (some v)) H ∧ XS c H (c.rid i) H :=
  r.rid (i := i) (cl := .no) List.length_set (fun j hj => List.getElem?_set_ne (Ne.symm hj)) celOk_no (fun _ z => by cases z)
/-- a name after a clause: C its class, is the numbers below it -/
theorem hdl_of (g : GS X T N sc W) {c : Str} {is : List Nat} (hc : (c, is) ∈ T.nm.hn) (gl : Gl X c) (hdb : (c == ("__debug__" : Str)) = false) : ∃ C, Names X c (.ref C) ∧ ∀ {e : Exc} {cls : Value} {d : Option Addr} {H : Hp} {ha : Addr}, xaOf X.K T.nm.xn T.xad e cls d H ha → PySem.W.exmOne X.K cls (.ref C) = some (decide (e.c ∈ is)) := by
  obtain ⟨C, e1, e2⟩ := g.glb.hcl _ hc
  refine ⟨C, ⟨gl, hdb, .inl e1⟩, fun {e cls d H ha} ⟨ec, q, hq, _⟩ => ?_⟩
  rw [ec]
  exact (e2 _ _ hq).1
/-- except C as n: .. -/
theorem rs_tryAs (g : GS X T N sc W) {b : List Stmt} {mb : List S} {c y : Str} {is : List Nat} {i m : Nat} {s0 : Stmt} {su : List Stmt} {as : List HA} {np p2 pos : Pos} (hc : (c, is) ∈ T.nm.hn) (gl : Gl X c) (hdb : (c == ("__debug__" : Str)) = false) (hi : N[i]? = some y) (hy : sc.names.lookup y = some .local)
    (hb : ∀ {X' : Cx} {W' : WX}, X'.K = X.K → GS X' T N sc W' → PSs X' b (rdB X'.K T w W' mb)) (hs : mapO (cHA1 T.nm N sc ⟨is, some i⟩ m) (s0 :: su) = some as) :
    PS X (.Try b [.ExceptHandler (some (.Name c np)) (some y) (s0 :: su) p2] [] [] pos) (rdS X.K T w W (.tryS mb [⟨is, some i, as⟩])) := by
  obtain ⟨C, hC, hx⟩ := hdl_of g hc gl hdb
  refine (ps_try_as (i := i) (c := .ref C) (tb := fun W' => rdB X.K T w W' mb) (ts := rdHA X.K T ⟨is, some i⟩ as) g.stk g.frm (by rw [g.nN]; exact g.nd) (by rw [g.nN]; exact hi) (by show X.env.scope.names.lookup y = _; rw [g.sco]; exact hy) hC g.tk (fun W' pn xe tk ps => hb rfl (g.tr tk ps))
    (fun a oe cls d pn hz hf => ha_ok (g.sx _) hz hf m _ _ hs)).mono fun D σ H ⟨c0, s, rel, hx0, q⟩ => ?_
  unfold evS at q
  refine ⟨c0, s, rel, hx0, ?_⟩
  cases ev : evB T.Φ w mb s with
  | bad => rw [ev] at q; exact q.elim
  | ok f s1 => rw [ev] at q; exact q
  | ex e s1 =>
    rw [ev] at q
    intro cls d σ' H' c' ss rel' hx' xz
    have q := RunS.weak ss q
    unfold evH at q
    rw [g.glb.xa] at xz
    refine ⟨_, hx xz, fun hy a ha => ?_, fun hn => ?_⟩
    · have hy := of_decide_eq_true hy
      simp only [hy, if_true] at q
      obtain ⟨r1, x1⟩ := rel'.name i (.ref a)
      split at q
      · rename_i li
        refine ⟨_, _, e, r1, hx', fun n en => ?_, ?_, hy, ?_⟩
        · cases en
          exact List.getElem?_set_self (by rw [← rel'.len]; exact li)
        · rw [x1.ha]
          exact xaOf_mono _ _ _ _ _ _ x1.same xz
        · have q := RunS.weak x1.ss q
          cases ea : evHA e as (s1.put i .no) with
          | bad => rw [ea] at q; exact q.elim
          | ex _ _ => rw [ea] at q; exact absurd ea evHA_no_ex
          | ok f s2 =>
            rw [ea] at q
            show RunS X.K T.xa (fun _ _ _ _ => False) _ _ (evHA e as _) _
            rw [ea]
            intro σ2 H2 c2 ss2 r2
            obtain ⟨r3, x3⟩ := r2.unname i
            have k := q _ _ _ (ss2.trans x3.ss) r3
            cases f with
            | nx => exact fun hx2 => k hx2
            | bk => exact fun hx2 => k hx2
            | ct => exact fun hx2 => k hx2
            | rt r =>
              intro v hv
              refine k v ?_
              cases r with
              | d y => exact ⟨hv.1, Dat.mono x3.same _ _ hv.2⟩
              | f ys =>
                obtain ⟨p, vs, h1, h2, h3, h4⟩ := hv
                exact ⟨p, vs, h1, h2, h3, Dats.mono x3.same _ _ h4⟩
      · exact q.elim
    · have hn := of_decide_eq_false hn
      simp only [hn, if_false] at q
      unfold evH at q
      exact q cls d σ' H' c' .refl rel' hx' (by rw [g.glb.xa]; exact xz)
/-- except C: .. -/
theorem rs_tryO (g : GS X T N sc W) {b : List Stmt} {mb : List S} {c : Str} {is : List Nat} {m : Nat} {s0 : Stmt} {su : List Stmt} {as : List HA} {np p2 pos : Pos} (hc : (c, is) ∈ T.nm.hn) (gl : Gl X c) (hdb : (c == ("__debug__" : Str)) = false)
    (hb : ∀ {X' : Cx} {W' : WX}, X'.K = X.K → GS X' T N sc W' → PSs X' b (rdB X'.K T w W' mb)) (hs : mapO (cHA1 T.nm N sc ⟨is, none⟩ m) (s0 :: su) = some as) :
    PS X (.Try b [.ExceptHandler (some (.Name c np)) none (s0 :: su) p2] [] [] pos) (rdS X.K T w W (.tryS mb [⟨is, none, as⟩])) := by
  obtain ⟨C, hC, hx⟩ := hdl_of g hc gl hdb
  refine (ps_try_only (c := .ref C) (tb := fun W' => rdB X.K T w W' mb) (ts := rdHA X.K T ⟨is, none⟩ as) g.stk g.frm hC g.tk (fun W' pn xe tk ps => hb rfl (g.tr tk ps))
    (fun a oe cls d pn hz hf => ha_ok (g.sx _) hz hf m _ _ hs)).mono fun D σ H ⟨c0, s, rel, hx0, q⟩ => ?_
  unfold evS at q
  refine ⟨c0, s, rel, hx0, ?_⟩
  cases ev : evB T.Φ w mb s with
  | bad => rw [ev] at q; exact q.elim
  | ok f s1 => rw [ev] at q; exact q
  | ex e s1 =>
    rw [ev] at q
    intro cls d σ' H' c' ss rel' hx' xz
    have q := RunS.weak ss q
    unfold evH at q
    rw [g.glb.xa] at xz
    refine ⟨_, hx xz, fun hy a ha => ?_, fun hn => ?_⟩
    · have hy := of_decide_eq_true hy
      simp only [hy, if_true] at q
      refine ⟨_, _, e, rel', hx', (fun n en => by cases en), xz, hy, ?_⟩
      cases ea : evHA e as s1 with
      | bad => rw [ea] at q; exact q.elim
      | ex _ _ => exact absurd ea evHA_no_ex
      | ok f s2 => rw [ea] at q; show RunS X.K T.xa (fun _ _ _ _ => False) _ _ (evHA e _ _) _; rw [ea]; exact q
    · have hn := of_decide_eq_false hn
      simp only [hn, if_false] at q
      unfold evH at q
      exact q cls d σ' H' c' .refl rel' hx' (by rw [g.glb.xa]; exact xz)
/-- except C: .. except C': .. -/
theorem rs_tryM (g : GS X T N sc W) {b : List Stmt} {mb : List S} {c c' : Str} {is is' : List Nat} {m : Nat} {s0 t0 : Stmt} {su tu : List Stmt} {as as' : List HA} {np p2 np' p2' pos : Pos} (hc : (c, is) ∈ T.nm.hn) (gl : Gl X c) (hdb : (c == ("__debug__" : Str)) = false)
    (hc' : (c', is') ∈ T.nm.hn) (gl' : Gl X c') (hdb' : (c' == ("__debug__" : Str)) = false)
    (hb : ∀ {X' : Cx} {W' : WX}, X'.K = X.K → GS X' T N sc W' → PSs X' b (rdB X'.K T w W' mb)) (hs : mapO (cHA1 T.nm N sc ⟨is, none⟩ m) (s0 :: su) = some as) (hs' : mapO (cHA1 T.nm N sc ⟨is', none⟩ m) (t0 :: tu) = some as') :
    PS X (.Try b [.ExceptHandler (some (.Name c np)) none (s0 :: su) p2, .ExceptHandler (some (.Name c' np')) none (t0 :: tu) p2'] [] [] pos) (rdS X.K T w W (.tryS mb [⟨is, none, as⟩, ⟨is', none, as'⟩])) := by
  obtain ⟨C, hC, hx⟩ := hdl_of g hc gl hdb
  obtain ⟨C', hC', hx'⟩ := hdl_of g hc' gl' hdb'
  refine (ps_try_many (tb := fun W' => rdB X.K T w W' mb) (l := [(.ref C, rdHA X.K T ⟨is, none⟩ as), (.ref C', rdHA X.K T ⟨is', none⟩ as')]) g.stk g.frm g.tk (fun W' pn xe tk ps => hb rfl (g.tr tk ps))
    (.cons hC (fun a oe cls d pn hz hf => ha_ok (g.sx _) hz hf m _ _ hs) (.cons hC' (fun a oe cls d pn hz hf => ha_ok (g.sx _) hz hf m _ _ hs') .nil))).mono fun D σ H ⟨c0, s, rel, hx0, q⟩ => ?_
  unfold evS at q
  refine ⟨c0, s, rel, hx0, ?_⟩
  cases ev : evB T.Φ w mb s with
  | bad => rw [ev] at q; exact q.elim
  | ok f s1 => rw [ev] at q; exact q
  | ex e s1 =>
    rw [ev] at q
    intro cls d σ' H' c' ss rel' hxx xz
    have q := RunS.weak ss q
    unfold evH at q
    rw [g.glb.xa] at xz
    refine ⟨_, hx xz, fun hy a ha => ?_, fun hn => ⟨_, hx' xz, fun hy a ha => ?_, fun hn' => ?_⟩⟩
    · have hy := of_decide_eq_true hy
      simp only [hy, if_true] at q
      refine ⟨_, _, e, rel', hxx, (fun n en => by cases en), xz, hy, ?_⟩
      cases ea : evHA e as s1 with
      | bad => rw [ea] at q; exact q.elim
      | ex _ _ => exact absurd ea evHA_no_ex
      | ok f s2 => rw [ea] at q; show RunS X.K T.xa (fun _ _ _ _ => False) _ _ (evHA e _ _) _; rw [ea]; exact q
    · have hn := of_decide_eq_false hn
      have hy := of_decide_eq_true hy
      unfold evH at q
      simp only [hn, hy, if_true, if_false] at q
      refine ⟨_, _, e, rel', hxx, (fun n en => by cases en), xz, hy, ?_⟩
      cases ea : evHA e as' s1 with
      | bad => rw [ea] at q; exact q.elim
      | ex _ _ => exact absurd ea evHA_no_ex
      | ok f s2 => rw [ea] at q; show RunS X.K T.xa (fun _ _ _ _ => False) _ _ (evHA e _ _) _; rw [ea]; exact q
    · have hn := of_decide_eq_false hn
      have hn' := of_decide_eq_false hn'
      unfold evH evH at q
      simp only [hn, hn', if_false] at q
      exact q cls d σ' H' c' .refl rel' hxx (by rw [g.glb.xa]; exact xz)
end
end PD

set_option Elab.async false
set_option linter.all false
set_option maxRecDepth 100000
set_option maxHeartbeats 4000000
/-! PyX11: the rules for own lists of own rows. -/
namespace PD
open PySem PySem.Spec PyProof.Rows L2

section
variable {K : Fr} {c : Cf} {s : Stt} {σ : L2.St} {H H' : Hp}
theorem Rel.same2 (r : Rel K c s σ H) (h2 : ∀ b o, b ∉ c.y.b → H b = some o → H' b = some o) : Same (hid c.P H) (hid (Cf.P { c with y := ⟨c.y.l, 0, []⟩ }) H') := by
  have pP : ∀ b, Cf.P { c with y := ⟨c.y.l, 0, []⟩ } b → c.P b := fun b z => by
    rcases z with z | z | z | z | z
    · exact .inl z
    · exact .inr (.inl z)
    · exact .inr (.inr (.inl z))
    · exact .inr (.inr (.inr (.inl z)))
    · have z : b ∈ c.y.l ++ [] := z
      rw [List.append_nil] at z
      exact .inr (.inr (.inr (.inr (List.mem_append_left _ z))))
  have hb : ∀ b ∈ c.y.b, c.P b := fun b z => .inr (.inr (.inr (.inr (List.mem_append_right _ z))))
  exact same_hid fun b o n q => ⟨fun z => n (pP b z), h2 b o (fun z => n (hb b z)) q⟩
end
section
variable {X : Cx} {T : Tb} {N : List Str} {sc : Scope} {w : Nat} {W : WX} {pos : Pos}
/-- the statement, the own rows let go ahead of it -/
theorem rs_dm {st : Stmt} {m : S} (i : Nat) (h : PS X st (rdS X.K T w W m)) : PS X st (rdS X.K T w W (.dm i m)) := h.mono fun D σ H ⟨c, s, rel, hx, q⟩ => by
  unfold evS at q
  obtain ⟨c', r', s', hx'⟩ := rel.dem hx i
  exact ⟨c', _, r', hx', q.weak s'⟩
theorem toInts_ints : ∀ xs : List Int, toInts (xs.map D.int) = some xs
  | [] => rfl
  | x :: xs => by show (toInts (xs.map D.int)).map (x :: ·) = _; rw [toInts_ints xs]; rfl
theorem wipe_set1 (σ : L2.St) (j : Nat) (v : Option V) : wipe ((wipe σ [j]).set j v) [j] = wipe σ [j] := by
  show List.set (List.set (List.set σ j none) j v) j none = List.set σ j none
  rw [List.set_set, List.set_set]
theorem rs_six2 (g : GS X T N sc W) {i k1 k2 : Nat} {x y1 y2 : Str} {p1 p2 p3 p4 p5 : Pos} {e : Expr} {m : E} (hi : X.N[i]? = some x) (hv : Vis X.env.scope x) (hd : (x == ("__debug__" : Str)) = false) (hc : (x == ("__classdict__" : Str)) = false)
    (hi1 : X.N[k1]? = some y1) (hv1 : Vis X.env.scope y1) (hd1 : (y1 == ("__debug__" : Str)) = false) (hc1 : (y1 == ("__classdict__" : Str)) = false)
    (hi2 : X.N[k2]? = some y2) (hv2 : Vis X.env.scope y2) (hd2 : (y2 == ("__debug__" : Str)) = false) (hc2 : (y2 == ("__classdict__" : Str)) = false) (he : Snd X T W e m) :
    PS X (.Assign [.Subscript (.Subscript (.Name x p1) (.Name y1 p2) p3) (.Name y2 p4) p5] e pos) (rdS X.K T w W (.six2 i k1 k2 m)) := by
  have hsw : swapsWithSole [.Subscript (.Subscript (.Name x p1) (.Name y1 p2) p3) (.Name y2 p4) p5] e pos.line X.env = pure false := by cases e <;> rfl
  have hst : swappedStores [.Subscript (.Subscript (.Name x p1) (.Name y1 p2) p3) (.Name y2 p4) p5] e X.env = pure none := by cases e <;> rfl
  refine (ps_asg he.ee (pg_sub (pe_ix ix_list (pe_var hi hv hd hc) (pe_var hi1 hv1 hd1 hc1) (fun _ _ => rfl)) (pe_var hi2 hv2 hd2 hc2) set_list (fun _ => rfl)) hsw hst rfl).mono fun D σ H ⟨c, s, rel, hx, q⟩ => ?_
  unfold evS at q
  refine ⟨c, s, rel, hx, (RunS.bind q).mono fun r s1 H1 c1 x1 r1 q1 v hv => ?_⟩
  obtain ⟨r2, x2⟩ := r1.nox
  have hdv := hv.dat r1
  split at q1
  · rename_i xss n1 n2 e0 e1 e2
    obtain ⟨j1, ej1, q2⟩ := q1.of
    obtain ⟨xs, exs, q3⟩ := q2.of
    obtain ⟨j2, ej2, q4⟩ := q3.of
    have qc := r2.cel i
    rw [e0] at qc
    obtain ⟨a, ev, hA, ho, nd, ha, hl, hr⟩ := celOk_own2.mp qc
    obtain ⟨v1, ev1, hv1⟩ := r2.get e1
    have := dat_int.mp hv1
    subst this
    obtain ⟨v2, ev2, hv2⟩ := r2.get e2
    have := dat_int.mp hv2
    subst this
    obtain ⟨b, hb, hvb⟩ := hr _ _ exs
    refine ⟨_, ev, _, ev1, a, _, n1, .ref b, rfl, rfl, SqL.of ha, ?_, _, ev2, b, _, n2, j2, rfl, rfl, hvb, ?_, ?_⟩
    · unfold atI
      rw [List.length_map, ← ixN_eq, hl, ej1]
      show ((_ : List Addr).map V.ref)[j1]? = _
      rw [List.getElem?_map, hb]; rfl
    · rw [List.length_map, ← ixN_eq, ej2]
    · have ub : ∀ b' o, b' ∉ (Cf.y { c1 with x := none }).b → H1 b' = some o → upd H1 b (.lst ((xs.map V.int).set j2 v)) b' = some o := fun b' o z w => by
        rw [upd_ne (fun z' => z (by rw [z']; exact List.mem_of_getElem? hb))]; exact w
      have sm := r2.same2 ub
      obtain ⟨r3, s3⟩ := r2.un2 (ds := (rowsD xss).set j1 (.lst ((xs.map .int).set j2 r.D))) e0 ub (dats_at2 (by rw [List.length_map, List.length_set, rowsD, List.length_map, hl]) fun k v' d h1 h2 => by
        rw [List.getElem?_map, Option.map_eq_some_iff] at h1
        obtain ⟨b', hb', rfl⟩ := h1
        by_cases z : j1 = k
        · subst z
          have lj : j1 < (rowsD xss).length := by
            rw [rowsD, List.length_map]; exact (List.getElem?_eq_some_iff.mp exs).1
          rw [List.getElem?_set_self lj] at h2
          cases h2
          rw [hb] at hb'
          cases hb'
          exact dat_lst.mpr ⟨b, _, rfl, hid_mk (r2.seen2 e0 (List.mem_of_getElem? hb)) upd_same, Dats.set (Dat.mono sm _ _ hdv) j2 (Dats.of_ints xs)⟩
        · rw [List.getElem?_set_ne z, rowsD, List.getElem?_map, Option.map_eq_some_iff] at h2
          obtain ⟨ys, h3, rfl⟩ := h2
          obtain ⟨b2, hb2, hvb2⟩ := hr k ys h3
          rw [hb'] at hb2
          cases hb2
          have nb : b' ≠ b := fun w => by
            subst w
            obtain ⟨l1, g1⟩ := List.getElem?_eq_some_iff.mp hb
            obtain ⟨l2, g2⟩ := List.getElem?_eq_some_iff.mp hb'
            rcases Nat.lt_or_gt_of_ne z with z | z
            · exact List.pairwise_iff_getElem.mp nd.1 j1 k l1 l2 z (g1.trans g2.symm)
            · exact List.pairwise_iff_getElem.mp nd.1 k j1 l2 l1 z (g2.trans g1.symm)
          exact dat_lst.mpr ⟨b', _, rfl, hid_mk (r2.seen2 e0 (List.mem_of_getElem? hb')) (by rw [upd_ne nb]; exact hvb2), Dats.of_ints _⟩)
      exact nx_of r3 rfl (q4.weak (x2.ss.trans s3))
  · exact q1.elim
theorem rs_new2 (g : GS X T N sc W) {i r j : Nat} {x y v : Str} {px p1 p2 p3 pv py cp : Pos} {scope : Scope} (hx : X.N[i]? = some x) (hxl : X.env.scope.names.lookup x = some .local)
    (hy : X.N[r]? = some y) (hyv : Vis X.env.scope y) (hyd : (y == ("__debug__" : Str)) = false) (hyc : (y == ("__classdict__" : Str)) = false) (hvd : (v == ("__debug__" : Str)) = false) (hvc : (v == ("__classdict__" : Str)) = false)
    (hb : isB T.nm (relS scope sc) "list" = true) (ok : BlkOk X.N X.env.scope scope [(v, j)])
    (hv : ∀ s H C cl fp, NmOk (X.blk s H scope (compEnvC scope cl C X.env) fp) v j)
    (hsw : swapsWith (.ListComp (.Call (.Name "list" p1) [.Name v p2] [] p3) [⟨.Name v pv, .Name y py, [], 0⟩] scope cp) (some (.Name x px)) pos.line X.env = pure true) :
    PS X (.Assign [.Name x px] (.ListComp (.Call (.Name "list" p1) [.Name v p2] [] p3) [⟨.Name v pv, .Name y py, [], 0⟩] scope cp) pos) (rdS X.K T w W (.new2 i r j)) := by
  have nd : X.N.Nodup := CompOk.nd g.toGE
  refine (ps_setLc (te := tCB (fun xs H Q => ∃ p ys, xs = [.ref p] ∧ (SqL X.K H p ys ∨ SqT X.K H p ys) ∧ ∀ l, H l = none → Q (.ref l) (upd H l (.lst ys))) (tCons (tVar j) tNil)) g.calm nd hx hxl hsw (pi_list (pe_var hy hyv hyd hyc)) ok (fun s H C cl fp => pg_name (by show X.N.Nodup; exact nd) (hv s H C cl fp).1 (hv s H C cl fp).2.1 (hv s H C cl fp).2.2) (fun s H C cl fp => pts_nil)
    (fun s H C cl fp => by
      obtain ⟨gl, hm⟩ := isB_of (g.toGE.blk s H C cl fp) hb
      refine pe_callTy (T := "list") (call_list_of (X := X.blk s H scope (compEnvC scope cl C X.env) fp)) gl hm (by decide +kernel) (pa_cons (pe_var (hv s H C cl fp).1 ?_ hvd hvc) pa_nil) (by decide +kernel) (by decide +kernel)
      rcases (hv s H C cl fp).2.1 with z | z
      · exact .inl z
      · exact .inr (.inl z))).mono fun D σ H ⟨c, s, rel, hx0, q⟩ => ?_
  unfold evS at q
  split at q
  · rename_i ds er
    obtain ⟨xss, exs, q1⟩ := q.of
    split at q1
    · rename_i hq
      obtain ⟨hi, hj, n2, hz⟩ := hq
      obtain ⟨v0, ev0, hv0⟩ := rel.get er
      have ed := toRows_eq exs
      subst ed
      obtain ⟨a0, vs, rfl, ha0, hds⟩ := dat_lst.mp hv0
      have ha0' : H a0 = some (.lst vs) := (hid_some ha0).2
      have hlen : vs.length = xss.length := by rw [hds.length, rowsD, List.length_map]
      have hrow : ∀ (k : Nat) xs, xss[k]? = some xs → ∃ b, vs[k]? = some (.ref b) ∧ H b = some (.lst (xs.map V.int)) := fun k xs e => by
        obtain ⟨u, eu, hu⟩ := hds.get (i := k) (d := .lst (xs.map .int)) (by rw [rowsD, List.getElem?_map, e]; rfl)
        obtain ⟨b, us, rfl, hb, hus⟩ := dat_lst.mp hu
        have := hus.ints (toInts_ints xs)
        subst this
        exact ⟨b, eu, (hid_some hb).2⟩
      refine ⟨.ref a0, ev0, a0, rfl, ⟨vs, SqL.of ha0'⟩, fun A hA => ?_⟩
      have hjl : j < (wipe σ [j]).length := by rw [wipe_length, ← rel.len]; exact hj
      refine lc_list (K := X.K) (xs := vs) (fun k H' => ∃ bs : List Addr, bs.length = k ∧ bs.Nodup ∧ (∀ b ∈ bs, H b = none ∧ b ≠ A) ∧ (∀ b o, H b = some o → H' b = some o) ∧ H' A = some (.lst (bs.map .ref)) ∧
          (∀ b ∈ bs, H' b ≠ none) ∧ ∀ (k' : Nat) xs, k' < k → xss[k']? = some xs → ∃ b, bs[k']? = some b ∧ H' b = some (.lst (xs.map V.int)))
        ⟨[], rfl, List.nodup_nil, by simp, fun b o z => by rw [upd_ne (ne_of_none z hA)]; exact z, upd_same, by simp, by simp⟩
        (fun k H' _ ⟨bs, _, _, _, e, _⟩ => SqL.of (e _ _ ha0')) (fun k u H' hu ⟨bs, l, bn, bf, e, hA', bs', br⟩ => ?_) (fun H' ⟨bs, l, bn, bf, e, hA', bs', br⟩ => ?_)
      · have hk : k < xss.length := by rw [← hlen]; exact (List.getElem?_eq_some_iff.mp hu).1
        obtain ⟨b0, eb0, hb0⟩ := hrow k xss[k] (List.getElem?_eq_getElem hk)
        rw [hu] at eb0
        cases eb0
        refine ⟨wipe_set1 σ j _, ?_⟩
        unfold tYes
        dsimp only
        rw [if_pos rfl]
        refine ⟨.ref b0, List.getElem?_set_self hjl, b0, _, rfl, .inl (SqL.of (e _ _ hb0)), fun p hp => ?_⟩
        have hpA : p ≠ A := fun z => by rw [z, hA'] at hp; cases hp
        have hpH : H p = none := by
          cases z : H p with
          | none => rfl
          | some o => rw [e _ _ z] at hp; cases hp
        have hpb : p ∉ bs := fun z => bs' p z hp
        refine ⟨bs.map .ref, by rw [upd_ne (Ne.symm hpA)]; exact hA', by rw [List.length_map, l]; omega, bs ++ [p], by rw [List.length_append, l]; rfl, ?_, fun b hb => ?_, fun b o z => ?_, ?_, fun b hb => ?_, fun k' xs h1 h2 => ?_⟩
        · rw [List.nodup_append]
          exact ⟨bn, by simp, fun a ha b hb => by
            have hb := List.mem_singleton.mp hb
            subst hb
            exact fun z => hpb (z ▸ ha)⟩
        · rcases List.mem_append.mp hb with hb | hb
          · exact bf b hb
          · have hb := List.mem_singleton.mp hb
            subst hb
            exact ⟨hpH, hpA⟩
        · rw [upd_ne (ne_of_none z hA), upd_ne (ne_of_none z hpH)]
          exact e _ _ z
        · rw [upd_same, List.map_append]; rfl
        · by_cases w : b = p
          · subst w
            rw [upd_ne hpA, upd_same]; simp
          · have hb' : b ∈ bs := by
              rcases List.mem_append.mp hb with hb | hb
              · exact hb
              · exact absurd (List.mem_singleton.mp hb) w
            rw [upd_ne (bf b hb').2, upd_ne w]
            exact bs' b hb'
        · by_cases w : k' = k
          · subst w
            rw [List.getElem?_eq_getElem hk] at h2
            cases h2
            refine ⟨p, by rw [List.getElem?_append_right (by omega), l]; simp, ?_⟩
            rw [upd_ne hpA, upd_same]
          · obtain ⟨b, hb1, hb2⟩ := br k' xs (by omega) h2
            have hb' := List.mem_of_getElem? hb1
            refine ⟨b, by rw [List.getElem?_append_left (by rw [l]; omega)]; exact hb1, ?_⟩
            rw [upd_ne (bf b hb').2, upd_ne (fun z : b = p => hpb (z ▸ hb'))]
            exact hb2
      · obtain ⟨r1, s1⟩ := rel.new2 hx0 hi n2 e hA bf bn hA' (l.trans hlen) (fun k xs z => br k xs (by rw [hlen]; exact (List.getElem?_eq_some_iff.mp z).1) z)
        exact nx_of r1 hx0 (q1.weak s1)
    · exact q1.elim
  · exact q.elim
theorem evB_if1 {Φ : FEnv} {w : Nat} {m : E} {A : List S} {s : Stt} : evB Φ w [.ifS m A []] s = evS Φ w (.ifS m A []) s := by
  rw [evB]
  cases evS Φ w (.ifS m A []) s with
  | bad => rfl
  | ex e s1 => rfl
  | ok f s1 =>
    cases f with
    | nx =>
      show evB Φ w [] s1 = _
      rw [evB]
    | _ => rfl
/-- if x and e: .., no else -/
theorem rs_ifA {e1 e2 : Expr} {m1 m2 : E} {p2 : Pos} {a : List Stmt} {ma : List S} (h1 : Snd X T W e1 m1) (h2 : Snd X T W e2 m2) (ha : PSs X a (rdB X.K T w W ma)) : PS X (.If (.BoolOp .And [e1, e2] p2) a [] pos) (rdS X.K T w W (.ifS m1 [.ifS m2 ma []] [])) :=
  (ps_if (pw_and h1.tt (pw_and1 h2.tt)).pt ha rb_nil).mono fun D σ H ⟨c, s, rel, hx, q⟩ => by
    unfold evS at q
    refine ⟨c, s, rel, hx, (RunS.bind q).mono fun b s1 H1 c1 x1 r1 q1 hx1 => ?_⟩
    cases b with
    | true =>
      rw [if_pos rfl]
      have q1 : RunS X.K T.xa W c1 H1 (evB T.Φ w [.ifS m2 ma []] s1) (KD X.K D) := q1
      rw [evB_if1] at q1
      unfold evS at q1
      refine ⟨c1, s1, r1, hx1, (RunS.bind q1).mono fun b s2 H2 c2 x2 r2 q2 hx2 => ?_⟩
      cases b with
      | true => exact ⟨c2, s2, r2, hx2, q2⟩
      | false => exact ⟨c2, s2, r2, hx2, q2⟩
    | false =>
      rw [if_neg Bool.false_ne_true]
      exact ⟨c1, s1, r1, hx1, q1⟩
end
end PD

set_option Elab.async false
set_option linter.all false
set_option maxRecDepth 100000
set_option maxHeartbeats 4000000
/-! PyS13: statements of the program into the language, and that it is right. -/
namespace PD
open PySem PySem.Spec PyProof.Rows L2

def swpB (a b : Expr) (px py : Pos) (x y : Str) : Bool := !(x == y) && (py.line == px.line) && !(foldedForSure 8 a && foldedForSure 8 b) && !(constantsAlone 8 a && constantsAlone 8 b) && okE a && okE b
theorem swp_of {a b : Expr} {px py pt : Pos} {kt k2 : Nat} {pt2 : Pos} {x y : Str} {env : Env} (h : swpB a b px py x y = true) (hk : env.scope.kind = .function) (hx : env.scope.names.lookup x = some .local) (hy : env.scope.names.lookup y = some .local) :
    swappedStores [.Tuple [.Name x px, .Name y py] kt pt] (.Tuple [a, b] k2 pt2) env = pure (some [x, y]) := by
  have kx : env.kindOf x = some .local := hx
  have ky : env.kindOf y = some .local := hy
  have hb : env.blockKind = .function := by unfold Env.blockKind; rw [hk]; rfl
  unfold swpB at h
  simp only [Bool.and_eq_true, Bool.not_eq_true'] at h
  obtain ⟨⟨⟨⟨⟨h1, h2⟩, h3⟩, h4⟩, h5⟩, h6⟩ := h
  have ed : ([x, y] : List Str).eraseDups.length = 2 := by
    simp [List.eraseDups_cons, h1, bne, BEq.comm (a := y) (b := x)]
  have st : ([a, b] : List Expr).any (fun | .Starred .. => true | _ => false) = false := by
    cases a <;> first | exact absurd h5 Bool.false_ne_true | (cases b <;> first | exact absurd h6 Bool.false_ne_true | rfl)
  have f1 : ([a, b] : List Expr).all (foldedForSure 8) = false := by simp only [List.all_cons, List.all_nil, Bool.and_true]; exact h3
  have f2 : ([a, b] : List Expr).all (constantsAlone 8) = false := by simp only [List.all_cons, List.all_nil, Bool.and_true]; exact h4
  unfold swappedStores
  simp only [hb, kx, ky, Expr.pos, h2, st, f1, f2, ed, List.filterMap, List.length_cons, List.length_nil, List.head?, Option.map, Option.getD, beq_self_eq_true, Bool.and_self, if_true, if_false, Bool.true_or, Bool.not_true]
  rw [if_neg (by decide)]
  refine (if_neg (fun z => Bool.false_ne_true (st.symm.trans z))).trans ?_
  rw [if_neg (by decide)]
  rfl
def isFn (sc : Scope) : Bool :=
  match sc.kind with
  | .function => true
  | _ => false
theorem isFn_of {sc : Scope} (h : isFn sc = true) : sc.kind = .function := by
  unfold isFn at h
  split at h
  · assumption
  · cases h
def isLo (sc : Scope) (x : Str) : Bool :=
  match sc.names.lookup x with
  | some .local => true
  | _ => false
theorem isLo_of {sc : Scope} {x : Str} (h : isLo sc x = true) : sc.names.lookup x = some .local := by
  unfold isLo at h
  split at h
  · assumption
  · cases h
/-- the target is made first, the comprehension's value goes straight to it -/
def swpC (sc : Scope) (y : Str) (py : Pos) (cp : Pos) (scope : Scope) : Bool :=
  (if sc.kind.isAnnotationScope then ScopeKind.function else sc.kind) == .function && sc.names.lookup y == some .local && py.line == cp.line && !(scope.names.any fun (n, k) => n == y && (k == .local || k == .cell))
/-- x = [list(v) for v in y], x[k1][k2] = e -/
def cAsg2 (nm : Nm) (o2 : List Str) (N : List Str) (r : Scope → Expr → Option E) (sc : Scope) (tg e : Expr) : Option S :=
  match tg with
  | .Name x px => match e with
    | .ListComp (.Call (.Name f _) [.Name v _] [] _) [⟨.Name v' _, .Name y _, [], n⟩] scope cp =>
      if x ∈ o2 then (if f = "list" then (if v' = v then (if n = 0 then (if swpC sc x px cp scope && isLo sc x && okNm v && isB nm (relS scope sc) "list" then
        (ixOf N x).bind fun i => (slotOf N sc y).bind fun k => (tgB1 N scope v).bind fun j => if ownOf N scope = [(v, j)] then (if blkC N sc scope (ownOf N scope) then some (.new2 i k j) else none) else none
        else none) else none) else none) else none) else none
    | _ => none
  | .Subscript (.Subscript (.Name x _) (.Name y1 _) _) (.Name y2 _) _ =>
    if x ∈ o2 then (slotOf N sc x).bind fun i => (slotOf N sc y1).bind fun k1 => (slotOf N sc y2).bind fun k2 => (r sc e).map fun m => .six2 i k1 k2 m else none
  | _ => none
/-- a name stored to, whose own rows are let go ahead -/
def tgDm (o2 : List Str) (N : List Str) (sc : Scope) (tg : Expr) : Option Nat :=
  match tg with
  | .Name x _ => if x ∈ o2 then slotOf N sc x else none
  | .Subscript (.Name x _) _ _ => if x ∈ o2 then slotOf N sc x else none
  | _ => none
def dmW (i : Option Nat) (m : S) : S :=
  match i with
  | some i => .dm i m
  | none => m
def cAsg (nm : Nm) (N : List Str) (r : Scope → Expr → Option E) (sc : Scope) (tg e : Expr) : Option S :=
  match tg with
  | .Name y py => match e with
    | .ListComp elt [⟨t, iter, ifs, n⟩] scope cp =>
      if swpC sc y py cp scope then
        if n = 0 && isLo sc y then (ixOf N y).bind fun i => (cComp nm N r sc elt t iter ifs scope).map fun m => .set (.nm i) m else none
      else (tgB1 N sc y).bind fun i => (r sc e).map fun m => .set (.nm i) m
    | _ => if isComp e then none else (tgB1 N sc y).bind fun i => (r sc e).map fun m => .set (.nm i) m
  | .Tuple es _ _ => match e with
    | .Tuple vs _ _ => match es, vs with
      | [.Name x px, .Name y py], [a, b] =>
        if swpB a b px py x y && isFn sc && isLo sc x && isLo sc y then (ixOf N x).bind fun i => (ixOf N y).bind fun j => (r sc a).bind fun ma => (r sc b).bind fun mb => if i = j then none else some (.par i j ma mb)
        else none
      | _, _ => none
    | _ => if isComp e then none else (cTg (tgB1 N sc) tg).bind fun t => (r sc e).map fun m => .set t m
  | .Subscript (.Name x _) k _ => if okE k then (slotOf N sc x).bind fun i => (r sc k).bind fun mk => (r sc e).map fun m => .six i mk m else none
  | _ => none
def cExp (N : List Str) (r : Scope → Expr → Option E) (sc : Scope) (e : Expr) : Option S :=
  match e with
  | .Call (.Attribute (.Name x _) mt p2) [a] [] cp =>
    if okE a && (p2.endLine == cp.line) then
      if mt = "append" then (slotOf N sc x).bind fun i => (r sc a).map fun m => .app i m
      else if mt = "extend" then (slotOf N sc x).bind fun i => (r sc a).map fun m => .ext i m
      else none
    else none
  | _ => if isComp e then none else (r sc e).map fun m => .exp m
def cRet (N : List Str) (r : Scope → Expr → Option E) (sc : Scope) (e : Expr) : Option S :=
  match e with
  | .Name x _ => (slotOf N sc x).map fun i => .ret (.var i)
  | _ => (r sc e).bind fun m => if isVar m then none else some (.ret m)
/-- raise C(..): a class of the table, or nothing is told of it -/
def cRse (nm : Nm) (r : Scope → Expr → Option E) (sc : Scope) (e : Expr) : Option S :=
  match e with
  | .Call (.Name x _) es [] _ =>
    match nm.xn.findIdx? fun q => decide (q.1 = x) with
    | none => some .bad
    | some i => if isGl sc x && okNm x && decide ((nm.xn[i]?.map fun q => q.2.length) = some es.length) then (cArgs (r sc) es).map fun ms => .rse i ms else none
  | _ => some .bad
/-- the classes that a clause takes -/
def cHn (nm : Nm) (sc : Scope) (c : Str) : Option (List Nat) := if isGl sc c && okNm c then (nm.hn.find? fun e => decide (e.1 = c)).map (·.2) else none
def cHds (nm : Nm) (N : List Str) (sc : Scope) (n : Nat) : List ExceptHandler → Option (List Hd)
  | [.ExceptHandler (some (.Name c _)) (some y) (s0 :: su) _] => (cHn nm sc c).bind fun is => (tgN N sc y).bind fun i => (mapO (cHA1 nm N sc ⟨is, some i⟩ n) (s0 :: su)).map fun as => [⟨is, some i, as⟩]
  | [.ExceptHandler (some (.Name c _)) none (s0 :: su) _] => (cHn nm sc c).bind fun is => (mapO (cHA1 nm N sc ⟨is, none⟩ n) (s0 :: su)).map fun as => [⟨is, none, as⟩]
  | [.ExceptHandler (some (.Name c _)) none (s0 :: su) _, .ExceptHandler (some (.Name c' _)) none (t0 :: tu) _] =>
    (cHn nm sc c).bind fun is => (cHn nm sc c').bind fun is' => (mapO (cHA1 nm N sc ⟨is, none⟩ n) (s0 :: su)).bind fun as => (mapO (cHA1 nm N sc ⟨is', none⟩ n) (t0 :: tu)).map fun as' => [⟨is, none, as⟩, ⟨is', none, as'⟩]
  | _ => none
def cTry (nm : Nm) (N : List Str) (rb : List Stmt → Option (List S)) (sc : Scope) (n : Nat) (b : List Stmt) (hs : List ExceptHandler) : Option S :=
  match cHds nm N sc n hs with
  | some l => (rb b).map fun mb => .tryS mb l
  | none => match hs with
    | [] => none
    | _ :: _ => (rb b).map fun mb => .tryN mb
def stepS (nm : Nm) (o2 : List Str) (N : List Str) (r : Scope → Expr → Option E) (rb : List Stmt → Option (List S)) (sc : Scope) (st' : Stmt) : Option S :=
  match st' with
  | .Assign [tg] e _ => (match cAsg2 nm o2 N r sc tg e with
    | some m => some m
    | none => (cAsg nm N r sc tg e).map (dmW (tgDm o2 N sc tg)))
  | .Expr e _ => cExp N r sc e
  | .Return none _ => some .retN
  | .Return (some e) _ => (cRet N r sc e).map (dmW (tgDm o2 N sc e))
  | .If (.BoolOp .And [.Name x px, e2] _) a [] _ => (r sc (.Name x px)).bind fun m => (r sc e2).bind fun m2 => (rb a).map fun y => .ifS m [.ifS m2 y []] []
  | .If c a b _ => (r sc c).bind fun m => (rb a).bind fun x => (rb b).map fun y => .ifS m x y
  | .For tg iter body [] _ => if okE iter then (cTg (tgB1 N sc) tg).bind fun t => (cSrc nm sc (r sc) tg iter).bind fun k => (rb body).map fun b => .forS t k.1 k.2 b else none
  | .While c body [] _ => (r sc c).bind fun m => (rb body).map fun b => .whl m b
  | .AugAssign (.Name x _) .Add e _ => (tgB1 N sc x).bind fun i => (r sc e).map fun m => .aug i .Add m
  | .AugAssign (.Name x _) .Sub e _ => (tgB1 N sc x).bind fun i => (r sc e).map fun m => .aug i .Sub m
  | .AugAssign (.Subscript (.Name x _) k _) .Add e _ => if okE k then (slotOf N sc x).bind fun i => (r sc k).bind fun mk => (r sc e).map fun m => .sixa i .Add mk m else none
  | .AugAssign (.Subscript (.Name x _) k _) .Sub e _ => if okE k then (slotOf N sc x).bind fun i => (r sc k).bind fun mk => (r sc e).map fun m => .sixa i .Sub mk m else none
  | .Pass _ => some .pss
  | .Break _ => some .brk
  | .Continue _ => some .cnt
  | .Raise (some e) none _ => cRse nm r sc e
  | .Raise _ _ _ => some .bad
  | .Try b hs [] [] _ => cTry nm N rb sc 20 b hs
  | _ => none
def compB (nm : Nm) (o2 : List Str) (N : List Str) (r : Scope → Expr → Option E) (sc : Scope) : Nat → List Stmt → Option (List S)
  | 0 => fun _ => none
  | n + 1 => mapO (stepS nm o2 N r (compB nm o2 N r sc n) sc)
/-- the names x with a store x[..][..] = .. -/
def o2E : Expr → List Str
  | .Subscript (.Subscript (.Name x _) _ _) _ _ => [x]
  | _ => []
def o2B : Nat → List Stmt → List Str
  | 0, _ => []
  | n + 1, b => b.flatMap fun
    | .Assign [tg] _ _ => o2E tg
    | .If _ x y _ => o2B n x ++ o2B n y
    | .For _ _ x _ _ => o2B n x
    | .While _ x _ _ => o2B n x
    | .Try x _ _ _ _ => o2B n x
    | _ => []

section
variable {X : Cx} {T : Tb} {N : List Str} {sc : Scope} {W : WX} {w : Nat}
theorem slot_of {x : Str} {i : Nat} (g : GE X T N sc W) (h : slotOf N sc x = some i) : X.N[i]? = some x ∧ Vis X.env.scope x ∧ (x == ("__debug__" : Str)) = false ∧ (x == ("__classdict__" : Str)) = false := by
  unfold slotOf at h
  split at h
  · rename_i q
    rw [Bool.and_eq_true] at q
    obtain ⟨d1, d2⟩ := okNm_of q.2
    exact ⟨by rw [g.nN]; exact ixOf_at h, by rw [g.sco]; exact vis_of q.1, d1, d2⟩
  · cases h
theorem nmD_ok (g : GS X T N sc W) {x : Str} {i : Nat} (h : tgB1 N sc x = some i) : NmOk X x i := by
  unfold tgB1 at h
  split at h
  · rename_i q
    exact ⟨by rw [g.nN]; exact ixOf_at h, .inl (by rw [g.sco]; exact q), .inl (g.fn x)⟩
  · rename_i q
    exact ⟨by rw [g.nN]; exact ixOf_at h, .inr (by rw [g.sco]; exact q), .inl (g.fn x)⟩
  · cases h
theorem swC_of (g : GS X T N sc W) {elt : Expr} {gs : List Comprehension} {scope : Scope} {pos py : Pos} {y : Str} {l : Nat} : swapsWith (.ListComp elt gs scope pos) (some (.Name y py)) l X.env = pure (swpC sc y py pos scope) := by
  rw [← g.sco]; rfl
theorem h1_nm {y : Str} {py : Pos} {env : Env} : (assignEach [.Name y py] env).map (·.2) = [assign (.Name y py) env] := rfl
theorem h1_tp {es : List Expr} {k : Nat} {py : Pos} {env : Env} : (assignEach [.Tuple es k py] env).map (·.2) = [assign (.Tuple es k py) env] := rfl
theorem cAsg_ok {r : Scope → Expr → Option E} (hr : RtE T N r) (g : GS X T N sc W) {tg e : Expr} {pos : Pos} {m : S} (h : cAsg T.nm N r sc tg e = some m) : PS X (.Assign [tg] e pos) (rdS X.K T w W m) := by
  have re : ∀ e m, r sc e = some m → Snd X T W e m := fun e m q => (hr _ _ _ q).2 X W g.toGE
  have plain : ∀ {y : Str} {py : Pos} {e : Expr} {m : S}, swapsWith e (some (.Name y py)) pos.line X.env = pure false → ((tgB1 N sc y).bind fun i => (r sc e).map fun m => S.set (.nm i) m) = some m → PS X (.Assign [.Name y py] e pos) (rdS X.K T w W m) := fun {y py e m} hs h => by
    rw [Option.bind_eq_some_iff] at h
    obtain ⟨i, h1, h2⟩ := h
    rw [Option.map_eq_some_iff] at h2
    obtain ⟨m', h3, rfl⟩ := h2
    exact rs_set g (.nm (nmD_ok g h1)) (re _ _ h3) hs (by cases e <;> rfl) h1_nm
  unfold cAsg at h
  split at h
  · rename_i y py
    split at h
    · rename_i elt t iter ifs n scope cp
      split at h
      · rename_i hs
        split at h
        · rename_i hn
          rw [Bool.and_eq_true] at hn
          have n0 : n = 0 := of_decide_eq_true hn.1
          subst n0
          rw [Option.bind_eq_some_iff] at h
          obtain ⟨i, h1, h2⟩ := h
          rw [Option.map_eq_some_iff] at h2
          obtain ⟨m', h3, rfl⟩ := h2
          obtain ⟨own, t', k, ms, mc, me, rfl, hc⟩ := cComp_ok hr g.toGE h3
          exact rs_setLc g hc (by rw [g.nN]; exact ixOf_at h1) (by rw [g.sco]; exact isLo_of hn.2) (by rw [swC_of g, hs])
        · cases h
      · rename_i hs
        exact plain (by rw [swC_of g, Bool.eq_false_iff.mpr hs]) h
    · rename_i hnc
      split at h
      · cases h
      · rename_i hs
        exact plain (sw_no (Bool.eq_false_iff.mpr hs) _ _ _) h
  · rename_i es k tp
    split at h
    · rename_i vs k2 vp
      split at h
      · rename_i x px y py a b
        split at h
        · rename_i hq
          simp only [Bool.and_eq_true] at hq
          simp only [Option.bind_eq_some_iff] at h
          obtain ⟨i, h1, j, h2, ma, h3, mb, h4, h5⟩ := h
          split at h5
          · cases h5
          · rename_i hij
            cases h5
            have hx : X.env.scope.names.lookup x = some .local := by rw [g.sco]; exact isLo_of hq.1.2
            have hy : X.env.scope.names.lookup y = some .local := by rw [g.sco]; exact isLo_of hq.2
            have o := hq.1.1.1
            unfold swpB at o
            simp only [Bool.and_eq_true] at o
            exact rs_par g (by rw [g.nN]; exact ixOf_at h1) (by rw [g.nN]; exact ixOf_at h2) hij hx hy ⟨o.1.2, re _ _ h3, o.2, re _ _ h4, trivial⟩ (swp_of hq.1.1.1 (by rw [g.sco]; exact isFn_of hq.1.1.2) hx hy)
        · cases h
      · cases h
    · rename_i hnt
      split at h
      · cases h
      · rename_i hs
        rw [Option.bind_eq_some_iff] at h
        obtain ⟨t, h1, h2⟩ := h
        rw [Option.map_eq_some_iff] at h2
        obtain ⟨m', h3, rfl⟩ := h2
        refine rs_set g (tgOk_of (fun x i q => nmD_ok g q) h1) (re _ _ h3) (sw_no (Bool.eq_false_iff.mpr hs) _ _ _) ?_ h1_tp
        cases e <;> first | rfl | exact absurd rfl (hnt _ _ _)
  · rename_i x p1 k p2
    split at h
    · rename_i ok
      simp only [Option.bind_eq_some_iff, Option.map_eq_some_iff] at h
      obtain ⟨i, h1, mk, h2, m', h3, rfl⟩ := h
      obtain ⟨a1, a2, a3, a4⟩ := slot_of g.toGE h1
      exact rs_six g a1 a2 a3 a4 ok (re _ _ h2) (re _ _ h3)
    · cases h
  · cases h
theorem cExp_ok {r : Scope → Expr → Option E} (hr : RtE T N r) (g : GS X T N sc W) {e : Expr} {pos : Pos} {m : S} (h : cExp N r sc e = some m) : PS X (.Expr e pos) (rdS X.K T w W m) := by
  have re : ∀ e m, r sc e = some m → Snd X T W e m := fun e m q => (hr _ _ _ q).2 X W g.toGE
  unfold cExp at h
  split at h
  · rename_i x p1 mt p2 a cp
    split at h
    · rename_i hq
      rw [Bool.and_eq_true] at hq
      split at h
      · rename_i em
        subst em
        simp only [Option.bind_eq_some_iff, Option.map_eq_some_iff] at h
        obtain ⟨i, h1, m', h3, rfl⟩ := h
        obtain ⟨a1, a2, a3, a4⟩ := slot_of g.toGE h1
        exact rs_app g a1 a2 a3 a4 hq.2 hq.1 (re _ _ h3)
      · split at h
        · rename_i em
          subst em
          simp only [Option.bind_eq_some_iff, Option.map_eq_some_iff] at h
          obtain ⟨i, h1, m', h3, rfl⟩ := h
          obtain ⟨a1, a2, a3, a4⟩ := slot_of g.toGE h1
          exact rs_ext g a1 a2 a3 a4 hq.2 hq.1 (re _ _ h3)
        · cases h
    · cases h
  · split at h
    · cases h
    · rename_i hs
      rw [Option.map_eq_some_iff] at h
      obtain ⟨m', h3, rfl⟩ := h
      exact rs_exp (re _ _ h3) (Bool.eq_false_iff.mpr hs)
theorem cRet_ok {r : Scope → Expr → Option E} (hr : RtE T N r) (g : GS X T N sc W) {e : Expr} {pos : Pos} {m : S} (h : cRet N r sc e = some m) : PS X (.Return (some e) pos) (rdS X.K T w W m) := by
  have re : ∀ e m, r sc e = some m → Snd X T W e m := fun e m q => (hr _ _ _ q).2 X W g.toGE
  unfold cRet at h
  split at h
  · rw [Option.map_eq_some_iff] at h
    obtain ⟨i, h1, rfl⟩ := h
    obtain ⟨a1, a2, a3, a4⟩ := slot_of g.toGE h1
    exact rs_retV a1 a2 a3 a4
  · rw [Option.bind_eq_some_iff] at h
    obtain ⟨m', h3, h4⟩ := h
    split at h4
    · cases h4
    · rename_i hv
      cases h4
      exact rs_ret (re _ _ h3) (Bool.eq_false_iff.mpr hv)
theorem cRse_ok {r : Scope → Expr → Option E} (hr : RtE T N r) (g : GS X T N sc W) {e : Expr} {pos : Pos} {m : S} (h : cRse T.nm r sc e = some m) : PS X (.Raise (some e) none pos) (rdS X.K T w W m) := by
  have re : ∀ e m, r sc e = some m → Snd X T W e m := fun e m q => (hr _ _ _ q).2 X W g.toGE
  unfold cRse at h
  split at h
  · rename_i x p es p2
    split at h
    · cases h; exact rs_bad
    · rename_i i hi
      split at h
      · rename_i hq
        simp only [Bool.and_eq_true, decide_eq_true_eq] at hq
        obtain ⟨⟨h1, h2⟩, h3⟩ := hq
        rw [Option.map_eq_some_iff] at h
        obtain ⟨ms, h4, rfl⟩ := h
        obtain ⟨li, hp, _⟩ := List.findIdx?_eq_some_iff_getElem.mp hi
        have hx := of_decide_eq_true hp
        have hg : T.nm.xn[i]? = some T.nm.xn[i] := List.getElem?_eq_getElem li
        rw [hg] at h3
        have hl := Option.some.inj h3
        refine rs_rse (fs := T.nm.xn[i].2) g ?_ hl.symm (g.gl h1) (okNm_of h2).1 (sndL_of re h4)
        rw [hg, ← hx]
      · cases h
  · cases h; exact rs_bad
/-- what is proved of a compiler of bodies -/
def RtB (T : Tb) (N : List Str) (sc : Scope) (w : Nat) (rb : List Stmt → Option (List S)) : Prop := ∀ X W, GS X T N sc W → ∀ b m, rb b = some m → PSs X b (rdB X.K T w W m)
theorem cHn_of (g : GS X T N sc W) {c : Str} {is : List Nat} (h : cHn T.nm sc c = some is) : (c, is) ∈ T.nm.hn ∧ Gl X c ∧ (c == ("__debug__" : Str)) = false := by
  unfold cHn at h
  split at h
  · rename_i q
    rw [Bool.and_eq_true] at q
    rw [Option.map_eq_some_iff] at h
    obtain ⟨e, h1, h2⟩ := h
    have hm := List.mem_of_find?_eq_some h1
    have hp0 := List.find?_some h1
    have hp := of_decide_eq_true hp0
    obtain ⟨y, js⟩ := e
    subst h2
    have hp : y = c := hp
    subst hp
    exact ⟨hm, g.gl q.1, (okNm_of q.2).1⟩
  · cases h
theorem tgN_of {N : List Str} {sc : Scope} {y : Str} {i : Nat} (h : tgN N sc y = some i) : N[i]? = some y ∧ sc.names.lookup y = some .local := by
  unfold tgN at h
  split at h
  · exact ⟨ixOf_at h, by assumption⟩
  · cases h
theorem cTry_ok (g : GS X T N sc W) {rb : List Stmt → Option (List S)} (hb : RtB T N sc w rb) {n : Nat} {b : List Stmt} {hs : List ExceptHandler} {pos : Pos} {m : S} (h : cTry T.nm N rb sc n b hs = some m) : PS X (.Try b hs [] [] pos) (rdS X.K T w W m) := by
  unfold cTry at h
  split at h
  · rename_i l hl
    rw [Option.map_eq_some_iff] at h
    obtain ⟨mb, h1, rfl⟩ := h
    have hbb : ∀ {X' : Cx} {W' : WX}, X'.K = X.K → GS X' T N sc W' → PSs X' b (rdB X'.K T w W' mb) := fun _ g' => hb _ _ g' _ _ h1
    unfold cHds at hl
    split at hl
    · simp only [Option.bind_eq_some_iff, Option.map_eq_some_iff] at hl
      obtain ⟨is, h2, i, h3, as, h4, rfl⟩ := hl
      obtain ⟨a1, a2, a3⟩ := cHn_of g h2
      obtain ⟨b1, b2⟩ := tgN_of h3
      exact rs_tryAs g a1 a2 a3 b1 b2 hbb h4
    · simp only [Option.bind_eq_some_iff, Option.map_eq_some_iff] at hl
      obtain ⟨is, h2, as, h4, rfl⟩ := hl
      obtain ⟨a1, a2, a3⟩ := cHn_of g h2
      exact rs_tryO g a1 a2 a3 hbb h4
    · simp only [Option.bind_eq_some_iff, Option.map_eq_some_iff] at hl
      obtain ⟨is, h2, is', h3, as, h4, as', h5, rfl⟩ := hl
      obtain ⟨a1, a2, a3⟩ := cHn_of g h2
      obtain ⟨c1, c2, c3⟩ := cHn_of g h3
      exact rs_tryM g a1 a2 a3 c1 c2 c3 hbb h4 h5
    · cases hl
  · split at h
    · cases h
    · rw [Option.map_eq_some_iff] at h
      obtain ⟨mb, h1, rfl⟩ := h
      exact rs_tryN g (hb _ _ g.nox _ _ h1)
theorem dmW_ok {st' : Stmt} {m m' : S} {o : Option S} {i : Option Nat} (h : o.map (dmW i) = some m) (k : ∀ m, o = some m → PS X st' (rdS X.K T w W m)) : PS X st' (rdS X.K T w W m) := by
  rw [Option.map_eq_some_iff] at h
  obtain ⟨m0, h1, rfl⟩ := h
  cases i with
  | none => exact k _ h1
  | some i => exact rs_dm i (k _ h1)
theorem cAsg2_ok {o2 : List Str} {r : Scope → Expr → Option E} (hr : RtE T N r) (g : GS X T N sc W) {tg e : Expr} {pos : Pos} {m : S} (h : cAsg2 T.nm o2 N r sc tg e = some m) : PS X (.Assign [tg] e pos) (rdS X.K T w W m) := by
  have re : ∀ e m, r sc e = some m → Snd X T W e m := fun e m q => (hr _ _ _ q).2 X W g.toGE
  unfold cAsg2 at h
  split at h
  · rename_i x px
    split at h
    · rename_i f p1 v p2 p3 v' pv y py n scope cp
      split at h
      · split at h
        · rename_i e1
          subst e1
          split at h
          · rename_i e2
            subst e2
            split at h
            · rename_i e3
              subst e3
              split at h
              · rename_i hq
                simp only [Bool.and_eq_true] at hq
                obtain ⟨⟨⟨q1, q2⟩, q3⟩, q4⟩ := hq
                simp only [Option.bind_eq_some_iff] at h
                obtain ⟨i, h1, k, h2, j, h3, h4⟩ := h
                split at h4
                · rename_i e4
                  split at h4
                  · rename_i hb
                    cases h4
                    obtain ⟨a1, a2, a3, a4⟩ := slot_of g.toGE h2
                    obtain ⟨b1, b2⟩ := okNm_of q3
                    exact rs_new2 g (by rw [g.nN]; exact ixOf_at h1) (by rw [g.sco]; exact isLo_of q2) a1 a2 a3 a4 b1 b2 q4 (by rw [g.nN, g.sco, ← e4]; exact blkOk_by hb)
                      (fun s H C cl fp => nmB_ok g.toGE h3 s H C cl fp) (by rw [swC_of g, q1])
                  · cases h4
                · cases h4
              · cases h
            · cases h
          · cases h
        · cases h
      · cases h
    · cases h
  · rename_i x p1 y1 p2 p3 y2 p4 p5
    split at h
    · simp only [Option.bind_eq_some_iff, Option.map_eq_some_iff] at h
      obtain ⟨i, h1, k1, h2, k2, h3, m', h4, rfl⟩ := h
      obtain ⟨a1, a2, a3, a4⟩ := slot_of g.toGE h1
      obtain ⟨b1, b2, b3, b4⟩ := slot_of g.toGE h2
      obtain ⟨c1, c2, c3, c4⟩ := slot_of g.toGE h3
      exact rs_six2 g a1 a2 a3 a4 b1 b2 b3 b4 c1 c2 c3 c4 (re _ _ h4)
    · cases h
  · cases h
theorem stepS_ok {o2 : List Str} {r : Scope → Expr → Option E} (hr : RtE T N r) (g : GS X T N sc W) {rb : List Stmt → Option (List S)} (hB : RtB T N sc w rb) {st' : Stmt} {m : S} (h : stepS T.nm o2 N r rb sc st' = some m) : PS X st' (rdS X.K T w W m) := by
  have re : ∀ e m, r sc e = some m → Snd X T W e m := fun e m q => (hr _ _ _ q).2 X W g.toGE
  have hb : ∀ b m, rb b = some m → PSs X b (rdB X.K T w W m) := hB X W g
  unfold stepS at h
  split at h
  · split at h
    · rename_i h2
      cases h
      exact cAsg2_ok hr g h2
    · exact dmW_ok (m' := m) h fun _ q => cAsg_ok hr g q
  · exact cExp_ok hr g h
  · cases h; exact rs_retN
  · exact dmW_ok (m' := m) h fun _ q => cRet_ok hr g q
  · simp only [Option.bind_eq_some_iff, Option.map_eq_some_iff] at h
    obtain ⟨m1, h1, m2, h2, y, h3, rfl⟩ := h
    exact rs_ifA (re _ _ h1) (re _ _ h2) (hb _ _ h3)
  · simp only [Option.bind_eq_some_iff, Option.map_eq_some_iff] at h
    obtain ⟨m', h1, x, h2, y, h3, rfl⟩ := h
    exact rs_if (re _ _ h1) (hb _ _ h2) (hb _ _ h3)
  · split at h
    · rename_i ho
      simp only [Option.bind_eq_some_iff, Option.map_eq_some_iff] at h
      obtain ⟨t, h1, ⟨k, ms⟩, h2, y, h3, rfl⟩ := h
      exact rs_for g (cSrc_ok g.toGE re h2) (tgOk_of (fun x i q => nmD_ok g q) h1) ho (hb _ _ h3)
    · cases h
  · simp only [Option.bind_eq_some_iff, Option.map_eq_some_iff] at h
    obtain ⟨m', h1, x, h2, rfl⟩ := h
    exact rs_whl g (re _ _ h1) (hb _ _ h2)
  · simp only [Option.bind_eq_some_iff, Option.map_eq_some_iff] at h
    obtain ⟨i, h1, m', h2, rfl⟩ := h
    obtain ⟨a1, a2, _⟩ := nmD_ok g h1
    exact rs_aug g a1 a2 (.inl rfl) (re _ _ h2)
  · simp only [Option.bind_eq_some_iff, Option.map_eq_some_iff] at h
    obtain ⟨i, h1, m', h2, rfl⟩ := h
    obtain ⟨a1, a2, _⟩ := nmD_ok g h1
    exact rs_aug g a1 a2 (.inr rfl) (re _ _ h2)
  · split at h
    · rename_i ok
      simp only [Option.bind_eq_some_iff, Option.map_eq_some_iff] at h
      obtain ⟨i, h1, mk, h2, m', h3, rfl⟩ := h
      obtain ⟨a1, a2, a3, a4⟩ := slot_of g.toGE h1
      exact rs_sixa g (.inl rfl) a1 a2 a3 a4 ok (re _ _ h2) (re _ _ h3)
    · cases h
  · split at h
    · rename_i ok
      simp only [Option.bind_eq_some_iff, Option.map_eq_some_iff] at h
      obtain ⟨i, h1, mk, h2, m', h3, rfl⟩ := h
      obtain ⟨a1, a2, a3, a4⟩ := slot_of g.toGE h1
      exact rs_sixa g (.inr rfl) a1 a2 a3 a4 ok (re _ _ h2) (re _ _ h3)
    · cases h
  · cases h; exact rs_pass
  · cases h; exact rs_brk
  · cases h; exact rs_cnt
  · exact cRse_ok hr g h
  · cases h; exact rs_bad
  · exact cTry_ok g hB h
  · cases h
theorem compB_ok {T : Tb} {o2 N : List Str} {sc : Scope} {w : Nat} {r : Scope → Expr → Option E} (hr : RtE T N r) : ∀ n, RtB T N sc w (compB T.nm o2 N r sc n)
  | 0 => fun _ _ _ _ _ h => by cases h
  | n + 1 => fun X W g b => by
    induction b with
    | nil =>
      intro m h
      have e := mapO_nil h
      subst e
      exact rb_nil
    | cons a b ih =>
      intro m h
      obtain ⟨x, y, h1, h2, rfl⟩ := mapO_cons h
      exact rb_cons (stepS_ok hr g (compB_ok hr n) h1) (ih _ h2)
end
end PD

set_option Elab.async false
set_option linter.all false
set_option maxRecDepth 100000
set_option maxHeartbeats 4000000
/-! PyS14: a def of the program keeps the promise that its body in the language computes; all defs together, by levels. -/
namespace PD
open PySem PySem.Spec PyProof.Rows L2

/-! ### a def by its body, where no text is being made -/
theorem fnG_of {P : Program} {w : World} {K : Fr} {mg : Str → Option Value} {base : Heap} {k : Nat} {f : Addr} {nm qual : Str} {pa : Arguments} {body : List Stmt} {sc : Scope} {dV kV doc pm cdv ct oc : Value} {an od : Option Addr}
    {osl : Array (Option Value)} {N ps : List Str} {sp : Sp} (at_f : K.lookup f = some ⟨oc, od, .func (PySem.W.fnOf nm qual pa body sc dV kV doc pm an cdv ct), osl⟩) (code : PySem.W.codeIn K cdv qual = true) (fs : FnScope N ps sc)
    (count : ∀ vs H Q E, sp vs H Q E → vs.length = ps.length)
    (run : ∀ (A : Around) (outer : List Env) (s : Shared) (H : Hp) (vs : List V) (Q : VK) (E : XK), Room k (A.deeper (envOfC qual sc s.heap.objs.size f cdv)) → A.guards = some [] → sp vs H Q E →
      ∃ t, PSs (cxOf (L2.CX P w) P w K mg base N qual sc f cdv A outer s H E) body t ∧ t { nx := fun _ H' => Q .non H', rt := Q } (start N vs) H) :
    FnG P w K mg base (k + 1) f (PySem.W.fnOf nm qual pa body sc dV kV doc pm an cdv ct) ps sp where
  len := count
  run := fun A outer s H args us vs Q E room gu en bd rv say => by
    have inK : K.In s.heap := en.mod.kin.keeps fun b o z => (en.bs b o z).left
    have noL : s.heap.NoLimit := en.mod.nolimit.keeps fun b o z => (en.bs b o z).left
    have kinds : ∀ y ∈ ps.zip us, sc.names.lookup y.1 = some .local ∨ (sc.names.lookup y.1 = some .cell ∧ ((cellsFrom (s.heap.objs.size + 1) sc.names []).lookup y.1).isSome = true) := by
      intro y my
      refine (fs.par y.1 (List.of_mem_zip (a := y.1) (b := y.2) my).1).imp id fun z => ⟨z, ?_⟩
      exact PySem.W.cellsFrom_some sc.names _ _ (Or.inl z)
    apply codeAny_call_function (room.depth) (inK f _ at_f) rfl fs.co fs.gen rfl (PySem.W.codeRec_of inK code)
    apply bd
    apply wpAny_newFunctionEnv_cells fs.kind kinds
    intro env eqn s1 inC
    subst eqn
    have look : s1.heap.NoLimit := noL.keeps inC.toInCall.keep
    obtain ⟨t, pss, tq⟩ := run A outer s H vs Q E (room.deeper _) gu say
    have beg := inv_start (CX := L2.CX P w) (E := E) fs room.hd en (count _ _ _ _ say) rv inC
    refine ⟨look, codeAny_func ?_⟩
    have step := pss.run [] s1 (start N vs) H _ beg tq
    refine wpAny_mono step ?_ (fun _ _ z => z)
    intro fl s' out
    match fl, out with
    | .ret u, ⟨v, _, H', J, rel, q⟩ => exact ⟨v, H', J.os, J.bare, J.base, J.hok, rel, q⟩
    | .next, ⟨_, H', J, q⟩ => exact ⟨.non, H', J.os, J.bare, J.base, J.hok, rfl, q⟩
    | .brk, ⟨_, _, _, q⟩ => exact q.elim
    | .cont, ⟨_, _, _, q⟩ => exact q.elim

/-! ### defs as data -/
structure Def where
  nm : Str
  qual : Str
  N : List Str
  ps : List Str
  dfl : List D
  scope : Scope
  stmts : List Stmt
  body : List S
def fillD (d : Def) (xs : List D) : List D := xs ++ d.dfl.drop (xs.length + d.dfl.length - d.ps.length)
def phi (ds : List Def) (u : Nat) : Nat → FEnv
  | 0 => fun _ _ _ => .bad
  | k + 1 => fun i xs g => match ds[i]? with
    | none => .bad
    | some d => runF (phi ds u k) u d.N.length d.body (fillD d xs) g
def psi (ds : List Def) (u : Nat) (k : Nat) (d : Def) (xs : List D) (g : Hand) : FR :=
  match k with
  | 0 => .bad
  | k + 1 => runF (phi ds u k) u d.N.length d.body xs g
theorem phi_psi (ds : List Def) (u k i : Nat) (xs : List D) (g : Hand) : phi ds u k i xs g = match ds[i]? with
    | none => .bad
    | some d => psi ds u k d (fillD d xs) g := by
  cases k with
  | zero => cases ds[i]? <;> rfl
  | succ k => rfl
/-- what is told of the names beside the defs -/
structure Sy where
  bl : List Str
  xn : List (Str × List Str)
  hn : List (Str × List Nat)
  cn : List (Str × D)
def nmOf (ds : List Def) (sy : Sy) : Nm := ⟨ds.zipIdx.flatMap fun p => (List.range (p.1.dfl.length + 1)).map fun j => (p.1.nm, p.1.ps.length - j, p.2), sy.bl, sy.xn, sy.hn, sy.cn⟩
/-- a def as it stands behind the top -/
structure DefAt (K : Fr) (mg : Str → Option Value) (d : Def) (f : Addr) (fd : FuncData) : Prop where
  ex : ∃ (oc : Value) (od : Option Addr) (pa : Arguments) (dV kV doc pm : Value) (an : Option Addr) (cdv ct : Value) (osl : Array (Option Value)),
    fd = PySem.W.fnOf d.nm d.qual pa d.stmts d.scope dV kV doc pm an cdv ct ∧ K.lookup f = some ⟨oc, od, .func fd, osl⟩ ∧ PySem.W.codeIn K cdv d.qual = true
  mg : mg d.nm = some (.ref f)
  kp : PySem.W.keepIn K (.ref f) = true
  fs : FnScope d.N d.ps d.scope
  np : d.dfl.length ≤ d.ps.length
  bd : ∀ j, j ≤ d.dfl.length → ∃ (dvs : List V) (us : List Value), Vals dvs us ∧ Binds K fd d.ps us ∧ ∀ ha H, Dats K ha H dvs (d.dfl.drop j)
def Mono (xa : XA) : Prop := ∀ e cls d H H' ha, Same H H' → xa e cls d H ha → xa e cls d H' ha
section
variable {P : Program} {w : World} {K : Fr} {mg : Str → Option Value} {base : Heap} {T : Tb} {d : Def} {f : Addr} {fd : FuncData} {u : Nat}
theorem start_len {N : List Str} {vs : List V} (h : vs.length ≤ N.length) : (start N vs).length = N.length := by
  unfold L2.start
  rw [List.length_append, List.length_map, List.length_replicate]
  omega
theorem start_get {N : List Str} {vs : List V} {i : Nat} {v : V} (h : vs[i]? = some v) : (start N vs)[i]? = some (some v) := by
  unfold L2.start
  rw [List.getElem?_append_left (by rw [List.length_map]; exact (List.getElem?_eq_some_iff.mp h).1), List.getElem?_map, h]
  rfl
/-- the configuration at a def's entry -/
theorem rel_start {N : List Str} {ha ca : Addr} {Pp : Addr → Prop} {H : Hp} {vs : List V} {ds : List D} {g : Hand} (hn : vs.length ≤ N.length) (hP : Pp ha) (hPs : ∀ b, Pp b → ∃ o, H b = some o) (hh : HandOk ha ca H g) (hca : ¬ Pp ca) (hd : Dats K ha (hid Pp H) vs ds) :
    Rel K ⟨ha, ca, Pp, H, fun _ => none, none, ⟨[], 0, []⟩⟩ ⟨ds.map .d ++ List.replicate (N.length - ds.length) .no, g⟩ (start N vs) H := by
  have hl := hd.length
  have pP : ∀ b, Cf.P ⟨ha, ca, Pp, H, fun _ => none, none, ⟨[], 0, []⟩⟩ b → Pp b := fun b z => by
    rcases z with z | z | ⟨i, z⟩ | z | z
    · rw [z]; exact hP
    · exact z
    · cases z
    · cases z
    · cases z
  have same : Same (hid Pp H) (hid (Cf.P ⟨ha, ca, Pp, H, fun _ => none, none, ⟨[], 0, []⟩⟩) H) := same_hid fun b o n q => ⟨fun z => n (pP b z), q⟩
  refine ⟨?_, fun i => ?_, hh, fun z => hca (pP _ z), fun i j a z => (by cases z), fun i a z => (by cases z), fun a z => ?_, fun i a z => (by cases z), fun b o _ z => z, hPs, ⟨_, hh.2.1⟩, ⟨_, hh.1⟩, fun p z => (by cases z), fun a z => (by cases z)⟩
  · show (ds.map Cell.d ++ List.replicate (N.length - ds.length) Cell.no).length = _
    rw [start_len hn, List.length_append, List.length_map, List.length_replicate]
    omega
  · show CelOk K _ H i (ds.map Cell.d ++ List.replicate (N.length - ds.length) Cell.no)[i]? _
    by_cases hi : i < ds.length
    · rw [List.getElem?_append_left (by rw [List.length_map]; exact hi), List.getElem?_map]
      have e : ds[i]? = some ds[i] := List.getElem?_eq_getElem hi
      obtain ⟨v, ev, hv⟩ := hd.get e
      rw [e]
      exact celOk_d.mpr ⟨v, start_get ev, Dat.mono same _ _ hv⟩
    · rw [List.getElem?_append_right (by rw [List.length_map]; omega), List.getElem?_replicate]
      split
      · exact celOk_no
      · exact celOk_none
  · rcases z with ⟨i, z⟩ | z <;> cases z
/-- THE RULE: a def of the table, one level up -/
theorem def_ok (hx : Mono T.xa) (D : DefAt K mg d f fd) (G : Glb P w K mg base T) (hc : ∃ o2 n m, compB T.nm o2 d.N (compE T.nm o2 d.N n) d.scope m d.stmts = some d.body) :
    FnG P w K mg base (T.lv + 1) f fd d.ps (spG K T.xa d.ps.length (runF T.Φ u d.N.length d.body)) := by
  obtain ⟨oc, od, pa, dV, kV, doc, pm, an, cdv, ct, osl, rfl, lk, hcd⟩ := D.ex
  obtain ⟨o2, n, m, hc⟩ := hc
  refine fnG_of lk hcd D.fs (fun vs H Q E z => z.1) fun A outer s H vs Q E room gu say => ?_
  have gs : GS (cxOf (L2.CX P w) P w K mg base d.N d.qual d.scope f cdv A outer s H E) T d.N d.scope (fun cls x _ H => E cls x H) :=
    { nN := rfl, nd := D.fs.nd, sco := rfl, calm := rfl, room := room, gd := gu, tk := takes_of rfl rfl rfl rfl, glb := G, pass := passes_of rfl, fn := fun _ => rfl, stk := rfl, frm := rfl }
  refine ⟨_, compB_ok (w := u) (compE_ok T o2 d.N n) m _ _ gs _ _ hc, ?_⟩
  obtain ⟨hl, ha, ca, Pp, ds, g, hP, hPs, hh, hca, hd, q⟩ := say
  have hpl : d.ps.length ≤ d.N.length := by
    have z := congrArg List.length D.fs.pre
    rw [List.length_take] at z
    omega
  have rel := rel_start (N := d.N) (by omega) hP hPs hh hca hd
  refine ⟨_, _, rel, rfl, ?_⟩
  unfold runF at q
  generalize evB T.Φ u d.body ⟨ds.map .d ++ List.replicate (d.N.length - ds.length) .no, g⟩ = out at q
  have back : ∀ {c' : Cf} {H' : Hp}, SS ⟨ha, ca, Pp, H, fun _ => none, none, ⟨[], 0, []⟩⟩ H c' H' → Same (hid c'.P H') (hid Pp H') := fun {c' H'} ss => same_hid fun b o n q => ⟨fun z => n (.inr (.inl (by rw [ss.P0]; exact z))), q⟩
  have keep : ∀ {c' : Cf} {s' : Stt} {σ' : L2.St} {H' : Hp}, SS ⟨ha, ca, Pp, H, fun _ => none, none, ⟨[], 0, []⟩⟩ H c' H' → Rel K c' s' σ' H' → (∀ b o, b ≠ ha → H b = some o → H' b = some o) ∧ HandOk ha ca H' s'.g := fun {c' s' σ' H'} ss r => by
    have k := r.keep
    have h := r.hnd
    rw [ss.ha, ss.H0] at k
    rw [ss.ha, ss.ca] at h
    exact ⟨k, h⟩
  cases out with
  | bad => exact q.elim
  | ex e s' =>
    intro cls x σ' H' c' ss r hx' xz
    obtain ⟨k1, k2⟩ := keep ss r
    rw [ss.ha] at xz
    exact q cls x H' k1 k2 (hx _ _ _ _ _ _ (back ss) xz)
  | ok fl s' =>
    cases fl with
    | bk => exact q.elim
    | ct => exact q.elim
    | nx =>
      intro σ' H' c' ss r hx'
      obtain ⟨k1, k2⟩ := keep ss r
      exact q .non H' ⟨k1, k2, dat_non.mpr rfl⟩
    | rt r0 =>
      intro σ' H' c' ss r v hv
      obtain ⟨k1, k2⟩ := keep ss r
      refine q v H' ⟨k1, k2, ?_⟩
      cases r0 with
      | d x =>
        have h2 := hv.2
        rw [ss.ha] at h2
        exact Dat.mono (back ss) _ _ h2
      | f xs =>
        obtain ⟨p, vs', rfl, hxp, hp, hds⟩ := hv
        have nw := (r.new p (.inr hxp)).1
        rw [ss.H0] at nw
        rw [ss.ha] at hds
        exact ⟨p, vs', rfl, nw, hp, Dats.mono (same_hid fun b o n q => ⟨fun z => n (by
          rcases z with z | z
          · exact .inr (.inl (by rw [ss.P0]; exact z))
          · exact .inr (.inr (.inr (.inl (by rw [hxp, z]))))), q⟩) _ _ hds⟩
end
/-! ### all defs together -/
section
variable {P : Program} {w : World} {K : Fr} {mg : Str → Option Value} {base : Heap} {ds : List Def} {sy : Sy} {u : Nat} {ad : Nat → Addr}
/-- what is known of the table -/
structure Table (K : Fr) (mg : Str → Option Value) (ds : List Def) (sy : Sy) : Prop where
  at_ : ∀ d ∈ ds, ∃ f fd, DefAt K mg d f fd
  cmp : ∀ d ∈ ds, ∃ o2 n m, compB (nmOf ds sy) o2 d.N (compE (nmOf ds sy) o2 d.N n) d.scope m d.stmts = some d.body
  bl : ∀ x ∈ sy.bl, mg x = none
/-- .. of the names beside the defs -/
structure SyAt (P : Program) (w : World) (K : Fr) (mg : Str → Option Value) (base : Heap) (sy : Sy) (ad : Nat → Addr) : Prop where
  xcl : ∀ i q, sy.xn[i]? = some q → ClsAt P w K mg base q.1 q.2 (ad i)
  hcl : ∀ e ∈ sy.hn, ∃ C, mg e.1 = some (.ref C) ∧ ∀ i q, sy.xn[i]? = some q → PySem.W.exmOne K (.ref (ad i)) (.ref C) = some (decide (i ∈ e.2)) ∧ PySem.W.kitOne K (.ref (ad i)) (.ref C) = some (decide (i ∈ e.2))
  cst : ∀ e ∈ sy.cn, flat e.2 = true ∧ ∃ u, mg e.1 = some u ∧ RelV (vOf e.2) u
abbrev tbOf (K : Fr) (ds : List Def) (sy : Sy) (ad : Nat → Addr) (u k : Nat) : Tb := ⟨nmOf ds sy, k + 2, phi ds u k, xaOf K sy.xn ad, ad⟩
theorem fnIn_of {k : Nat} (tab : Table K mg ds sy) (ih : ∀ d ∈ ds, ∀ f fd, DefAt K mg d f fd → FnG P w K mg base (k + 2) f fd d.ps (spG K (xaOf K sy.xn ad) d.ps.length (psi ds u k d))) :
    ∀ e ∈ (nmOf ds sy).fns, FnIn P w K mg base (tbOf K ds sy ad u k) e.1 e.2.1 e.2.2 := by
  intro e he
  unfold nmOf at he
  obtain ⟨⟨d, i⟩, hi, hj⟩ := List.mem_flatMap.mp he
  obtain ⟨j, hj1, rfl⟩ := List.mem_map.mp hj
  have hj : j < d.dfl.length + 1 := List.mem_range.mp hj1
  have hi : ds[i]? = some d := by
    have z := List.mem_zipIdx_iff_getElem?.mp hi
    exact z
  have hd : d ∈ ds := List.mem_of_getElem? hi
  obtain ⟨f, fd, D⟩ := tab.at_ d hd
  have np := D.np
  obtain ⟨dvs, us, r, b, dt⟩ := D.bd (d.dfl.length - j) (by omega)
  have hl : (d.dfl.drop (d.dfl.length - j)).length = j := by rw [List.length_drop]; omega
  refine ⟨f, fd, d.ps, dvs, us, d.dfl.drop (d.dfl.length - j), psi ds u k d, ih d hd f fd D, D.mg, D.kp, b, r, dt, by rw [hl]; show d.ps.length - j + j = _; omega, fun xs g hx _ => ?_⟩
  show phi ds u k i xs g = _
  rw [phi_psi, hi]
  show psi ds u k d (fillD d xs) g = _
  unfold fillD
  have e : xs.length + d.dfl.length - d.ps.length = d.dfl.length - j := by
    have hx : xs.length = d.ps.length - j := hx
    omega
  rw [e]
theorem glb_of {k : Nat} (tab : Table K mg ds sy) (S : SyAt P w K mg base sy ad) (ih : ∀ d ∈ ds, ∀ f fd, DefAt K mg d f fd → FnG P w K mg base (k + 2) f fd d.ps (spG K (xaOf K sy.xn ad) d.ps.length (psi ds u k d))) : Glb P w K mg base (tbOf K ds sy ad u k) :=
  ⟨fnIn_of tab ih, tab.bl, Nat.le_add_left _ _, rfl, S.xcl, S.hcl, S.cst⟩
theorem tower (tab : Table K mg ds sy) (S : SyAt P w K mg base sy ad) : ∀ k, ∀ d ∈ ds, ∀ f fd, DefAt K mg d f fd → FnG P w K mg base (k + 2) f fd d.ps (spG K (xaOf K sy.xn ad) d.ps.length (psi ds u k d))
  | 0, d, hd, f, fd, D => ⟨fun vs H Q E z => z.1, fun A outer s H args us vs Q E hr hg he hb hv ⟨_, _, _, _, _, _, _, _, _, _, _, z⟩ => z.elim⟩
  | k + 1, d, hd, f, fd, D => def_ok (T := tbOf K ds sy ad u k) (fun e cls d H H' ha sm z => xaOf_mono e cls d H H' ha sm z) D (glb_of tab S (tower tab S k)) (tab.cmp d hd)
end
end PD

set_option Elab.async false
set_option linter.all false
set_option maxRecDepth 100000
set_option maxHeartbeats 4000000
/-! PyS15: the law's own call, from a promise kept where no text is being made. -/
namespace PD
open PySem PySem.Spec PyProof.Rows L2

/-- one address is told, nothing else -/
def solo (a : Addr) (t : Option HO) : Hp := fun b => if b = a then t else none
theorem solo_ne {a b : Addr} {t : Option HO} (h : b ≠ a) : solo a t b = none := if_neg h
theorem solo_at {a : Addr} {t : Option HO} : solo a t a = t := if_pos rfl
theorem solo_of {a b : Addr} {t : Option HO} {u : HO} (h : solo a t b = some u) : b = a ∧ t = some u := by
  by_cases z : b = a
  · subst z
    rw [solo_at] at h
    exact ⟨rfl, h⟩
  · rw [solo_ne z] at h; cases h

section
variable {P : Program} {w : World} {K : Fr} {mg mb : Str → Option Value} {k : Nat} {fa a : Addr} {fd : FuncData} {x : Str} {sp : Sp} {s1 : Shared} {vs : List Value} {ns : List Int}
theorem law_solo (t : Option HO) (inK : K.In s1.heap) (gl : s1.heap.Ns mainGlobals mg) (bt : s1.heap.Ns builtinsNs mb) (boot : ∀ y : Str, y ≠ "__name__" → mb y = bootBuiltins y) (noL : s1.heap.NoLimit) (noG : s1.gens = #[])
    (sc : s1.heap.get? a = some { cls := .type "list", data := .seq vs.toArray }) (room : Room k callerA) (F : ∀ base : Heap, K.In base → base.Ns mainGlobals mg → FnG P w K mg base k fa fd [x] sp)
    (bind : ∀ (s : Shared) (v : Value), BindsTo s fd ⟨[v], []⟩ [(x, v)]) (tc : t = none ∨ ∃ l, t = some (.frz { cls := .type "list", data := .seq vs.toArray } l)) (tk : t ≠ none → K.lookup a = none) (ok : HOk P w (solo a t) s1.heap)
    (say : sp [.ref a] (solo a t) (fun v _ => v = .bl true) fun _ _ _ => False) :
    codeAny (model P w) callerA (.call (.ref fa) ⟨[.ref a], []⟩) (fun r s' => r = .ok (.ret (.bool true)) ∧ OldK s1.heap s'.heap ∧ s'.os = s1.os ∧ AllBare s'.gens) s1 := by
  -- what is no list is not hidden
  have seen : ∀ {b : Addr} {o : Obj}, s1.heap.get? b = some o → (b = a → t = none) → (hidT s1.heap (solo a t)).get? b = some o := by
    intro b o e n
    apply hidT_get e
    by_cases z : b = a
    · rw [z, solo_at]; exact n z
    · exact solo_ne z
  have spaces : ∀ {b : Addr} {m : Str → Option Value}, s1.heap.Ns b m → (hidT s1.heap (solo a t)).Ns b m := by
    rintro b m ⟨o, es, ep, e, dt, r⟩
    refine ⟨o, es, ep, seen e fun z => ?_, dt, r⟩
    rw [z, sc] at e
    cases e
    cases (show Data.seq vs.toArray 0 = Data.dict es ep from dt)
  have inB : K.In (hidT s1.heap (solo a t)) := by
    intro b o e
    refine seen (inK b o e) fun z => ?_
    by_cases q : t = none
    · exact q
    · rw [z, tk q] at e; cases e
  have md : Mod K mg (hidT s1.heap (solo a t)) := by
    refine ⟨inB, spaces gl, ⟨mb, spaces bt, boot⟩, ?_⟩
    obtain ⟨mc, l1, l2⟩ := noL
    exact ⟨mc, spaces l1, l2⟩
  have en : Env0 P w K mg (hidT s1.heap (solo a t)) callerA [] s1 (solo a t) := by
    refine ⟨rfl, md, ?_, ?_, trivial, ?_, ok, .of_eq noG⟩
    · intro b o e; exact of_hidT e
    · exact Nat.le_of_eq (hidT_size _ _)
    · intro b z; cases z
  have go := (F _ inB (spaces gl)).run callerA [] s1 (solo a t) ⟨[.ref a], []⟩ [.ref a] [.ref a] _ _ room rfl en (bind s1 (.ref a)) (.cons rfl .nil) say
  apply codeAny_mono go
  intro r s' out
  match r, out with
  | .error e, out =>
    obtain ⟨_, _, _, _, _, _, _, _, _, _, _, _, z⟩ := out
    exact z.elim
  | .ok .next, out => exact out.elim
  | .ok .brk, out => exact out.elim
  | .ok .cont, out => exact out.elim
  | .ok (.ret u), ⟨v, H', o1, o2, un, ok', rel, q⟩ =>
    have q' : v = .bl true := q
    subst q'
    have eu : u = Value.bool true := rel
    refine ⟨by rw [eu], OldK.of_keep ?_, o1, o2⟩
    intro b o e
    have non : ∀ z : Addr, z ∉ ([] : List Addr) := fun z m => by cases m
    by_cases z : solo a t b = none
    · exact un.keep b o e z (non b) (non b)
    · have eb : b = a := Classical.byContradiction fun n => z (solo_ne n)
      subst eb
      rw [solo_at] at z
      rcases tc with tc | ⟨l, tc⟩
      · exact absurd tc z
      · have f1 : solo b t b = some (.frz _ l) := solo_at.trans tc
        obtain ⟨e2, _⟩ := ok' b _ (un.frzs b _ _ f1)
        rw [sc] at e
        cases e
        exact e2
theorem law_callG (inK : K.In s1.heap) (gl : s1.heap.Ns mainGlobals mg) (bt : s1.heap.Ns builtinsNs mb) (boot : ∀ y : Str, y ≠ "__name__" → mb y = bootBuiltins y) (noL : s1.heap.NoLimit) (noG : s1.gens = #[])
    (sc : s1.heap.get? a = some { cls := .type "list", data := .seq vs.toArray }) (iv : IntsAre vs ns) (lim : ns.length ≤ sizeLine) (room : Room k callerA) (F : ∀ base : Heap, K.In base → base.Ns mainGlobals mg → FnG P w K mg base k fa fd [x] sp)
    (bind : ∀ (s : Shared) (v : Value), BindsTo s fd ⟨[v], []⟩ [(x, v)]) (say : ∀ H : Hp, SqL K H a (ns.map V.int) → sp [.ref a] H (fun v _ => v = .bl true) fun _ _ _ => False) :
    codeAny (model P w) callerA (.call (.ref fa) ⟨[.ref a], []⟩) (fun r s' => r = .ok (.ret (.bool true)) ∧ OldK s1.heap s'.heap ∧ s'.os = s1.os ∧ AllBare s'.gens) s1 := by
  have rel := vals_ints iv
  have nv : vs.length = ns.length := iv.length
  by_cases z : K.lookup a = none
  · refine law_solo (some (.frz { cls := .type "list", data := .seq vs.toArray } (.lst (ns.map V.int)))) inK gl bt boot noL noG sc room F bind (.inr ⟨_, rfl⟩) (fun _ => z) ?_ (say _ (.inl (.inr ⟨_, solo_at⟩)))
    intro b u e
    obtain ⟨eb, et⟩ := solo_of e
    subst eb
    cases et
    exact ⟨sc, by rw [List.length_map]; exact lim, vs, _, rel, sc⟩
  · obtain ⟨o, e⟩ := Option.ne_none_iff_exists'.mp z
    have e' := inK a o e
    rw [sc] at e'
    cases e'
    refine law_solo none inK gl bt boot noL noG sc room F bind (.inl rfl) (fun n => absurd rfl n) ?_ (say _ (.inr ⟨_, vs.toArray, _, e, rfl, rfl, rfl, by rw [List.size_toArray, nv]; exact lim, by simpa using rel⟩))
    intro b u e
    have q := (solo_of e).2
    cases q
end
/-- what the head leaves, from the law's promise -/
theorem walk_ofG {l : PySem.W.OpenLaw} {n k : Nat} {q : Program} {loose : List Str} {XP : (Str → Option Value) → Heap → Prop} {YP : World → Heap → Prop} {d : DefRec} {K : Params → Fr} {sp : World → Sp} {x : Str} (most : l.most = some n) (n_ok : n ≤ sizeLine) (no_dfl : d.params.defaults = []) (room : Room k callerA)
    (inK : ∀ (w : World) (h : Heap), YP w h → (K w.params).In h)
    (F : ∀ (w : World) (mg : Str → Option Value) (fa : Addr) (h : Heap), (K w.params).In h → h.Ns mainGlobals mg → mg d.name = some (.ref fa) →
      ∃ fd : FuncData, (∀ (s : Shared) (v : Value), BindsTo s fd ⟨[v], []⟩ [(x, v)]) ∧ ∀ base : Heap, (K w.params).In base → base.Ns mainGlobals mg → FnG l.prog w (K w.params) mg base k fa fd [x] (sp w))
    (say : ∀ (w : World) (H : Hp) (a : Addr) (ns : List Int), ns.length ≤ n → SqL (K w.params) H a (ns.map V.int) → sp w [.ref a] H (fun v _ => v = .bl true) fun _ _ _ => False) :
    PySem.W.WalkO q loose XP YP l.row.toRowW d [] (fun f vs => PySem.call f vs) := by
  apply Att.attach_call most no_dfl
  intro w s0 s1 mg mb fa o pm cd doc a vs ns G Y ho hd hcd hmg hob hin hle hge
  have iK := inK w _ Y
  obtain ⟨fd, bd, run⟩ := F w mg fa _ iK G.T.g hmg
  exact law_callG iK G.T.g G.T.b G.T.builtins G.T.nolimit hge hob hin (Nat.le_trans hle n_ok) room run bd fun H z => say w H a ns hle z
end PD

set_option Elab.async false
set_option linter.all false
set_option maxRecDepth 100000
set_option maxHeartbeats 4000000
/-! PyS16: the law's hand is made; the law's def. -/
namespace PD
open PySem PySem.Spec PyProof.Rows L2

def absI (i : Int) : Int := if i < 0 then -i else i
def handTot (t : Int) (ns : List Int) : Int := ns.foldl (fun t n => (t * 1709 + n) % 2147483549) t
def hand0 (ns : List Int) : Hand := ⟨ns.map absI, 0, 0, handTot ((ns.length : Int) + 37) ns⟩
/-- the text of _law_hand, wherever it stands -/
inductive HandBody : List Stmt → Prop where
  | mk {a1 a2 a3 a4 a5 a6 a7 b1 b2 b3 c1 c2 c3 d1 d2 d3 d4 d5 d6 d7 d8 d9 d10 d11 d12 d13 e1 e2 e3 e4 e5 e6 e7 e8 e9 r1 r2 r3 r4 r5 r6 : Pos} {j1 j2 j3 j4 j5 : Nat} (hl : (e2.endLine == e8.line) = true) :
    HandBody [.Assign [.Name "_law_total" a1] (.BinOp (.Call (.Name "len" a2) [.Name "_law_script" a3] [] a4) .Add (.Constant (.int 37) j1 a5) a6) a7,
      .Assign [.Name "_law_cells" b1] (.List [] b2) b3,
      .For (.Name "_law_cell" c1) (.Name "_law_script" c2) [
        .Assign [.Name "_law_total" d1] (.BinOp (.Call (.Name "int" d2) [.BinOp (.BinOp (.Name "_law_total" d3) .Mult (.Constant (.int 1709) j2 d4) d5) .Add (.Call (.Name "int" d6) [.Name "_law_cell" d7] [] d8) d9] [] d10) .Mod (.Constant (.int 2147483549) j3 d11) d12) d13,
        .Expr (.Call (.Attribute (.Name "_law_cells" e1) "append" e2) [.Call (.Name "abs" e3) [.Call (.Name "int" e4) [.Name "_law_cell" e5] [] e6] [] e7] [] e8) e9] [] c3,
      .Return (some (.List [.Name "_law_cells" r1, .Constant (.int 0) j4 r2, .Constant (.int 0) j5 r3, .Name "_law_total" r4] r5)) r6]
def handN : List Str := ["_law_script", "_law_total", "_law_cells", "_law_cell"]
def spHand (K : Fr) : Sp := fun vs H Q _ => ∃ (a : Addr) (ns : List Int), vs = [.ref a] ∧ SqL K H a (ns.map V.int) ∧ ns.length ≤ 1000 ∧
  ∀ l p, H l = none → upd H l (.lst ((hand0 ns).cells.map V.int)) p = none → Q (.ref p) (upd (upd H l (.lst ((hand0 ns).cells.map V.int))) p (.lst [.ref l, .int 0, .int 0, .int (hand0 ns).total]))
theorem upd_upd {H : Hp} {l : Addr} {o o' : HO} : upd (upd H l o) l o' = upd H l o' := by
  funext b
  by_cases h : b = l
  · subst h; rw [upd_same, upd_same]
  · rw [upd_ne h, upd_ne h, upd_ne h]
theorem handTot_snoc (t : Int) (ns : List Int) (n : Int) : handTot t (ns ++ [n]) = (handTot t ns * 1709 + n) % 2147483549 := by
  unfold handTot
  rw [List.foldl_append]; rfl
theorem handTot_lt : ∀ (ns : List Int) (t : Int), 0 ≤ t → t < 2 ^ 40 → 0 ≤ handTot t ns ∧ handTot t ns < 2 ^ 40
  | [], t, h1, h2 => ⟨h1, h2⟩
  | n :: ns, t, h1, h2 => by
    have e : handTot t (n :: ns) = handTot ((t * 1709 + n) % 2147483549) ns := rfl
    rw [e]
    exact handTot_lt ns _ (by omega) (by omega)
section
variable {P : Program} {w : World} {K : Fr} {mg : Str → Option Value} {base : Heap}
theorem ok_hand {f : Addr} {nm qual : Str} {pa : Arguments} {body : List Stmt} {sc : Scope} {dV kV doc pm cdv ct oc : Value} {an od : Option Addr} {osl : Array (Option Value)}
    (lk : K.lookup f = some ⟨oc, od, .func (PySem.W.fnOf nm qual pa body sc dV kV doc pm an cdv ct), osl⟩) (code : PySem.W.codeIn K cdv qual = true) (fs : FnScope handN ["_law_script"] sc) (hb : HandBody body)
    (n0 : isLo sc "_law_script" = true) (n1 : isLo sc "_law_total" = true) (n2 : isLo sc "_law_cells" = true) (n3 : isLo sc "_law_cell" = true)
    (g1 : isGl sc "len" = true) (g2 : isGl sc "int" = true) (g3 : isGl sc "abs" = true) (m1 : mg "len" = none) (m2 : mg "int" = none) (m3 : mg "abs" = none) :
    FnG P w K mg base 1 f (PySem.W.fnOf nm qual pa body sc dV kV doc pm an cdv ct) ["_law_script"] (spHand K) := by
  refine fnG_of lk code fs (fun vs H Q E ⟨a, ns, e, _⟩ => by rw [e]; rfl) fun A outer s H vs Q E room gu say => ?_
  cases hb with
  | mk hl =>
  generalize hX : cxOf (L2.CX P w) P w K mg base handN qual sc f cdv A outer s H E = X
  have eN : X.N = handN := by rw [← hX]; rfl
  have eS : X.env.scope = sc := by rw [← hX]; rfl
  have nd : X.N.Nodup := by rw [eN]; exact fs.nd
  have calm : X.calm = true := by rw [← hX]; rfl
  have fn : ∀ x, X.fn x = true := by rw [← hX]; exact fun _ => rfl
  have pas : PassesOwn (model X.prog X.w) X.A X.env X.xe := by rw [← hX]; exact passes_of rfl
  have eK : X.K = K := by rw [← hX]; rfl
  have em : X.mg = mg := by rw [← hX]; rfl
  have v0 : ∀ {pos : Pos}, PE X (.Name "_law_script" pos) (tVar 0) := fun {pos} => pe_var (by rw [eN]; rfl) (by rw [eS]; exact .inl (isLo_of n0))
  have v1 : ∀ {pos : Pos}, PE X (.Name "_law_total" pos) (tVar 1) := fun {pos} => pe_var (by rw [eN]; rfl) (by rw [eS]; exact .inl (isLo_of n1))
  have v2 : ∀ {pos : Pos}, PE X (.Name "_law_cells" pos) (tVar 2) := fun {pos} => pe_var (by rw [eN]; rfl) (by rw [eS]; exact .inl (isLo_of n2))
  have v3 : ∀ {pos : Pos}, PE X (.Name "_law_cell" pos) (tVar 3) := fun {pos} => pe_var (by rw [eN]; rfl) (by rw [eS]; exact .inl (isLo_of n3))
  have gl1 : Gl X "len" := by show X.env.scope.names.lookup _ = _; rw [eS]; exact isGl_of g1
  have gl2 : Gl X "int" := by show X.env.scope.names.lookup _ = _; rw [eS]; exact isGl_of g2
  have gl3 : Gl X "abs" := by show X.env.scope.names.lookup _ = _; rw [eS]; exact isGl_of g3
  have lo1 : Loc X.env.scope "_law_total" := by rw [eS]; exact .inl (isLo_of n1)
  have lo2 : Loc X.env.scope "_law_cells" := by rw [eS]; exact .inl (isLo_of n2)
  have lo3 : Loc X.env.scope "_law_cell" := by rw [eS]; exact .inl (isLo_of n3)
  obtain ⟨b1, c1, d1⟩ := bname_boot .int
  obtain ⟨b2, c2, d2⟩ := bname_boot .len
  obtain ⟨b3, c3, d3⟩ := bname_boot .abs
  refine ⟨_, pss_cons (ps_set (i := 1) nd (by rw [eN]; rfl) lo1 (pe_op op_add (pe_callB call_len_seq gl1 (by rw [em]; exact m1) b2 (pa_cons v0 pa_nil) c2 d2) pe_int) rfl (.inl (fn _)))
    (pss_cons (ps_set (i := 2) nd (by rw [eN]; rfl) lo2 (pe_lst pa_nil) rfl (.inl (fn _)))
    (pss_cons (ps_for pas calm (pi_list v0) (pg_name (i := 3) nd (by rw [eN]; rfl) lo3 (.inl (fn _)))
      (pss_cons (ps_set (i := 1) nd (by rw [eN]; rfl) lo1 (pe_op op_mod (pe_callTy call_int1 gl2 (by rw [em]; exact m2) b1 (pa_cons (pe_op op_add (pe_op op_mulW v1 pe_int) (pe_callTy call_int1 gl2 (by rw [em]; exact m2) b1 (pa_cons v3 pa_nil) c1 d1)) pa_nil) c1 d1) pe_int) rfl (.inl (fn _)))
        (pss_one (ps_expr (pe_bm F.plainAttrs_list F.slot_list_append F.type_list_append mt_append v2 (pa_cons (pe_callB call_abs gl3 (by rw [em]; exact m3) b3 (pa_cons (pe_callTy call_int1 gl2 (by rw [em]; exact m2) b1 (pa_cons v3 pa_nil) c1 d1) pa_nil) c3 d3) pa_nil) rfl rfl hl)))))
    (pss_one (ps_ret (pe_lst (pa_cons v2 (pa_cons pe_int (pa_cons pe_int (pa_cons v1 pa_nil))))))))), ?_⟩
  obtain ⟨a, ns, rfl, hS, hlen, k⟩ := say
  rw [eK]
  have hl63 : (ns.map V.int).length = ns.length := List.length_map _
  refine ⟨.ref a, rfl, a, _, rfl, .inl hS, _, _, rfl, rfl, ?_⟩
  refine ⟨Nat.zero_le _, fun l hlf => ?_⟩
  have sq : ∀ o, SqL K (upd H l o) a (ns.map V.int) := fun o => Same.seq (H := H) (fun b o' e => by rw [upd_ne (ne_of_none e hlf)]; exact e) hS
  refine ⟨.ref a, rfl, a, rfl, ⟨_, sq _⟩, for_list (K := K) (a := a) (xs := ns.map V.int) (fun i σ H' => ∃ v : Option V, σ = [some (.ref a), some (.int (handTot ((ns.length : Int) + 37) (ns.take i))), some (.ref l), v] ∧ H' = upd H l (.lst (((ns.take i).map absI).map V.int)))
    ⟨none, by simp [handTot, L2.start, handN], by simp⟩ (fun i σ H' _ ⟨v, _, e⟩ => by rw [e]; exact sq _) ?_ ?_⟩
  · rintro i y σ H' hi ⟨v, rfl, rfl⟩
    rw [List.getElem?_map] at hi
    cases e : ns[i]? with
    | none => rw [e] at hi; cases hi
    | some n =>
      rw [e] at hi
      cases hi
      have hil : i < ns.length := (List.getElem?_eq_some_iff.mp e).1
      have tk : ns.take (i + 1) = ns.take i ++ [n] := by
        rw [List.take_add_one, e]; rfl
      obtain ⟨t1, t2⟩ := handTot_lt (ns.take i) ((ns.length : Int) + 37) (by omega) (by omega)
      have ht := handTot_snoc ((ns.length : Int) + 37) (ns.take i) n
      rw [← tk] at ht
      generalize handTot ((ns.length : Int) + 37) (ns.take i) = t at *
      refine ⟨.int t, rfl, t, 1709, rfl, rfl, wide_mul (a := 40) (b := 40) (by omega) (by decide) (by decide) (by decide) (by decide), .int n, rfl, .inl ⟨n, rfl, _, _, rfl, rfl, .inl ⟨_, rfl, _, _, rfl, rfl, (by decide : (0 : Int) < 2147483549), ?_⟩⟩⟩
      refine ⟨.ref l, rfl, .inl ⟨rfl, _, SqL.of upd_same⟩, .int n, rfl, .inl ⟨n, rfl, n, rfl, l, _, _, rfl, rfl, upd_same, ?_, ?_⟩⟩
      · have q : ((ns.take i).map absI).length ≤ 1000 := by rw [List.length_map, List.length_take]; omega
        rw [List.length_map]
        exact Nat.lt_of_le_of_lt q (by decide)
      · refine ⟨some (.int n), ?_, ?_⟩
        · rw [ht]; rfl
        · rw [upd_upd, tk, List.map_append, List.map_append]; rfl
  · rintro σ H' ⟨v, rfl, rfl⟩
    rw [hl63, List.take_length]
    exact ⟨.ref l, rfl, .int _, rfl, (by decide : 4 ≤ sizeLine), fun p hp => k l p hlf hp⟩
end
end PD

set_option Elab.async false
set_option linter.all false
set_option maxRecDepth 100000
set_option maxHeartbeats 4000000
/-! PyS17: the law's def: the hand is made, the rest by the language. -/
namespace PD
open PySem PySem.Spec PyProof.Rows L2

inductive LawHead : Stmt → Prop where
  | mk {p1 p2 p3 p4 p5 : Pos} : LawHead (.Assign [.Name "_law_hand_here" p1] (.Call (.Name "_law_hand" p2) [.Name "_law_script" p3] [] p4) p5)
def spLaw (K : Fr) : Sp := fun vs H Q _ => ∃ (a : Addr) (ns : List Int), vs = [.ref a] ∧ SqL K H a (ns.map V.int) ∧ ns.length ≤ 63 ∧ ∀ H', Q (.bl true) H'
def ρ0 (n : Nat) : List Cell := (List.replicate n Cell.no).set 1 (.d .hand)
def isLc (sc : Scope) (x : Str) : Bool :=
  match sc.names.lookup x with
  | some .local => true
  | some .cell => true
  | _ => false
theorem isLc_of {sc : Scope} {x : Str} (h : isLc sc x = true) : Loc sc x := by
  unfold isLc at h
  split at h
  · exact .inl (by assumption)
  · exact .inr (by assumption)
  · cases h
theorem rel_hand {K : Fr} {H : Hp} {l p : Addr} {g : Hand} {n : Nat} {σ : L2.St} (hl : H l = some (.lst (g.cells.map V.int))) (hp : H p = some (.lst [.ref l, .int g.ix, .int g.rest, .int g.total])) (ne : l ≠ p) (hs : σ.length = n) (h1 : n ≤ 1 ∨ σ[1]? = some (some (.ref p))) :
    Rel K ⟨p, l, fun b => b = p, H, fun _ => none, none, ⟨[], 0, []⟩⟩ ⟨ρ0 n, g⟩ σ H := by
  have pP : ∀ b, Cf.P ⟨p, l, fun b => b = p, H, fun _ => none, none, ⟨[], 0, []⟩⟩ b → b = p := fun b z => by
    rcases z with z | z | ⟨i, z⟩ | z | z
    · exact z
    · exact z
    · cases z
    · cases z
    · cases z
  refine ⟨by rw [hs]; simp [ρ0], fun i => ?_, ⟨hp, hl, ne⟩, fun z => ne (pP _ z), fun i j a z => (by cases z), fun i a z => (by cases z), fun a z => ?_, fun i a z => (by cases z), fun b o _ z => z, (fun b z => ⟨_, (congrArg H (show b = p from z)).trans hp⟩), ⟨_, hl⟩, ⟨_, hp⟩, fun p z => (by cases z), fun a z => (by cases z)⟩
  · show CelOk K _ H i (ρ0 n)[i]? σ[i]?
    by_cases z : i = 1
    · subst z
      by_cases q : 1 < n
      · rcases h1 with h1 | h1
        · omega
        · rw [h1]
          unfold ρ0
          rw [List.getElem?_set_self (by rw [List.length_replicate]; exact q)]
          exact celOk_d.mpr ⟨_, rfl, dat_hand.mpr rfl⟩
      · unfold ρ0
        rw [List.getElem?_eq_none (by rw [List.length_set, List.length_replicate]; omega)]
        exact celOk_none
    · unfold ρ0
      rw [List.getElem?_set_ne (Ne.symm z), List.getElem?_replicate]
      split
      · exact celOk_no
      · exact celOk_none
  · rcases z with ⟨i, z⟩ | z <;> cases z
section
variable {P : Program} {w : World} {K : Fr} {mg : Str → Option Value} {base : Heap} {T : Tb} {u : Nat}
theorem law_ok {f fH : Addr} {fdH : FuncData} {nm qual : Str} {pa : Arguments} {st0 : Stmt} {rest : List Stmt} {sc : Scope} {dV kV doc pm cdv ct oc : Value} {an od : Option Addr} {osl : Array (Option Value)} {N : List Str} {B : List S}
    (lk : K.lookup f = some ⟨oc, od, .func (PySem.W.fnOf nm qual pa (st0 :: rest) sc dV kV doc pm an cdv ct), osl⟩) (code : PySem.W.codeIn K cdv qual = true) (fs : FnScope N ["_law_script"] sc)
    (hand : FnG P w K mg base 1 fH fdH ["_law_script"] (spHand K)) (mH : mg "_law_hand" = some (.ref fH)) (kH : PySem.W.keepIn K (.ref fH) = true) (bH : Binds K fdH ["_law_script"] [])
    (hd : LawHead st0) (i0 : N[0]? = some ("_law_script" : Str)) (i1 : N[1]? = some ("_law_hand_here" : Str)) (n0 : isLo sc "_law_script" = true) (n1 : isLc sc "_law_hand_here" = true) (g1 : isGl sc "_law_hand" = true)
    (G : Glb P w K mg base T) (hc : ∃ o2 n m, compB T.nm o2 N (compE T.nm o2 N n) sc m rest = some B) (lv : 1 ≤ T.lv)
    (pure : ∀ ns : List Int, ns.length ≤ 63 → ∃ s', evB T.Φ u B ⟨ρ0 N.length, hand0 ns⟩ = .ok (.rt (.d (.bl true))) s') :
    FnG P w K mg base (T.lv + 1) f (PySem.W.fnOf nm qual pa (st0 :: rest) sc dV kV doc pm an cdv ct) ["_law_script"] (spLaw K) := by
  obtain ⟨o2, n, m, hc⟩ := hc
  refine fnG_of lk code fs (fun vs H Q E ⟨a, ns, e, _⟩ => by rw [e]; rfl) fun A outer s H vs Q E room gu say => ?_
  have gs : GS (cxOf (L2.CX P w) P w K mg base N qual sc f cdv A outer s H E) T N sc (fun cls x _ H => E cls x H) :=
    { nN := rfl, nd := fs.nd, sco := rfl, calm := rfl, room := room, gd := gu, tk := takes_of rfl rfl rfl rfl, glb := G, pass := passes_of rfl, fn := fun _ => rfl, stk := rfl, frm := rfl }
  cases hd with
  | mk =>
  refine ⟨_, pss_cons (ps_set (i := 1) fs.nd i1 (isLc_of n1) (pe_callG hand (room.mono lv) gu (isGl_of g1) mH kH bH .nil gs.tk (pa_cons (pe_var i0 (.inl (isLo_of n0))) pa_nil) rfl rfl) rfl (.inl rfl)) (compB_ok (w := u) (compE_ok T o2 N n) m _ _ gs _ _ hc), ?_⟩
  obtain ⟨a, ns, rfl, hS, hlen, k⟩ := say
  have hn : 1 < N.length := (List.getElem?_eq_some_iff.mp i1).1
  refine ⟨.ref a, start_get rfl, a, ns, rfl, hS, by omega, fun l p hl hp => ?_⟩
  have ne : l ≠ p := fun z => by
    rw [← z, upd_same] at hp; cases hp
  obtain ⟨s', es⟩ := pure ns hlen
  refine ⟨_, _, rel_hand (g := hand0 ns) (n := N.length) (l := l) (p := p) ?_ upd_same ne ?_ (.inr ?_), rfl, ?_⟩
  · rw [upd_ne ne, upd_same]
  · rw [List.length_set]
    exact start_len (by show 1 ≤ _; omega)
  · exact List.getElem?_set_self (by rw [start_len (by show 1 ≤ _; omega)]; exact hn)
  · rw [es]
    intro σ' H' c' ss r v hv
    have e := dat_bl.mp hv.2
    subst e
    exact k H'
end
end PD

set_option Elab.async false
set_option linter.all false
set_option maxRecDepth 100000
set_option maxHeartbeats 4000000
/-! PyS18: what the top has written of a def, as DefAt; the end of a law. -/
namespace PD
open PySem PySem.Spec PyProof.Rows L2

theorem dats_flat {K : Fr} {ha : Addr} {H : Hp} : ∀ {ds : List D}, ds.all flat = true → Dats K ha H (ds.map vOf) ds
  | [], _ => Dats.nil
  | d :: ds, h => by
    rw [List.all_cons, Bool.and_eq_true] at h
    refine Dats.cons ?_ (dats_flat h.2)
    cases d with
    | int i => exact dat_int.mpr rfl
    | bl i => exact dat_bl.mpr rfl
    | str i => exact dat_str.mpr rfl
    | non => exact dat_non.mpr rfl
    | _ => cases h.1
section
variable {K : Fr} {mg : Str → Option Value} {d : Def} {f : Addr} {h : Heap} {oc kV dc pm cd ct : Value} {od an : Option Addr} {sl : Array (Option Value)} {pa : Arguments}
theorem mkDef (X : K.In h) (G : h.Ns mainGlobals mg) (a : PySem.W.nsIn K mainGlobals d.nm = some (some (.ref f))) (l : K.lookup f = some ⟨oc, od, .func (PySem.W.fnOf d.nm d.qual pa d.stmts d.scope .none kV dc pm an cd ct), sl⟩)
    (c : PySem.W.codeIn K cd d.qual = true) (k : PySem.W.keepIn K (.ref f) = true) (fs : FnScope d.N d.ps d.scope) (h0 : d.dfl = [])
    (hb : ∀ us : List Value, us.length = d.ps.length → bindArgs (PySem.W.fnOf d.nm d.qual pa d.stmts d.scope .none kV dc pm an cd ct) ⟨us, []⟩ = pure (d.ps.zip us)) :
    ∃ f fd, DefAt K mg d f fd :=
  ⟨f, _, ⟨⟨oc, od, pa, .none, kV, dc, pm, an, cd, ct, sl, rfl, l, c⟩, PySem.W.mg_of X G a, k, fs, by rw [h0]; exact Nat.zero_le _, fun j _ => ⟨[], [], .nil, .all hb, fun ha H => by rw [h0, List.drop_nil]; exact Dats.nil⟩⟩⟩
theorem mkDefD {T : Addr} {o : Obj} {its : List Value} {n : Nat} (X : K.In h) (G : h.Ns mainGlobals mg) (a : PySem.W.nsIn K mainGlobals d.nm = some (some (.ref f))) (l : K.lookup f = some ⟨oc, od, .func (PySem.W.fnOf d.nm d.qual pa d.stmts d.scope (.ref T) kV dc pm an cd ct), sl⟩)
    (c : PySem.W.codeIn K cd d.qual = true) (k : PySem.W.keepIn K (.ref f) = true) (fs : FnScope d.N d.ps d.scope) (lT : K.lookup T = some o) (oT : o.data = .seq its.toArray n) (rT : Vals (d.dfl.map vOf) its) (hfl : d.dfl.all flat = true) (hne : d.dfl ≠ []) (np : d.dfl.length ≤ d.ps.length)
    (hb : ∀ j, j ≤ d.dfl.length → ∀ us : List Value, us.length = d.ps.length - (d.dfl.length - j) →
      ∃ k, bindArgs (PySem.W.fnOf d.nm d.qual pa d.stmts d.scope (.ref T) kV dc pm an cd ct) ⟨us, []⟩ = seqItems? (.ref T) >>= k ∧ k (some its.toArray) = pure (d.ps.zip (us ++ its.drop j))) :
    ∃ f fd, DefAt K mg d f fd := by
  refine ⟨f, _, ⟨⟨oc, od, pa, .ref T, kV, dc, pm, an, cd, ct, sl, rfl, l, c⟩, PySem.W.mg_of X G a, k, fs, np, fun j hj => ?_⟩⟩
  refine ⟨(d.dfl.drop j).map vOf, its.drop j, ?_, fun s us X' hlen => ?_, fun ha H => dats_flat ?_⟩
  · rw [List.map_drop]; exact rT.drop j
  · have l1 : its.length = d.dfl.length := by rw [← rT.length, List.length_map]
    rw [List.length_append, List.length_drop, l1] at hlen
    obtain ⟨k, e1, e2⟩ := hb j hj us (by omega)
    refine BindsTo.of_looks fun M => ?_
    rw [e1]
    exact looks_items X' lT oT (.of_pure e2)
  · rw [List.all_eq_true] at hfl ⊢
    exact fun x hx => hfl x (List.mem_of_mem_drop hx)
end
/-! ### own classes of errors -/
section
variable {P : Program} {w : World} {K : Fr} {mg : Str → Option Value} {base : Heap} {h : Heap} {x : Str} {C : Addr}
theorem InitBody.ne {fs : List Str} {b : List Stmt} (h : InitBody fs b) : fs ≠ [] := by
  cases h <;> simp
theorem InitBody.le {fs : List Str} {b : List Stmt} (h : InitBody fs b) : fs.length ≤ 2 := by
  cases h <;> simp
theorem kit_ve (vE : PySem.W.subIn K (.ref C) (.type "ValueError") = some true) : PySem.W.kitOne K (.ref C) (.type "ValueError") = some true := by
  have e : (Value.ref C == Value.type "ValueError") = false := rfl
  have m : PySem.W.kitMeta "ValueError" = true := by decide +kernel
  unfold PySem.W.kitOne PySem.W.kitCls
  rw [e, if_neg Bool.false_ne_true]
  simp only
  rw [if_pos m]
  exact vE
/-- a class and one that a clause names -/
theorem kit_rr {D : Addr} {b : Bool} (eB : PySem.W.subIn K (.ref D) (.type "BaseException") = some true) (is : PySem.W.isClsIn K D = true) (ty : PySem.W.typeIn K (.ref D) = some (.type "type")) (self : PySem.W.subIn K (.ref D) (.ref D) = some true) (s : PySem.W.subIn K (.ref C) (.ref D) = some b) :
    PySem.W.exmOne K (.ref C) (.ref D) = some b ∧ PySem.W.kitOne K (.ref C) (.ref D) = some b := by
  have is' : (PySem.W.clsIn K D).isSome = true := is
  have k : PySem.W.kitCls K (.ref C) (.ref D) = some b := by
    unfold PySem.W.kitCls
    simp only
    rw [is', ty]
    exact s
  refine ⟨?_, ?_⟩
  · unfold PySem.W.exmOne
    rw [eB]
    exact k
  · unfold PySem.W.kitOne
    split
    · rename_i e
      have e : Value.ref C = Value.ref D := beq_iff_eq.mp e
      rw [e, self] at s
      exact s
    · exact k
theorem mkCls1 {fs : List Str} {fI N : Addr} {nm q qual : Str} {bs bm : List Value} {sn : List Str} {sub : List Value} {ab : Bool} {col : Option Bool} {dd : Option Addr} {k0 k1 k2 k3 k5 : Option Value} {oc kV dc pm cd ct : Value} {od an : Option Addr} {sl : Array (Option Value)} {st0 : Stmt}
    (X : K.In h) (G : h.Ns mainGlobals mg) (sg : PySem.W.specialIn K (.builtin "object.__class__") "__get__" = some (some (.builtin "getset_descriptor.__get__"))) (tk : PySem.W.takesIn K (.builtin "object.__class__") = some true)
    (aC : PySem.W.nsIn K mainGlobals x = some (some (.ref C))) (xL : K.lookup C = some (excClassObj nm q C N bs bm true sn sub ab col dd k0 k1 k2 k3 k5 "ValueError.__new__")) (hbm : PySem.HandSPX.refsVE bm = true)
    (sa : PySem.W.findIn K (.ref C) "__setattr__" = some (some (.builtin "object.__setattr__"))) (ga : PySem.W.findIn K (.ref C) "__getattribute__" = some (some (.builtin "BaseException.__getattribute__"))) (gg : PySem.W.findIn K (.ref C) "__getattr__" = some none)
    (eC : PySem.W.subIn K (.ref C) (.type "BaseException") = some true) (tC : PySem.W.typeIn K (.ref C) = some (.type "type")) (hC : PySem.W.hasDictIn K C = true) (kC : PySem.W.keepIn K (.ref C) = true) (cl : PySem.W.findIn K (.ref C) "__class__" = some (some (.builtin "object.__class__")))
    (mo : PySem.W.mroIn K C (.type "object") = some true) (vE : PySem.W.subIn K (.ref C) (.type "ValueError") = some true) (no : ∀ f ∈ fs, PySem.W.findIn K (.ref C) f = some none)
    (iC : PySem.W.findIn K (.ref C) "__init__" = some (some (.ref fI))) (tI : PySem.W.typeIn K (.ref fI) = some (.type "function")) (lI : K.lookup fI = some ⟨oc, od, .func (PySem.W.fnOf "__init__" qual (defArgs st0) (defBody st0) (defScope st0) .none kV dc pm an cd ct), sl⟩) (cI : PySem.W.codeIn K cd qual = true)
    (S : FnScope ("self" :: fs) ("self" :: fs) (defScope st0)) (pl : fs.all plainNm = true) (IB : InitBody fs (defBody st0)) (nd : fs.Nodup)
    (hb : ∀ us : List Value, us.length = ("self" :: fs : List Str).length → bindArgs (PySem.W.fnOf "__init__" qual (defArgs st0) (defBody st0) (defScope st0) .none kV dc pm an cd ct) ⟨us, []⟩ = pure (("self" :: fs : List Str).zip us)) : ClsAt P w K mg base x fs C :=
  { at_ := PySem.W.mg_of X G aC, kp := kC, ty := tC, xc := ⟨ga, gg, eC, hC, cl, sg, tk, mo⟩, no := no, nd := nd, ve := kit_ve vE,
    how := .inr ⟨IB.ne, IB.le, ⟨⟨nm, q, N, bs, bm, sn, sub, ab, col, dd, k0, k1, k2, k3, k5, xL, hbm⟩, sa, eC, tC, kC⟩, fI, _, iC, tI, .all hb, init_ok lI cI S pl IB⟩ }
theorem mkCls0 (X : K.In h) (G : h.Ns mainGlobals mg) (sg : PySem.W.specialIn K (.builtin "object.__class__") "__get__" = some (some (.builtin "getset_descriptor.__get__"))) (tk : PySem.W.takesIn K (.builtin "object.__class__") = some true)
    (aC : PySem.W.nsIn K mainGlobals x = some (some (.ref C))) (ga : PySem.W.findIn K (.ref C) "__getattribute__" = some (some (.builtin "BaseException.__getattribute__"))) (gg : PySem.W.findIn K (.ref C) "__getattr__" = some none)
    (eC : PySem.W.subIn K (.ref C) (.type "BaseException") = some true) (tC : PySem.W.typeIn K (.ref C) = some (.type "type")) (hC : PySem.W.hasDictIn K C = true) (kC : PySem.W.keepIn K (.ref C) = true) (cl : PySem.W.findIn K (.ref C) "__class__" = some (some (.builtin "object.__class__")))
    (mo : PySem.W.mroIn K C (.type "object") = some true) (vE : PySem.W.subIn K (.ref C) (.type "ValueError") = some true) (xx : PySem.W.excIn K C PySem.HandSPX.veTail "ValueError.__new__" = true) : ClsAt P w K mg base x [] C :=
  { at_ := PySem.W.mg_of X G aC, kp := kC, ty := tC, xc := ⟨ga, gg, eC, hC, cl, sg, tk, mo⟩, no := (fun _ z => by cases z), nd := List.nodup_nil, ve := kit_ve vE, how := .inl ⟨rfl, xx⟩ }
theorem all2 {α : Type} {p : Nat → α → Prop} : ∀ {l : List α}, (∀ i a, l[i]? = some a → p i a) ↔ ∀ a ∈ l.zipIdx, p a.2 a.1 := by
  intro l
  constructor
  · intro hh a ha
    exact hh _ _ (List.mem_zipIdx_iff_getElem?.mp ha)
  · intro hh i a e
    exact hh (a, i) (List.mem_zipIdx_iff_getElem?.mpr e)
theorem walkG {l : PySem.W.OpenLaw} {k : Nat} {q : Program} {loose : List Str} {XP : (Str → Option Value) → Heap → Prop} {YP : World → Heap → Prop} {d : DefRec} {K : Params → Fr} (most : l.most = some 63) (no_dfl : d.params.defaults = []) (room : Room k callerA)
    (inK : ∀ (w : World) (h : Heap), YP w h → (K w.params).In h)
    (F : ∀ (w : World) (mg : Str → Option Value) (fa : Addr) (h : Heap), (K w.params).In h → h.Ns mainGlobals mg → mg d.name = some (.ref fa) →
      ∃ fd : FuncData, (∀ (s : Shared) (v : Value), BindsTo s fd ⟨[v], []⟩ [("_law_script", v)]) ∧ ∀ base : Heap, (K w.params).In base → base.Ns mainGlobals mg → FnG l.prog w (K w.params) mg base k fa fd ["_law_script"] (spLaw (K w.params))) :
    PySem.W.WalkO q loose XP YP l.row.toRowW d [] (fun f vs => PySem.call f vs) :=
  walk_ofG (n := 63) (sp := fun w => spLaw (K w.params)) most (by decide) no_dfl room inK F fun w H a ns hl hS => ⟨a, ns, rfl, hS, hl, fun _ => rfl⟩
end
end PD

set_option Elab.async false
set_option linter.all false
set_option maxRecDepth 100000
set_option maxHeartbeats 4000000
/-! PyL: the evaluator's equations for simp, laws of loops. -/
namespace PD
open PySem
section
variable (Φ : FEnv) (u : Nat) (s : Stt)
end
/-- a comprehension's walk, kept shut -/
def compR (Φ : FEnv) (vs : List Nat) (t : Tg) (c : Option E) (elt : E) (xs : List D) (s : Stt) : Res (List D) := compL (fun s => (evO1 Φ c s).bind fun b s3 => match b with
        | true => (evE Φ elt s3).bind fun y s4 => .ok (some y.D) s4
        | false => .ok none s3) t vs xs [] s
section
variable (Φ : FEnv) (u : Nat) (s : Stt)
@[simp] theorem evE_var (i : Nat) : evE Φ (.var i) s = give i s := by first | (rw [evE]; done) | (rw [evE]; rfl)
@[simp] theorem evE_k (c : D) : evE Φ (.k c) s = .ok (.d c) s := by first | (rw [evE]; done) | (rw [evE]; rfl)
@[simp] theorem evE_bin (op : Operator) (a b : E) : evE Φ (.bin op a b) s = (pk a (evE Φ a) s).bind fun x s1 => (pk b (evE Φ b) s1).bind fun y s2 => Res.of (binop op x y) s2 := by first | (rw [evE]; done) | (rw [evE]; rfl)
@[simp] theorem evE_cmp (op : CmpOp) (a b : E) : evE Φ (.cmp op a b) s = (pk a (evE Φ a) s).bind fun x s1 => (pk b (evE Φ b) s1).bind fun y s2 => (Res.of (cmpop op x y) s2).bind fun r s3 => .ok (.d (.bl r)) s3 := by first | (rw [evE]; done) | (rw [evE]; rfl)
@[simp] theorem evE_chain (op op' : CmpOp) (a b c : E) : evE Φ (.chain op op' a b c) s = (pk a (evE Φ a) s).bind fun x s1 => (pk b (evE Φ b) s1).bind fun y s2 => (Res.of (cmpop op x y) s2).bind fun r s3 =>
      match r with
      | true => (pk c (evE Φ c) s3).bind fun z s4 => (Res.of (cmpop op' y z) s4).bind fun r s5 => .ok (.d (.bl r)) s5
      | false => .ok (.d (.bl false)) s3 := by first | (rw [evE]; done) | (rw [evE]; rfl)
@[simp] theorem evE_and (a b : E) : evE Φ (.and a b) s = (evE Φ a s).bind fun x s1 => (Res.of (truth x.D) s1).bind fun t s2 => match t with
      | true => evE Φ b s2
      | false => .ok (.d x.D) s2 := by first | (rw [evE]; done) | (rw [evE]; rfl)
@[simp] theorem evE_or (a b : E) : evE Φ (.or a b) s = (evE Φ a s).bind fun x s1 => (Res.of (truth x.D) s1).bind fun t s2 => match t with
      | true => .ok (.d x.D) s2
      | false => evE Φ b s2 := by first | (rw [evE]; done) | (rw [evE]; rfl)
@[simp] theorem evE_not (a : E) : evE Φ (.not a) s = (tst a (evE Φ a) s).bind fun t s1 => .ok (.d (.bl (!t))) s1 := by first | (rw [evE]; done) | (rw [evE]; rfl)
@[simp] theorem evE_neg (a : E) : evE Φ (.neg a) s = (pk a (evE Φ a) s).bind fun x s1 => (Res.of (num x) s1).bind fun i s2 => .ok (.d (.int (-i))) s2 := by first | (rw [evE]; done) | (rw [evE]; rfl)
@[simp] theorem evE_ife (c a b : E) : evE Φ (.ife c a b) s = (tst c (evE Φ c) s).bind fun t s1 => match t with
      | true => evE Φ a s1
      | false => evE Φ b s1 := by first | (rw [evE]; done) | (rw [evE]; rfl)
@[simp] theorem evE_tup (es : List E) : evE Φ (.tup es) s = (evL Φ es s).bind fun xs s1 => if xs.length ≤ sizeLine then .ok (.d (.tup xs)) s1 else .bad := by first | (rw [evE]; done) | (rw [evE]; rfl)
@[simp] theorem evE_lst (es : List E) : evE Φ (.lst es) s = (evL Φ es s).bind fun xs s1 => if xs.length ≤ sizeLine then .ok (.f xs) s1 else .bad := by first | (rw [evE]; done) | (rw [evE]; rfl)
@[simp] theorem evE_ix (a i : E) : evE Φ (.ix a i) s = (pk a (evE Φ a) s).bind fun x s1 => (pk i (evE Φ i) s1).bind fun y s2 => (Res.of (itemS s2.g x y) s2).bind fun r s3 => .ok (.d r) s3 := by first | (rw [evE]; done) | (rw [evE]; rfl)
@[simp] theorem evE_sl (a : E) (lo hi : Option E) : evE Φ (.sl a lo hi) s = (pk a (evE Φ a) s).bind fun x s1 => (evO Φ lo s1).bind fun l s2 => (evO Φ hi s2).bind fun h s3 => Res.of (slice x l h) s3 := by first | (rw [evE]; done) | (rw [evE]; rfl)
@[simp] theorem evE_rvs (a : E) : evE Φ (.rvs a) s = (pk a (evE Φ a) s).bind fun x s1 => Res.of (revD x) s1 := by first | (rw [evE]; done) | (rw [evE]; rfl)
@[simp] theorem evE_call (f : Nat) (es : List E) : evE Φ (.call f es) s = (evL Φ es s).bind fun xs s1 => (Φ f xs s1.g).res s1 := by first | (rw [evE]; done) | (rw [evE]; rfl)
@[simp] theorem evE_blt (b : B) (es : List E) : evE Φ (.blt b es) s = (evPs Φ es s).bind fun xs s1 => Res.of (blt b xs) s1 := by first | (rw [evE]; done) | (rw [evE]; rfl)
@[simp] theorem evE_isi (a : E) (t : Ty) : evE Φ (.isi a t) s = (pk a (evE Φ a) s).bind fun x s1 => (Res.of (isTy x t) s1).bind fun r s2 => .ok (.d (.bl r)) s2 := by first | (rw [evE]; done) | (rw [evE]; rfl)
@[simp] theorem evE_comp (vs : List Nat) (t : Tg) (k : Sk) (src : List E) (c : Option E) (elt : E) : evE Φ (.comp vs t k src c elt) s = (evPs Φ src s).bind fun xs s1 => (Res.of (srcL k xs) s1).bind fun is s2 => (compR Φ vs t c elt is (s2.forget vs)).bind fun ys s3 => .ok (.f ys) s3 := by first | (rw [evE]; done) | (rw [evE]; rfl)
@[simp] theorem evE_mt (kvs : List (Int × Int)) : evE Φ (.mt kvs) s = .ok (.d (.edic kvs)) s := by first | (rw [evE]; done) | (rw [evE]; rfl)
@[simp] theorem evE_lrng (es : List E) : evE Φ (.lrng es) s = (evPs Φ es s).bind fun xs s1 => (Res.of (srcL .rng xs) s1).bind fun is s2 => if is.length ≤ sizeLine then .ok (.f is) s2 else .bad := by first | (rw [evE]; done) | (rw [evE]; rfl)
@[simp] theorem evE_len2 (i : Nat) (k : Option Nat) : evE Φ (.len2 i k) s = (Res.of (len2 s i k) s).bind fun n s1 => .ok (.d (.int n)) s1 := by first | (rw [evE]; done) | (rw [evE]; rfl)
@[simp] theorem evO1_none : evO1 Φ none s = .ok true s := by rw [evO1]
@[simp] theorem evO1_some (c : E) : evO1 Φ (some c) s = tst c (evE Φ c) s := by rw [evO1]
@[simp] theorem evO_none : evO Φ none s = .ok none s := by rw [evO]
@[simp] theorem evO_some (e : E) : evO Φ (some e) s = (pk e (evE Φ e) s).bind fun x s1 => (Res.of (num x) s1).bind fun i s2 => .ok (some i) s2 := by rw [evO]
@[simp] theorem evL_nil : evL Φ [] s = .ok [] s := by rw [evL]
@[simp] theorem evL_cons (e : E) (es : List E) : evL Φ (e :: es) s = (evE Φ e s).bind fun x s1 => (evL Φ es s1).bind fun xs s2 => .ok (x.D :: xs) s2 := by rw [evL]
@[simp] theorem evPs_nil : evPs Φ [] s = .ok [] s := by rw [evPs]
@[simp] theorem evPs_cons (e : E) (es : List E) : evPs Φ (e :: es) s = (pk e (evE Φ e) s).bind fun x s1 => (evPs Φ es s1).bind fun xs s2 => .ok (x :: xs) s2 := by rw [evPs]
@[simp] theorem pk_var (i : Nat) (f : Stt → Res R) : pk (.var i) f s = Res.of (peek s i) s := of_eq_true (eq_self _)
@[simp] theorem pk_k (c : D) (f : Stt → Res R) : pk (.k c) f s = (f s).bind fun r s1 => .ok r.D s1 := of_eq_true (eq_self _)
@[simp] theorem pk_bin (op : Operator) (a b : E) (f : Stt → Res R) : pk (.bin op a b) f s = (f s).bind fun r s1 => .ok r.D s1 := of_eq_true (eq_self _)
@[simp] theorem pk_cmp (op : CmpOp) (a b : E) (f : Stt → Res R) : pk (.cmp op a b) f s = (f s).bind fun r s1 => .ok r.D s1 := of_eq_true (eq_self _)
@[simp] theorem pk_chain (op op' : CmpOp) (a b c : E) (f : Stt → Res R) : pk (.chain op op' a b c) f s = (f s).bind fun r s1 => .ok r.D s1 := of_eq_true (eq_self _)
@[simp] theorem pk_and (a b : E) (f : Stt → Res R) : pk (.and a b) f s = (f s).bind fun r s1 => .ok r.D s1 := of_eq_true (eq_self _)
@[simp] theorem pk_or (a b : E) (f : Stt → Res R) : pk (.or a b) f s = (f s).bind fun r s1 => .ok r.D s1 := of_eq_true (eq_self _)
@[simp] theorem pk_not (a : E) (f : Stt → Res R) : pk (.not a) f s = (f s).bind fun r s1 => .ok r.D s1 := of_eq_true (eq_self _)
@[simp] theorem pk_neg (a : E) (f : Stt → Res R) : pk (.neg a) f s = (f s).bind fun r s1 => .ok r.D s1 := of_eq_true (eq_self _)
@[simp] theorem pk_ife (c a b : E) (f : Stt → Res R) : pk (.ife c a b) f s = (f s).bind fun r s1 => .ok r.D s1 := of_eq_true (eq_self _)
@[simp] theorem pk_tup (es : List E) (f : Stt → Res R) : pk (.tup es) f s = (f s).bind fun r s1 => .ok r.D s1 := of_eq_true (eq_self _)
@[simp] theorem pk_lst (es : List E) (f : Stt → Res R) : pk (.lst es) f s = (f s).bind fun r s1 => .ok r.D s1 := of_eq_true (eq_self _)
@[simp] theorem pk_ix (a i : E) (f : Stt → Res R) : pk (.ix a i) f s = (f s).bind fun r s1 => .ok r.D s1 := of_eq_true (eq_self _)
@[simp] theorem pk_sl (a : E) (lo hi : Option E) (f : Stt → Res R) : pk (.sl a lo hi) f s = (f s).bind fun r s1 => .ok r.D s1 := of_eq_true (eq_self _)
@[simp] theorem pk_rvs (a : E) (f : Stt → Res R) : pk (.rvs a) f s = (f s).bind fun r s1 => .ok r.D s1 := of_eq_true (eq_self _)
@[simp] theorem pk_call (f0 : Nat) (es : List E) (f : Stt → Res R) : pk (.call f0 es) f s = (f s).bind fun r s1 => .ok r.D s1 := of_eq_true (eq_self _)
@[simp] theorem pk_blt (b : B) (es : List E) (f : Stt → Res R) : pk (.blt b es) f s = (f s).bind fun r s1 => .ok r.D s1 := of_eq_true (eq_self _)
@[simp] theorem pk_isi (a : E) (t : Ty) (f : Stt → Res R) : pk (.isi a t) f s = (f s).bind fun r s1 => .ok r.D s1 := of_eq_true (eq_self _)
@[simp] theorem pk_comp (vs : List Nat) (t : Tg) (k : Sk) (src : List E) (c : Option E) (elt : E) (f : Stt → Res R) : pk (.comp vs t k src c elt) f s = (f s).bind fun r s1 => .ok r.D s1 := of_eq_true (eq_self _)
@[simp] theorem pk_mt (kvs : List (Int × Int)) (f : Stt → Res R) : pk (.mt kvs) f s = (f s).bind fun r s1 => .ok r.D s1 := of_eq_true (eq_self _)
@[simp] theorem pk_lrng (es : List E) (f : Stt → Res R) : pk (.lrng es) f s = (f s).bind fun r s1 => .ok r.D s1 := of_eq_true (eq_self _)
@[simp] theorem pk_len2 (i : Nat) (k : Option Nat) (f : Stt → Res R) : pk (.len2 i k) f s = (f s).bind fun r s1 => .ok r.D s1 := of_eq_true (eq_self _)
@[simp] theorem evS_set (t : Tg) (e : E) : evS Φ u (.set t e) s = (evE Φ e s).bind fun r s1 => (Res.of (setT t r s1) s1).bind fun s2 _ => .ok .nx s2 := by first | (rw [evS]; done) | (rw [evS]; rfl)
@[simp] theorem evS_par (i j : Nat) (a b : E) : evS Φ u (.par i j a b) s = (evL Φ [a, b] s).bind fun xs s1 => match xs with
      | [x, y] => .ok .nx ((s1.put i (.d x)).put j (.d y))
      | _ => .bad := by first | (rw [evS]; done) | (rw [evS]; rfl)
@[simp] theorem evS_app (i : Nat) (e : E) : evS Φ u (.app i e) s = (Res.of (ownAt s i) s).bind fun _ s0 => (evE Φ e s0).bind fun r s1 => (Res.of (ownAt s1 i) s1).bind fun xs s2 =>
      if xs.length < sizeLine then .ok .nx (s2.put i (.own (xs ++ [r.D]))) else .bad := by first | (rw [evS]; done) | (rw [evS]; rfl)
@[simp] theorem evS_ext (i : Nat) (e : E) : evS Φ u (.ext i e) s = (Res.of (ownAt s i) s).bind fun _ s0 => (evE Φ e s0).bind fun r s1 => (Res.of (ownAt s1 i) s1).bind fun xs s2 => (Res.of (lstOf r.D) s2).bind fun ys s3 =>
      if xs.length + ys.length ≤ sizeLine then .ok .nx (s3.put i (.own (xs ++ ys))) else .bad := by first | (rw [evS]; done) | (rw [evS]; rfl)
@[simp] theorem evS_six (i : Nat) (k e : E) : evS Φ u (.six i k e) s = (evE Φ e s).bind fun r s1 => match s1.ρ[i]? with
      | some (.own _) => (pk k (evE Φ k) s1).bind fun kd s2 => (Res.of (ownAt s2 i) s2).bind fun xs s3 => (Res.of (setAt xs kd r.D) s3).bind fun ys s4 => .ok .nx (s4.put i (.own ys))
      | some (.d .hand) => (pk k (evE Φ k) s1).bind fun kd s2 => (Res.of (setH s2.g kd r.D) s2).bind fun g s3 => .ok .nx ⟨s3.ρ, g⟩
      | _ => .bad := by first | (rw [evS]; done) | (rw [evS]; rfl)
@[simp] theorem evS_sixa (i : Nat) (op : Operator) (k e : E) : evS Φ u (.sixa i op k e) s = (Res.of (ownAt s i) s).bind fun _ s0 => (pk k (evE Φ k) s0).bind fun kd s1 => (Res.of (ownAt s1 i) s1).bind fun xs s2 => (Res.of (itemNn xs kd) s2).bind fun old s3 => (pk e (evE Φ e) s3).bind fun y s4 =>
      (Res.of (augOp op old y) s4).bind fun v s5 => (Res.of (ownAt s5 i) s5).bind fun ys s6 => (Res.of (setAt ys kd v) s6).bind fun zs s7 => .ok .nx (s7.put i (.own zs)) := by first | (rw [evS]; done) | (rw [evS]; rfl)
@[simp] theorem evS_aug (i : Nat) (op : Operator) (e : E) : evS Φ u (.aug i op e) s = (Res.of (peek s i) s).bind fun x s1 => (pk e (evE Φ e) s1).bind fun y s2 => (Res.of (num x) s2).bind fun _ s3 =>
      (Res.of (binop op x y) s3).bind fun r s4 => .ok .nx (s4.put i (.d r.D)) := by first | (rw [evS]; done) | (rw [evS]; rfl)
@[simp] theorem evS_exp (e : E) : evS Φ u (.exp e) s = (evE Φ e s).bind fun _ s1 => .ok .nx s1 := by first | (rw [evS]; done) | (rw [evS]; rfl)
@[simp] theorem evS_retN  : evS Φ u (.retN ) s = .ok (.rt (.d .non)) s := by first | (rw [evS]; done) | (rw [evS]; rfl)
@[simp] theorem evS_new2 (i r j : Nat) : evS Φ u (.new2 i r j) s = match s.ρ[r]? with
      | some (.d (.lst ds)) => (Res.of (toRows ds) s).bind fun xss s1 => if i < s1.ρ.length ∧ j < s1.ρ.length ∧ s1.ρ.any isO2 = false ∧ xss.length ≤ sizeLine then .ok .nx (s1.put i (.own2 xss)) else .bad
      | _ => .bad := by first | (rw [evS]; done) | (rw [evS]; rfl)
@[simp] theorem evS_six2 (i k1 k2 : Nat) (e : E) : evS Φ u (.six2 i k1 k2 e) s = (evE Φ e s).bind fun r s1 => match s1.ρ[i]?, s1.ρ[k1]?, s1.ρ[k2]? with
      | some (.own2 xss), some (.d (.int n1)), some (.d (.int n2)) => (Res.of (ixN xss.length n1) s1).bind fun j1 s2 => (Res.of (xss[j1]?) s2).bind fun xs s3 => (Res.of (ixN xs.length n2) s3).bind fun j2 s4 =>
          .ok .nx (s4.put i (.own ((rowsD xss).set j1 (.lst ((xs.map .int).set j2 r.D)))))
      | _, _, _ => .bad := by first | (rw [evS]; done) | (rw [evS]; rfl)
@[simp] theorem evS_dm (i : Nat) (m : S) : evS Φ u (.dm i m) s = evS Φ u m (dem s i) := by first | (rw [evS]; done) | (rw [evS]; rfl)
@[simp] theorem evS_ifS (c : E) (a b : List S) : evS Φ u (.ifS c a b) s = (tst c (evE Φ c) s).bind fun t s1 => match t with
      | true => evB Φ u a s1
      | false => evB Φ u b s1 := by first | (rw [evS]; done) | (rw [evS]; rfl)
@[simp] theorem evS_forS (t : Tg) (k : Sk) (src : List E) (b : List S) : evS Φ u (.forS t k src b) s = (evL Φ src s).bind fun xs s1 => (Res.of (srcL k xs) s1).bind fun is s2 => forL (evB Φ u b) t is s2 := by first | (rw [evS]; done) | (rw [evS]; rfl)
@[simp] theorem evS_whl (c : E) (b : List S) : evS Φ u (.whl c b) s = whlL (tst c (evE Φ c)) (evB Φ u b) u s := by first | (rw [evS]; done) | (rw [evS]; rfl)
@[simp] theorem evS_brk  : evS Φ u (.brk ) s = .ok .bk s := by first | (rw [evS]; done) | (rw [evS]; rfl)
@[simp] theorem evS_cnt  : evS Φ u (.cnt ) s = .ok .ct s := by first | (rw [evS]; done) | (rw [evS]; rfl)
@[simp] theorem evS_pss  : evS Φ u (.pss ) s = .ok .nx s := by first | (rw [evS]; done) | (rw [evS]; rfl)
@[simp] theorem evS_bad  : evS Φ u (.bad ) s = .bad := by first | (rw [evS]; done) | (rw [evS]; rfl)
@[simp] theorem evS_rse (c : Nat) (es : List E) : evS Φ u (.rse c es) s = (evL Φ es s).bind fun xs s1 => .ex ⟨c, xs⟩ s1 := by first | (rw [evS]; done) | (rw [evS]; rfl)
@[simp] theorem evS_tryN (b : List S) : evS Φ u (.tryN b) s = match evB Φ u b s with
      | .ok f s1 => .ok f s1
      | _ => .bad := by first | (rw [evS]; done) | (rw [evS]; rfl)
@[simp] theorem evS_tryS (b : List S) (hs : List Hd) : evS Φ u (.tryS b hs) s = match evB Φ u b s with
      | .ex e s1 => evH e s1 hs
      | .ok f s1 => .ok f s1
      | .bad => .bad := by first | (rw [evS]; done) | (rw [evS]; rfl)
@[simp] theorem evS_retV (i : Nat) : evS Φ u (.ret (.var i)) s = match s.ρ[i]? with
      | some (.own xs) => .ok (.rt (.f xs)) (s.put i .no)
      | some (.d x) => .ok (.rt (.d x)) s
      | _ => .bad := by first | (rw [evS]; done) | (rw [evS]; rfl)
@[simp] theorem evS_ret_k (c : D) : evS Φ u (.ret (.k c)) s = (evE Φ (.k c) s).bind fun r s1 => .ok (.rt r) s1 := by rw [evS]; all_goals (intro _ z; cases z)
@[simp] theorem evS_ret_bin (op : Operator) (a b : E) : evS Φ u (.ret (.bin op a b)) s = (evE Φ (.bin op a b) s).bind fun r s1 => .ok (.rt r) s1 := by rw [evS]; all_goals (intro _ z; cases z)
@[simp] theorem evS_ret_cmp (op : CmpOp) (a b : E) : evS Φ u (.ret (.cmp op a b)) s = (evE Φ (.cmp op a b) s).bind fun r s1 => .ok (.rt r) s1 := by rw [evS]; all_goals (intro _ z; cases z)
@[simp] theorem evS_ret_chain (op op' : CmpOp) (a b c : E) : evS Φ u (.ret (.chain op op' a b c)) s = (evE Φ (.chain op op' a b c) s).bind fun r s1 => .ok (.rt r) s1 := by rw [evS]; all_goals (intro _ z; cases z)
@[simp] theorem evS_ret_and (a b : E) : evS Φ u (.ret (.and a b)) s = (evE Φ (.and a b) s).bind fun r s1 => .ok (.rt r) s1 := by rw [evS]; all_goals (intro _ z; cases z)
@[simp] theorem evS_ret_or (a b : E) : evS Φ u (.ret (.or a b)) s = (evE Φ (.or a b) s).bind fun r s1 => .ok (.rt r) s1 := by rw [evS]; all_goals (intro _ z; cases z)
@[simp] theorem evS_ret_not (a : E) : evS Φ u (.ret (.not a)) s = (evE Φ (.not a) s).bind fun r s1 => .ok (.rt r) s1 := by rw [evS]; all_goals (intro _ z; cases z)
@[simp] theorem evS_ret_neg (a : E) : evS Φ u (.ret (.neg a)) s = (evE Φ (.neg a) s).bind fun r s1 => .ok (.rt r) s1 := by rw [evS]; all_goals (intro _ z; cases z)
@[simp] theorem evS_ret_ife (c a b : E) : evS Φ u (.ret (.ife c a b)) s = (evE Φ (.ife c a b) s).bind fun r s1 => .ok (.rt r) s1 := by rw [evS]; all_goals (intro _ z; cases z)
@[simp] theorem evS_ret_tup (es : List E) : evS Φ u (.ret (.tup es)) s = (evE Φ (.tup es) s).bind fun r s1 => .ok (.rt r) s1 := by rw [evS]; all_goals (intro _ z; cases z)
@[simp] theorem evS_ret_lst (es : List E) : evS Φ u (.ret (.lst es)) s = (evE Φ (.lst es) s).bind fun r s1 => .ok (.rt r) s1 := by rw [evS]; all_goals (intro _ z; cases z)
@[simp] theorem evS_ret_ix (a i : E) : evS Φ u (.ret (.ix a i)) s = (evE Φ (.ix a i) s).bind fun r s1 => .ok (.rt r) s1 := by rw [evS]; all_goals (intro _ z; cases z)
@[simp] theorem evS_ret_sl (a : E) (lo hi : Option E) : evS Φ u (.ret (.sl a lo hi)) s = (evE Φ (.sl a lo hi) s).bind fun r s1 => .ok (.rt r) s1 := by rw [evS]; all_goals (intro _ z; cases z)
@[simp] theorem evS_ret_rvs (a : E) : evS Φ u (.ret (.rvs a)) s = (evE Φ (.rvs a) s).bind fun r s1 => .ok (.rt r) s1 := by rw [evS]; all_goals (intro _ z; cases z)
@[simp] theorem evS_ret_call (f : Nat) (es : List E) : evS Φ u (.ret (.call f es)) s = (evE Φ (.call f es) s).bind fun r s1 => .ok (.rt r) s1 := by rw [evS]; all_goals (intro _ z; cases z)
@[simp] theorem evS_ret_blt (b : B) (es : List E) : evS Φ u (.ret (.blt b es)) s = (evE Φ (.blt b es) s).bind fun r s1 => .ok (.rt r) s1 := by rw [evS]; all_goals (intro _ z; cases z)
@[simp] theorem evS_ret_isi (a : E) (t : Ty) : evS Φ u (.ret (.isi a t)) s = (evE Φ (.isi a t) s).bind fun r s1 => .ok (.rt r) s1 := by rw [evS]; all_goals (intro _ z; cases z)
@[simp] theorem evS_ret_comp (vs : List Nat) (t : Tg) (k : Sk) (src : List E) (c : Option E) (elt : E) : evS Φ u (.ret (.comp vs t k src c elt)) s = (evE Φ (.comp vs t k src c elt) s).bind fun r s1 => .ok (.rt r) s1 := by rw [evS]; all_goals (intro _ z; cases z)
@[simp] theorem evS_ret_mt (kvs : List (Int × Int)) : evS Φ u (.ret (.mt kvs)) s = (evE Φ (.mt kvs) s).bind fun r s1 => .ok (.rt r) s1 := by rw [evS]; all_goals (intro _ z; cases z)
@[simp] theorem evS_ret_lrng (es : List E) : evS Φ u (.ret (.lrng es)) s = (evE Φ (.lrng es) s).bind fun r s1 => .ok (.rt r) s1 := by rw [evS]; all_goals (intro _ z; cases z)
@[simp] theorem evS_ret_len2 (i : Nat) (k : Option Nat) : evS Φ u (.ret (.len2 i k)) s = (evE Φ (.len2 i k) s).bind fun r s1 => .ok (.rt r) s1 := by rw [evS]; all_goals (intro _ z; cases z)
@[simp] theorem evB_nil : evB Φ u [] s = .ok .nx s := by rw [evB]
@[simp] theorem evB_cons (c : S) (cs : List S) : evB Φ u (c :: cs) s = (evS Φ u c s).bind fun f s1 => match f with
      | .nx => evB Φ u cs s1
      | f => .ok f s1 := by first | (rw [evB]; done) | (rw [evB]; rfl)
/-! except suites -/
@[simp] theorem evH_nil (e : Exc) : evH e s [] = .ex e s := by rw [evH]
@[simp] theorem evH_named (e : Exc) (is : List Nat) (i : Nat) (as : List HA) (hs : List Hd) : evH e s (⟨is, some i, as⟩ :: hs) = if e.c ∈ is then (if i < s.ρ.length then (evHA e as (s.put i .no)).bind fun f s2 => .ok f (s2.put i .no) else .bad) else evH e s hs := by rw [evH]
@[simp] theorem evH_bare (e : Exc) (is : List Nat) (as : List HA) (hs : List Hd) : evH e s (⟨is, none, as⟩ :: hs) = if e.c ∈ is then evHA e as s else evH e s hs := by rw [evH]
@[simp] theorem evHA_nil (e : Exc) : evHA e [] s = .ok .nx s := by rw [evHA]
@[simp] theorem evHA_set (e : Exc) (i : Nat) (h : HE) (r : List HA) : evHA e (.set i h :: r) s = (Res.of (hvE e s h) s).bind fun x s1 => evHA e r (s1.put i (.d x)) := by rw [evHA]
@[simp] theorem evHA_ret (e : Exc) (h : HE) (r : List HA) : evHA e (.ret h :: r) s = (Res.of (hvE e s h) s).bind fun x s1 => .ok (.rt (.d x)) s1 := by rw [evHA]
@[simp] theorem evHA_pss (e : Exc) (r : List HA) : evHA e (.pss :: r) s = evHA e r s := by rw [evHA]
@[simp] theorem evHA_cnt (e : Exc) (r : List HA) : evHA e (.cnt :: r) s = .ok .ct s := by rw [evHA]
@[simp] theorem evHA_brk (e : Exc) (r : List HA) : evHA e (.brk :: r) s = .ok .bk s := by rw [evHA]
@[simp] theorem hvE_k (e : Exc) (c : D) : hvE e s (.k c) = some c := by rw [hvE]
@[simp] theorem hvE_fld (e : Exc) (n : Nat) : hvE e s (.fld n) = e.fs[n]? := by rw [hvE]
@[simp] theorem hvE_isx (e : Exc) (is : List Nat) : hvE e s (.isx is) = some (.bl (decide (e.c ∈ is))) := by rw [hvE]
@[simp] theorem hvE_var (e : Exc) (i : Nat) : hvE e s (.var i) = peek s i := by rw [hvE]
@[simp] theorem hvE_and (e : Exc) (a b : HE) : hvE e s (.and a b) = match hvE e s a with
    | some (.bl true) => hvE e s b
    | some (.bl false) => some (.bl false)
    | _ => none := by first | (rw [hvE]; done) | (rw [hvE]; rfl)
@[simp] theorem hvE_rpr (e : Exc) (n : Nat) : hvE e s (.rpr n) = match e.fs[n]? with
    | some x => (blt .repr [x]).map R.D
    | none => none := by first | (rw [hvE]; done) | (rw [hvE]; rfl)
@[simp] theorem hvE_lst (e : Exc) (es : List HE) : hvE e s (.lst es) = (hvL e s es).bind fun xs => if xs.length ≤ sizeLine then some (.lst xs) else none := by first | (rw [hvE]; done) | (rw [hvE]; rfl)
@[simp] theorem hvE_tup (e : Exc) (es : List HE) : hvE e s (.tup es) = (hvL e s es).bind fun xs => if xs.length ≤ sizeLine then some (.tup xs) else none := by first | (rw [hvE]; done) | (rw [hvE]; rfl)
@[simp] theorem hvL_nil (e : Exc) : hvL e s [] = some [] := by rw [hvL]
@[simp] theorem hvL_cons (e : Exc) (h : HE) (hs : List HE) : hvL e s (h :: hs) = match hvE e s h with
    | some x => (hvL e s hs).map (x :: ·)
    | none => none := by first | (rw [hvL]; done) | (rw [hvL]; rfl)
end
/-! ### states -/
section
variable (ρ : List Cell) (g : Hand) (i : Nat)
@[simp] theorem put_mk (c : Cell) : Stt.put ⟨ρ, g⟩ i c = ⟨ρ.set i c, g⟩ := of_eq_true (eq_self _)
@[simp] theorem forget_nil : Stt.forget ⟨ρ, g⟩ [] = ⟨ρ, g⟩ := of_eq_true (eq_self _)
@[simp] theorem forget_cons (is : List Nat) : Stt.forget ⟨ρ, g⟩ (i :: is) = (Stt.forget ⟨ρ, g⟩ is).put i .no := of_eq_true (eq_self _)
@[simp] theorem give_mk : give i ⟨ρ, g⟩ = match ρ[i]? with
  | some (.d x) => .ok (.d x) ⟨ρ, g⟩
  | some (.own xs) => .ok (.d (.lst xs)) ⟨ρ.set i (.d (.lst xs)), g⟩
  | _ => .bad := of_eq_true (eq_self _)
@[simp] theorem peek_mk : peek ⟨ρ, g⟩ i = match ρ[i]? with
  | some (.d x) => some x
  | some (.own xs) => some (.lst xs)
  | _ => none := of_eq_true (eq_self _)
@[simp] theorem ownAt_mk : ownAt ⟨ρ, g⟩ i = match ρ[i]? with
  | some (.own xs) => some xs
  | _ => none := of_eq_true (eq_self _)
end
/-! ### values -/
@[simp] theorem RD_d (x : D) : R.D (.d x) = x := of_eq_true (eq_self _)
@[simp] theorem RD_f (x : List D) : R.D (.f x) = .lst x := of_eq_true (eq_self _)
@[simp] theorem frres_ret (r : R) (g : Hand) (s : Stt) : FR.res (.ret r g) s = .ok r ⟨s.ρ, g⟩ := of_eq_true (eq_self _)
@[simp] theorem tst_eq (e : E) (f : Stt → Res R) (s : Stt) : tst e f s = (pk e f s).bind fun x s1 => Res.of (truth x) s1 := of_eq_true (eq_self _)
@[simp] theorem truth_non : truth .non = some false := of_eq_true (eq_self _)
@[simp] theorem truth_bl (b : Bool) : truth (.bl b) = some b := of_eq_true (eq_self _)
@[simp] theorem truth_int (i : Int) : truth (.int i) = some (!decide (i = 0)) := of_eq_true (eq_self _)
@[simp] theorem truth_lst (x : List D) : truth (.lst x) = some (!x.isEmpty) := of_eq_true (eq_self _)
@[simp] theorem truth_tup (x : List D) : truth (.tup x) = some (!x.isEmpty) := of_eq_true (eq_self _)
@[simp] theorem num_int (i : Int) : num (.int i) = some i := of_eq_true (eq_self _)
@[simp] theorem add_int (i j : Int) : binop .Add (.int i) (.int j) = some (.d (.int (i + j))) := of_eq_true (eq_self _)
@[simp] theorem sub_int (i j : Int) : binop .Sub (.int i) (.int j) = some (.d (.int (i - j))) := of_eq_true (eq_self _)
theorem mul_int {i j : Int} (h : mulOk i j = true) : binop .Mult (.int i) (.int j) = some (.d (.int (i * j))) := if_pos h
theorem fdiv_int {i j : Int} (h : divOk j = true) : binop .FloorDiv (.int i) (.int j) = some (.d (.int (i / j))) := if_pos h
theorem mod_int {i j : Int} (h : 0 < j) : binop .Mod (.int i) (.int j) = some (.d (.int (i % j))) := if_pos h
theorem pow_int {i j : Int} (h : powOk i j = true) : binop .Pow (.int i) (.int j) = some (.d (.int (i ^ j.toNat))) := if_pos h
theorem add_tup {a b : List D} (h : a.length + b.length ≤ sizeLine) : binop .Add (.tup a) (.tup b) = some (.d (.tup (a ++ b))) := if_pos h
theorem add_lst {a b : List D} (h : a.length + b.length ≤ sizeLine) : binop .Add (.lst a) (.lst b) = some (.f (a ++ b)) := if_pos h
@[simp] theorem lt_int (i j : Int) : cmpop .Lt (.int i) (.int j) = some (decide (i < j)) := of_eq_true (eq_self _)
@[simp] theorem le_int (i j : Int) : cmpop .LtE (.int i) (.int j) = some (decide (i ≤ j)) := of_eq_true (eq_self _)
@[simp] theorem gt_int (i j : Int) : cmpop .Gt (.int i) (.int j) = some (decide (j < i)) := of_eq_true (eq_self _)
@[simp] theorem ge_int (i j : Int) : cmpop .GtE (.int i) (.int j) = some (decide (j ≤ i)) := of_eq_true (eq_self _)
@[simp] theorem is_non (x : D) : cmpop .Is x .non = some (isNon x) := by cases x <;> rfl
@[simp] theorem isnot_non (x : D) : cmpop .IsNot x .non = some (!isNon x) := by cases x <;> rfl
@[simp] theorem isNon_int (i : Int) : isNon (.int i) = false := of_eq_true (eq_self _)
@[simp] theorem isNon_str (i : Str) : isNon (.str i) = false := of_eq_true (eq_self _)
@[simp] theorem isNon_non : isNon .non = true := of_eq_true (eq_self _)
@[simp] theorem isNon_tup (x : List D) : isNon (.tup x) = false := of_eq_true (eq_self _)
@[simp] theorem isNon_lst (x : List D) : isNon (.lst x) = false := of_eq_true (eq_self _)
@[simp] theorem eqD_int (i j : Int) : eqD (.int i) (.int j) = some (decide (i = j)) := by
  have e : (i == j) = decide (i = j) := rfl
  simp [eqD, D.py, SeqAt.shaped, PyData.canLay0, PyData.depth, PyData.eqv, e]
@[simp] theorem eqD_bl (i j : Bool) : eqD (.bl i) (.bl j) = some (i == j) := by simp [eqD, D.py, SeqAt.shaped, PyData.canLay0, PyData.depth, PyData.eqv]
@[simp] theorem eqD_str (i j : Str) : eqD (.str i) (.str j) = some (decide (i = j)) := of_eq_true (eq_self _)
@[simp] theorem cmp_eq (x y : D) : cmpop .Eq x y = eqD x y := by cases x <;> cases y <;> rfl
@[simp] theorem cmp_ne (x y : D) : cmpop .NotEq x y = (eqD x y).map (!·) := by cases x <;> cases y <;> rfl
@[simp] theorem itemS_hand (g : Hand) (i : Int) : itemS g .hand (.int i) = handAt g i := of_eq_true (eq_self _)
@[simp] theorem itemS_lst (g : Hand) (xs : List D) (i : D) : itemS g (.lst xs) i = item (.lst xs) i := of_eq_true (eq_self _)
@[simp] theorem itemS_tup (g : Hand) (xs : List D) (i : D) : itemS g (.tup xs) i = item (.tup xs) i := of_eq_true (eq_self _)
@[simp] theorem handAt_0 (g : Hand) : handAt g 0 = some (.lst (g.cells.map .int)) := of_eq_true (eq_self _)
@[simp] theorem handAt_1 (g : Hand) : handAt g 1 = some (.int g.ix) := of_eq_true (eq_self _)
@[simp] theorem handAt_2 (g : Hand) : handAt g 2 = some (.int g.rest) := of_eq_true (eq_self _)
@[simp] theorem handAt_3 (g : Hand) : handAt g 3 = some (.int g.total) := of_eq_true (eq_self _)
@[simp] theorem setH_1 (g : Hand) (v : Int) : setH g (.int 1) (.int v) = some { g with ix := v } := of_eq_true (eq_self _)
@[simp] theorem setH_2 (g : Hand) (v : Int) : setH g (.int 2) (.int v) = some { g with rest := v } := of_eq_true (eq_self _)
@[simp] theorem setH_3 (g : Hand) (v : Int) : setH g (.int 3) (.int v) = some { g with total := v } := of_eq_true (eq_self _)
@[simp] theorem setT_d (i : Nat) (x : D) (s : Stt) : setT (.nm i) (.d x) s = some (s.put i (.d x)) := of_eq_true (eq_self _)
theorem setT_f (i : Nat) (x : List D) (s : Stt) (h : i < s.ρ.length) : setT (.nm i) (.f x) s = some (s.put i (.own x)) := if_pos h
@[simp] theorem setT_fm (i : Nat) (x : List D) (ρ : List Cell) (g : Hand) : setT (.nm i) (.f x) ⟨ρ, g⟩ = if i < ρ.length then some ⟨ρ.set i (.own x), g⟩ else none := of_eq_true (eq_self _)
@[simp] theorem bindT_nm (i : Nat) (x : D) (s : Stt) : bindT (.nm i) x s = some (s.put i (.d x)) := of_eq_true (eq_self _)
@[simp] theorem len_lst (xs : List D) : blt .len [.lst xs] = some (.d (.int xs.length)) := of_eq_true (eq_self _)
@[simp] theorem len_tup (xs : List D) : blt .len [.tup xs] = some (.d (.int xs.length)) := of_eq_true (eq_self _)
@[simp] theorem int_int (i : Int) : blt .int [.int i] = some (.d (.int i)) := of_eq_true (eq_self _)
@[simp] theorem int_bl (i : Bool) : blt .int [.bl i] = some (.d (.int (if i then 1 else 0))) := of_eq_true (eq_self _)
@[simp] theorem min_int (i j : Int) : blt .min [.int i, .int j] = some (.d (.int (if j < i then j else i))) := of_eq_true (eq_self _)
@[simp] theorem max_int (i j : Int) : blt .max [.int i, .int j] = some (.d (.int (if j > i then j else i))) := of_eq_true (eq_self _)
@[simp] theorem abs_int (i : Int) : blt .abs [.int i] = some (.d (.int (if i < 0 then -i else i))) := of_eq_true (eq_self _)
@[simp] theorem tuple_lst (xs : List D) : blt .tuple [.lst xs] = some (.d (.tup xs)) := of_eq_true (eq_self _)
@[simp] theorem tuple_tup (xs : List D) : blt .tuple [.tup xs] = some (.d (.tup xs)) := of_eq_true (eq_self _)
@[simp] theorem list_lst (xs : List D) : blt .list [.lst xs] = some (.f xs) := of_eq_true (eq_self _)
@[simp] theorem list_tup (xs : List D) : blt .list [.tup xs] = some (.f xs) := of_eq_true (eq_self _)
@[simp] theorem isTy_int (i : Int) (t : Ty) : isTy (.int i) t = some (t == .int) := of_eq_true (eq_self _)
@[simp] theorem isTy_bl (i : Bool) (t : Ty) : isTy (.bl i) t = some (t == .bool || t == .int) := of_eq_true (eq_self _)
@[simp] theorem isTy_tup (i : List D) (t : Ty) : isTy (.tup i) t = some (t == .tuple) := of_eq_true (eq_self _)
@[simp] theorem isTy_lst (i : List D) (t : Ty) : isTy (.lst i) t = some (t == .list) := of_eq_true (eq_self _)
@[simp] theorem isTy_non (t : Ty) : isTy .non t = some false := of_eq_true (eq_self _)
@[simp] theorem ty_bool_bool : (Ty.bool == Ty.bool) = true := of_eq_true (eq_self _)
@[simp] theorem ty_bool_int : (Ty.bool == Ty.int) = false := of_eq_true (eq_self _)
@[simp] theorem ty_bool_list : (Ty.bool == Ty.list) = false := of_eq_true (eq_self _)
@[simp] theorem ty_bool_tuple : (Ty.bool == Ty.tuple) = false := of_eq_true (eq_self _)
@[simp] theorem ty_bool_str : (Ty.bool == Ty.str) = false := of_eq_true (eq_self _)
@[simp] theorem ty_int_bool : (Ty.int == Ty.bool) = false := of_eq_true (eq_self _)
@[simp] theorem ty_int_int : (Ty.int == Ty.int) = true := of_eq_true (eq_self _)
@[simp] theorem ty_int_list : (Ty.int == Ty.list) = false := of_eq_true (eq_self _)
@[simp] theorem ty_int_tuple : (Ty.int == Ty.tuple) = false := of_eq_true (eq_self _)
@[simp] theorem ty_int_str : (Ty.int == Ty.str) = false := of_eq_true (eq_self _)
@[simp] theorem ty_list_bool : (Ty.list == Ty.bool) = false := of_eq_true (eq_self _)
@[simp] theorem ty_list_int : (Ty.list == Ty.int) = false := of_eq_true (eq_self _)
@[simp] theorem ty_list_list : (Ty.list == Ty.list) = true := of_eq_true (eq_self _)
@[simp] theorem ty_list_tuple : (Ty.list == Ty.tuple) = false := of_eq_true (eq_self _)
@[simp] theorem ty_list_str : (Ty.list == Ty.str) = false := of_eq_true (eq_self _)
@[simp] theorem ty_tuple_bool : (Ty.tuple == Ty.bool) = false := of_eq_true (eq_self _)
@[simp] theorem ty_tuple_int : (Ty.tuple == Ty.int) = false := of_eq_true (eq_self _)
@[simp] theorem ty_tuple_list : (Ty.tuple == Ty.list) = false := of_eq_true (eq_self _)
@[simp] theorem ty_tuple_tuple : (Ty.tuple == Ty.tuple) = true := of_eq_true (eq_self _)
@[simp] theorem ty_tuple_str : (Ty.tuple == Ty.str) = false := of_eq_true (eq_self _)
@[simp] theorem ty_str_bool : (Ty.str == Ty.bool) = false := of_eq_true (eq_self _)
@[simp] theorem ty_str_int : (Ty.str == Ty.int) = false := of_eq_true (eq_self _)
@[simp] theorem ty_str_list : (Ty.str == Ty.list) = false := of_eq_true (eq_self _)
@[simp] theorem ty_str_tuple : (Ty.str == Ty.tuple) = false := of_eq_true (eq_self _)
@[simp] theorem ty_str_str : (Ty.str == Ty.str) = true := of_eq_true (eq_self _)
@[simp] theorem srcL_l (xs : List D) : srcL .seq [.lst xs] = some xs := of_eq_true (eq_self _)
@[simp] theorem srcL_t (xs : List D) : srcL .seq [.tup xs] = some xs := of_eq_true (eq_self _)
theorem srcL_r {j : Int} (h : rngOk 0 j = true) : srcL .rng [.int j] = some (rngL 0 j) := if_pos h
theorem srcL_r2 {i j : Int} (h : rngOk i j = true) : srcL .rng [.int i, .int j] = some (rngL i j) := if_pos h
/-! ### items -/
theorem ixN_nat {n i : Nat} (h : i < n) : ixN n (i : Int) = some i := by
  unfold ixN
  rw [if_pos (by omega), if_pos (by omega)]; rfl
theorem ixN_int {n : Nat} {i : Int} (h0 : 0 ≤ i) (h : i < n) : ixN n i = some i.toNat := by
  unfold ixN
  rw [if_pos h0, if_pos h]
theorem ixN_neg {n : Nat} {i : Int} (h0 : i < 0) (h : -(n : Int) ≤ i) : ixN n i = some (i + n).toNat := by
  unfold ixN
  rw [if_neg (by omega), if_pos h]
theorem item_lst {xs : List D} {i : Int} {x : D} (h0 : 0 ≤ i) (h : xs[i.toNat]? = some x) : item (.lst xs) (.int i) = some x := by
  have hl := (List.getElem?_eq_some_iff.mp h).1
  show (ixN xs.length i).bind (fun j => xs[j]?) = _
  rw [ixN_int h0 (by omega)]
  exact h
theorem item_tup {xs : List D} {i : Int} {x : D} (h0 : 0 ≤ i) (h : xs[i.toNat]? = some x) : item (.tup xs) (.int i) = some x := by
  have hl := (List.getElem?_eq_some_iff.mp h).1
  show (ixN xs.length i).bind (fun j => xs[j]?) = _
  rw [ixN_int h0 (by omega)]
  exact h
/-! ### loops -/
theorem forL_inv {f : Stt → Res Fl} {t : Tg} (I : Nat → Stt → Prop) : ∀ (xs : List D) (n : Nat) (s : Stt), I n s →
    (∀ i x s, xs[i]? = some x → I (n + i) s → ∃ s1, bindT t x s = some s1 ∧ ∃ s2, (f s1 = .ok .nx s2 ∨ f s1 = .ok .ct s2) ∧ I (n + i + 1) s2) → ∃ s', forL f t xs s = .ok .nx s' ∧ I (n + xs.length) s'
  | [], n, s, h, _ => ⟨s, rfl, h⟩
  | x :: xs, n, s, h, k => by
    obtain ⟨s1, e1, s2, e2, h2⟩ := k 0 x s rfl h
    obtain ⟨s', e3, h3⟩ := forL_inv I xs (n + 1) s2 h2 fun i y s hy hi => by
      have z := k (i + 1) y s hy (by rw [show n + (i + 1) = n + 1 + i from by omega]; exact hi)
      rw [show n + (i + 1) + 1 = n + 1 + i + 1 from by omega] at z
      exact z
    refine ⟨s', ?_, by rw [List.length_cons, show n + (xs.length + 1) = n + 1 + xs.length from by omega]; exact h3⟩
    unfold forL
    rw [e1]
    rcases e2 with e2 | e2 <;> (simp only [e2]; exact e3)
/-- a def's answer, by its body's (the nested match of runF is kept out of simp's way: the kernel runs wild over it) -/
theorem runF_rt {Φ : FEnv} {u n : Nat} {b : List S} {xs : List D} {g g' : Hand} {r : R} (h : ∃ ρ, evB Φ u b ⟨xs.map .d ++ List.replicate (n - xs.length) .no, g⟩ = .ok (.rt r) ⟨ρ, g'⟩) : runF Φ u n b xs g = .ret r g' := by
  obtain ⟨ρ, h⟩ := h
  unfold runF
  rw [h]
theorem runF_nx {Φ : FEnv} {u n : Nat} {b : List S} {xs : List D} {g g' : Hand} (h : ∃ ρ, evB Φ u b ⟨xs.map .d ++ List.replicate (n - xs.length) .no, g⟩ = .ok .nx ⟨ρ, g'⟩) : runF Φ u n b xs g = .ret (.d .non) g' := by
  obtain ⟨ρ, h⟩ := h
  unfold runF
  rw [h]
/-- what a loop ends with -/
def flO (o : Option R) : Fl :=
  match o with
  | none => .nx
  | some v => .rt v
/-- a loop that leaves the state, and may return -/
theorem forL_map {α : Type} {f : Stt → Res Fl} {t : Tg} (I : Stt → Prop) (e : α → D) (r : α → Option R) : ∀ (xs : List α) (s : Stt), I s → (∀ x ∈ xs, ∀ s, I s → ∃ s1, bindT t (e x) s = some s1 ∧ ∃ s2, I s2 ∧ f s1 = .ok (flO (r x)) s2) →
    ∃ s', I s' ∧ forL f t (xs.map e) s = .ok (flO (xs.findSome? r)) s'
  | [], s, h, _ => ⟨s, h, rfl⟩
  | x :: xs, s, h, k => by
    obtain ⟨s1, e1, s2, h2, e2⟩ := k x List.mem_cons_self s h
    rw [List.map_cons, List.findSome?_cons]
    unfold forL
    cases hr : r x with
    | some v =>
      rw [hr] at e2
      exact ⟨s2, h2, by simp only [e1, e2]; rfl⟩
    | none =>
      rw [hr] at e2
      obtain ⟨s', h3, e3⟩ := forL_map I e r xs s2 h2 fun y hy => k y (List.mem_cons_of_mem _ hy)
      exact ⟨s', h3, by simp only [e1, e2]; exact e3⟩
/-- a loop that folds -/
theorem forL_fold {α β : Type} {f : Stt → Res Fl} {t : Tg} (I : β → Stt → Prop) (e : α → D) (st : β → α → β) : ∀ (xs : List α) (b : β) (s : Stt), I b s → (∀ x ∈ xs, ∀ b s, I b s → ∃ s1, bindT t (e x) s = some s1 ∧ ∃ s2, I (st b x) s2 ∧ f s1 = .ok .nx s2) →
    ∃ s', I (xs.foldl st b) s' ∧ forL f t (xs.map e) s = .ok .nx s'
  | [], b, s, h, _ => ⟨s, h, rfl⟩
  | x :: xs, b, s, h, k => by
    obtain ⟨s1, e1, s2, h2, e2⟩ := k x List.mem_cons_self b s h
    obtain ⟨s', h3, e3⟩ := forL_fold I e st xs (st b x) s2 h2 fun y hy => k y (List.mem_cons_of_mem _ hy)
    refine ⟨s', h3, ?_⟩
    rw [List.map_cons]
    unfold forL
    simp only [e1, e2]
    exact e3
/-- a comprehension that leaves the state -/
theorem compL_eq {f : Stt → Res (Option D)} {t : Tg} {vs : List Nat} {s0 : Stt} (h : D → Option D) : ∀ (xs acc : List D), (∀ x ∈ xs, ∃ s1 s2, bindT t x s0 = some s1 ∧ f s1 = .ok (h x) s2 ∧ s2.forget vs = s0) → acc.length + xs.length ≤ sizeLine →
    compL f t vs xs acc s0 = .ok (acc ++ xs.filterMap h) s0
  | [], acc, _, _ => by simp [compL]
  | x :: xs, acc, k, hl => by
    obtain ⟨s1, s2, e1, e2, e3⟩ := k x List.mem_cons_self
    have hl' : acc.length + (xs.length + 1) ≤ sizeLine := hl
    unfold compL
    simp only [e1, e2]
    cases hx : h x with
    | none =>
      simp only [e3]
      rw [compL_eq h xs acc (fun y hy => k y (List.mem_cons_of_mem _ hy)) (by omega), List.filterMap_cons, hx]
    | some y =>
      simp only [e3]
      rw [if_pos (by omega), compL_eq h xs (acc ++ [y]) (fun z hz => k z (List.mem_cons_of_mem _ hz)) (by rw [List.length_append, List.length_singleton]; omega), List.filterMap_cons, hx]
      simp
/-- a comprehension that changes the hand -/
theorem compL_inv {f : Stt → Res (Option D)} {t : Tg} {vs : List Nat} (I : Stt → Prop) (P : D → Prop) : ∀ (xs acc : List D) (s : Stt), I s → (∀ x ∈ xs, ∀ s, I s → ∃ s1 s2 y, bindT t x s = some s1 ∧ f s1 = .ok (some y) s2 ∧ I (s2.forget vs) ∧ P y) → acc.length + xs.length ≤ sizeLine →
    ∃ ys s', compL f t vs xs acc s = .ok (acc ++ ys) s' ∧ I s' ∧ ys.length = xs.length ∧ ∀ y ∈ ys, P y
  | [], acc, s, hi, _, _ => ⟨[], s, by simp [compL], hi, rfl, fun y z => by cases z⟩
  | x :: xs, acc, s, hi, k, hl => by
    obtain ⟨s1, s2, y, e1, e2, hi2, hp⟩ := k x List.mem_cons_self s hi
    have hl' : acc.length + (xs.length + 1) ≤ sizeLine := hl
    obtain ⟨ys, s', e3, h3, l3, p3⟩ := compL_inv I P xs (acc ++ [y]) _ hi2 (fun z hz => k z (List.mem_cons_of_mem _ hz)) (by rw [List.length_append, List.length_singleton]; omega)
    refine ⟨y :: ys, s', ?_, h3, by simp [l3], fun z hz => ?_⟩
    · unfold compL
      simp only [e1, e2]
      rw [if_pos (by omega), e3]
      simp
    · rcases List.mem_cons.mp hz with rfl | hz
      · exact hp
      · exact p3 z hz
theorem compL_mapO {α : Type} {f : Stt → Res (Option D)} {t : Tg} {vs : List Nat} {s0 : Stt} (e : α → D) (o : α → Option D) : ∀ (xs : List α) (acc : List D), (∀ x ∈ xs, ∃ s1 s2, bindT t (e x) s0 = some s1 ∧ f s1 = .ok (o x) s2 ∧ s2.forget vs = s0) → acc.length + xs.length ≤ sizeLine →
    compL f t vs (xs.map e) acc s0 = .ok (acc ++ xs.filterMap o) s0
  | [], acc, _, _ => by simp [compL]
  | x :: xs, acc, k, hl => by
    obtain ⟨s1, s2, e1, e2, e3⟩ := k x List.mem_cons_self
    have hl' : acc.length + (xs.length + 1) ≤ sizeLine := hl
    rw [List.map_cons]
    unfold compL
    simp only [e1, e2]
    cases hx : o x with
    | none =>
      simp only [e3]
      rw [compL_mapO e o xs acc (fun y hy => k y (List.mem_cons_of_mem _ hy)) (by omega), List.filterMap_cons, hx]
    | some y =>
      simp only [e3]
      rw [if_pos (by omega), compL_mapO e o xs (acc ++ [y]) (fun z hz => k z (List.mem_cons_of_mem _ hz)) (by rw [List.length_append, List.length_singleton]; omega), List.filterMap_cons, hx]
      simp
theorem compR_map {α : Type} {Φ : FEnv} {vs : List Nat} {t : Tg} {elt : E} {s0 : Stt} (e h : α → D) {xs : List α} (k : ∀ x ∈ xs, ∃ s1, bindT t (e x) s0 = some s1 ∧ ∃ r s2, evE Φ elt s1 = .ok r s2 ∧ r.D = h x ∧ s2.forget vs = s0) (hl : xs.length ≤ sizeLine) :
    compR Φ vs t none elt (xs.map e) s0 = .ok (xs.map h) s0 := by
  unfold compR
  rw [compL_mapO e (fun x => some (h x)) xs [] (fun x hx => by
    obtain ⟨s1, e1, r, s2, e2, e3, e4⟩ := k x hx
    exact ⟨s1, s2, e1, by simp [e2, e3], e4⟩) (by simpa using hl)]
  simp
theorem fm_filter {α : Type} (q : α → Bool) (h : α → D) : ∀ xs : List α, xs.filterMap (fun x => if q x then some (h x) else none) = (xs.filter q).map h
  | [] => rfl
  | x :: xs => by
    rw [List.filterMap_cons]
    by_cases z : q x = true
    · rw [List.filter_cons_of_pos z]
      simp [z, fm_filter q h xs]
    · rw [List.filter_cons_of_neg z]
      simp [z, fm_filter q h xs]
theorem compR_filter {α : Type} {Φ : FEnv} {vs : List Nat} {t : Tg} {c elt : E} {s0 : Stt} (e h : α → D) (q : α → Bool) {xs : List α} (k : ∀ x ∈ xs, ∃ s1, bindT t (e x) s0 = some s1 ∧ ∃ s2, tst c (evE Φ c) s1 = .ok (q x) s2 ∧ s2.forget vs = s0 ∧ (q x = true → ∃ r s3, evE Φ elt s2 = .ok r s3 ∧ r.D = h x ∧ s3.forget vs = s0)) (hl : xs.length ≤ sizeLine) :
    compR Φ vs t (some c) elt (xs.map e) s0 = .ok ((xs.filter q).map h) s0 := by
  unfold compR
  rw [compL_mapO e (fun x => if q x then some (h x) else none) xs [] (fun x hx => by
    obtain ⟨s1, e1, s2, e2, e4, e5⟩ := k x hx
    by_cases z : q x = true
    · obtain ⟨r, s3, e6, e7, e8⟩ := e5 z
      rw [z] at e2
      exact ⟨s1, s3, e1, by rw [evO1_some, e2]; simp [e6, e7, z], e8⟩
    · rw [Bool.not_eq_true] at z
      rw [z] at e2
      exact ⟨s1, s2, e1, by rw [evO1_some, e2]; simp [z], e4⟩) (by simpa using hl), fm_filter]
  simp
/-- a comprehension that changes the hand -/
theorem compR_inv {α : Type} {Φ : FEnv} {vs : List Nat} {t : Tg} {elt : E} (I : Stt → Prop) (P : D → Prop) (e : α → D) {xs : List α} {s : Stt} (hi : I s) (k : ∀ x ∈ xs, ∀ s, I s → ∃ s1, bindT t (e x) s = some s1 ∧ ∃ r s2, evE Φ elt s1 = .ok r s2 ∧ I (s2.forget vs) ∧ P r.D) (hl : xs.length ≤ sizeLine) :
    ∃ ys s', compR Φ vs t none elt (xs.map e) s = .ok ys s' ∧ I s' ∧ ys.length = xs.length ∧ ∀ y ∈ ys, P y := by
  obtain ⟨ys, s', e1, h1, l1, p1⟩ := compL_inv (f := fun s => (evO1 Φ none s).bind fun b s3 => match b with
        | true => (evE Φ elt s3).bind fun y s4 => .ok (some y.D) s4
        | false => .ok none s3) (t := t) (vs := vs) I P (xs.map e) [] s hi (fun x hx s hs => by
      obtain ⟨y, hy, rfl⟩ := List.mem_map.mp hx
      obtain ⟨s1, e1, r, s2, e2, e3, e4⟩ := k y hy s hs
      exact ⟨s1, s2, r.D, e1, by simp [e2], e3, e4⟩) (by simpa using hl)
  exact ⟨ys, s', e1, h1, by rw [l1, List.length_map], p1⟩
end PD

set_option Elab.async false
set_option linter.all false
set_option maxRecDepth 100000
set_option maxHeartbeats 4000000
/-! PyH: the law's hand: what _law_mixed and _law_take answer. -/
namespace PD
open PySem

theorem log2_le {n k : Nat} (h : n < 2 ^ k) (hk : 0 < k) : n.log2 < k := by
  by_cases z : n = 0
  · subst z
    show Nat.log2 0 < k
    rw [Nat.log2_zero]; exact hk
  · exact (Nat.log2_lt z).mpr h
theorem mulOk_of {i j : Int} (hi : i.natAbs < 2 ^ 200) (hj : j.natAbs < 2 ^ 200) : mulOk i j = true := by
  unfold mulOk
  have h1 := log2_le hi (by decide)
  have h2 := log2_le hj (by decide)
  exact decide_eq_true (by omega)
theorem natAbs_lt {i : Int} {k : Nat} (h0 : -(2 ^ 100) < i) (h : i < 2 ^ 100) : i.natAbs < 2 ^ 200 := by
  have e : (2 : Nat) ^ 100 ≤ 2 ^ 200 := Nat.pow_le_pow_right (by decide) (by decide)
  have : i.natAbs < 2 ^ 100 := by omega
  omega
theorem mulOk_100 {i j : Int} (h1 : -(2 ^ 100) < i) (h2 : i < 2 ^ 100) (h3 : -(2 ^ 100) < j) (h4 : j < 2 ^ 100) : mulOk i j = true := mulOk_of (natAbs_lt (k := 0) h1 h2) (natAbs_lt (k := 0) h3 h4)
theorem divOk_of {j : Int} (h0 : 0 < j) (h : j < 2 ^ 100) : divOk j = true := by
  unfold divOk
  have h1 := log2_le (k := 200) (natAbs_lt (k := 0) (by omega) h) (by decide)
  rw [decide_eq_true h0, decide_eq_true (by omega : j.natAbs.log2 < 9000)]; rfl

def bMixed : List S := [
  .set (.nm 2) (.bin .Mod (.blt .int [(.bin .Add (.bin .Add (.bin .Mult (.var 0) (.k (.int 48271))) (.bin .Mult (.var 1) (.k (.int 7919)))) (.k (.int 30011)))]) (.k (.int 2147483399))),
  .set (.nm 3) (.bin .Mod (.blt .int [(.bin .Add (.bin .Add (.bin .Mult (.var 2) (.var 2)) (.bin .Mult (.var 1) (.k (.int 92821)))) (.bin .FloorDiv (.var 2) (.k (.int 131))))]) (.k (.int 2147483629))),
  .ret (.bin .FloorDiv (.blt .int [(.bin .Mod (.blt .int [(.bin .Add (.bin .Mult (.var 3) (.k (.int 69621))) (.bin .FloorDiv (.var 2) (.k (.int 13))))]) (.k (.int 2147483587)))]) (.k (.int 32)))]
def bTake (m : Nat) : List S := [
  .ifS (.and (.cmp .Eq (.ix (.var 0) (.k (.int 2))) (.k (.int 0))) (.cmp .Lt (.ix (.var 0) (.k (.int 1))) (.blt .len [(.ix (.var 0) (.k (.int 0)))]))) [.set (.nm 2) (.ix (.ix (.var 0) (.k (.int 0))) (.ix (.var 0) (.k (.int 1)))), .six 0 (.k (.int 1)) (.bin .Add (.ix (.var 0) (.k (.int 1))) (.k (.int 1))), .ifS (.cmp .Lt (.var 2) (.bin .Pow (.k (.int 10)) (.k (.int 18)))) [.ret (.bin .Mod (.blt .int [(.call m [(.bin .Mod (.blt .int [(.var 2)]) (.k (.int 2147483399))), (.ix (.var 0) (.k (.int 1)))])]) (.var 1))] [], .six 0 (.k (.int 2)) (.var 2)] [],
  .ifS (.cmp .Gt (.ix (.var 0) (.k (.int 2))) (.k (.int 0))) [.set (.nm 3) (.ix (.var 0) (.k (.int 2))), .six 0 (.k (.int 2)) (.bin .FloorDiv (.blt .int [(.var 3)]) (.var 1)), .ret (.bin .Mod (.blt .int [(.var 3)]) (.var 1))] [],
  .six 0 (.k (.int 3)) (.bin .Mod (.blt .int [(.bin .Add (.ix (.var 0) (.k (.int 3))) (.k (.int 1)))]) (.k (.int 2147483549))),
  .ret (.bin .Mod (.blt .int [(.call m [(.ix (.var 0) (.k (.int 3))), (.ix (.var 0) (.k (.int 1)))])]) (.var 1))]
def mixed (a b : Int) : Int :=
  let o := (a * 48271 + b * 7919 + 30011) % 2147483399
  let t := (o * o + b * 92821 + o / 131) % 2147483629
  ((t * 69621 + o / 13) % 2147483587) / 32
theorem mixed_ok (Φ : FEnv) (u : Nat) (g : Hand) {a b : Int} (a0 : -(2 ^ 90) < a) (a1 : a < 2 ^ 90) (b0 : -(2 ^ 90) < b) (b1 : b < 2 ^ 90) : runF Φ u 4 bMixed [.int a, .int b] g = .ret (.d (.int (mixed a b))) g := by
  have m1 : mulOk a 48271 = true := mulOk_100 (by omega) (by omega) (by decide) (by decide)
  have m2 : mulOk b 7919 = true := mulOk_100 (by omega) (by omega) (by decide) (by decide)
  have m3 : ∀ x : Int, mulOk (x % 2147483399) (x % 2147483399) = true := fun x => mulOk_100 (by omega) (by omega) (by omega) (by omega)
  have m4 : mulOk b 92821 = true := mulOk_100 (by omega) (by omega) (by decide) (by decide)
  have m5 : ∀ x : Int, mulOk (x % 2147483629) 69621 = true := fun x => mulOk_100 (by omega) (by omega) (by decide) (by decide)
  have d1 : divOk 131 = true := divOk_of (by decide) (by decide)
  have d2 : divOk 13 = true := divOk_of (by decide) (by decide)
  have d3 : divOk 32 = true := divOk_of (by decide) (by decide)
  simp [runF, bMixed, mul_int, fdiv_int, mod_int, m1, m2, m3, m4, m5, d1, d2, d3, mixed]
theorem mixed_0 (a b : Int) : 0 ≤ mixed a b := by
  unfold mixed
  simp only
  generalize (a * 48271 + b * 7919 + 30011) % 2147483399 = o
  generalize (o * o + b * 92821 + o / 131) % 2147483629 = t
  omega
/-- the hand, as it always is -/
structure HandInv (g : Hand) : Prop where
  len : g.cells.length ≤ 63
  pos : 0 ≤ g.ix
  lim : g.ix ≤ 63
  tot : -(2 ^ 80) < g.total ∧ g.total < 2 ^ 80
theorem hand0_inv {ns : List Int} (h : ns.length ≤ 63) : HandInv (hand0 ns) := by
  have t := handTot_lt ns ((ns.length : Int) + 37) (by omega) (by omega)
  have e : (hand0 ns).total = handTot ((ns.length : Int) + 37) ns := rfl
  refine ⟨by unfold hand0; rw [List.length_map]; exact h, ?_, ?_, ?_, ?_⟩
  · exact Int.le_refl _
  · show (0 : Int) ≤ 63; decide
  · rw [e]; omega
  · rw [e]; omega
theorem take_okd (Φ : FEnv) (u m : Nat) {g : Hand} {n : Int} (hm : ∀ (g : Hand) (a b : Int), -(2 ^ 90) < a → a < 2 ^ 90 → -(2 ^ 90) < b → b < 2 ^ 90 → Φ m [.int a, .int b] g = .ret (.d (.int (mixed a b))) g) (hg : HandInv g) (h0 : 0 < n) (dn : divOk n = true) :
    ∃ r g', runF Φ u 4 (bTake m) [.hand, .int n] g = .ret (.d (.int r)) g' ∧ HandInv g' ∧ 0 ≤ r ∧ r < n := by
  obtain ⟨l, p, q, t1, t2⟩ := hg
  have pw : powOk 10 18 = true := by decide +kernel
  have ml : mulOk 1 1 = true := by decide +kernel
  obtain ⟨cells, ix, rest, total⟩ := g
  dsimp only at l p q t1 t2
  by_cases c1 : rest = 0 ∧ ix < (cells.length : Int)
  · obtain ⟨cr, ci⟩ := c1
    subst cr
    have hi : cells[ix.toNat]? = some (cells[ix.toNat]'(by omega)) := List.getElem?_eq_getElem (by omega)
    generalize cells[ix.toNat]'(by omega) = cell at hi
    have it : item (.lst (cells.map .int)) (.int ix) = some (.int cell) := item_lst p (by rw [List.getElem?_map, hi]; rfl)
    by_cases c2 : cell < 1000000000000000000
    · refine ⟨mixed (cell % 2147483399) (ix + 1) % n, ⟨cells, ix + 1, 0, total⟩, ?_, ⟨l, by show 0 ≤ ix + 1; omega, by show ix + 1 ≤ 63; omega, t1, t2⟩, Int.emod_nonneg _ (by omega), Int.emod_lt_of_pos _ h0⟩
      have hm' := hm ⟨cells, ix + 1, 0, total⟩ (cell % 2147483399) (ix + 1) (by omega) (by omega) (by omega) (by omega)
      simp [runF, bTake, it, mod_int, pow_int, pw, ci, c2, h0, hm']
    · refine ⟨cell % n, ⟨cells, ix + 1, cell / n, total⟩, ?_, ⟨l, by show 0 ≤ ix + 1; omega, by show ix + 1 ≤ 63; omega, t1, t2⟩, Int.emod_nonneg _ (by omega), Int.emod_lt_of_pos _ h0⟩
      have c3 : 0 < cell := by omega
      simp [runF, bTake, it, mod_int, fdiv_int, dn, pow_int, pw, ci, c2, c3, h0]
  · by_cases c2 : 0 < rest
    · refine ⟨rest % n, ⟨cells, ix, rest / n, total⟩, ?_, ⟨l, p, q, t1, t2⟩, Int.emod_nonneg _ (by omega), Int.emod_lt_of_pos _ h0⟩
      have c3 : ¬ rest = 0 := by omega
      simp [runF, bTake, mod_int, fdiv_int, dn, c2, c3, h0]
    · refine ⟨mixed ((total + 1) % 2147483549) ix % n, ⟨cells, ix, rest, (total + 1) % 2147483549⟩, ?_, ⟨l, p, q, by show -(2 ^ 80) < (total + 1) % 2147483549; omega, by show (total + 1) % 2147483549 < 2 ^ 80; omega⟩, Int.emod_nonneg _ (by omega), Int.emod_lt_of_pos _ h0⟩
      have hm' := hm ⟨cells, ix, rest, (total + 1) % 2147483549⟩ ((total + 1) % 2147483549) ix (by omega) (by omega) (by omega) (by omega)
      by_cases c3 : rest = 0
      · have c4 : ¬ ix < (cells.length : Int) := fun z => c1 ⟨c3, z⟩
        simp [runF, bTake, mod_int, c2, c3, c4, h0, hm']
        subst c3
        simp [hm', mod_int, h0]
      · simp [runF, bTake, mod_int, c2, c3, h0, hm']
theorem take_ok (Φ : FEnv) (u m : Nat) {g : Hand} {n : Int} (hm : ∀ (g : Hand) (a b : Int), -(2 ^ 90) < a → a < 2 ^ 90 → -(2 ^ 90) < b → b < 2 ^ 90 → Φ m [.int a, .int b] g = .ret (.d (.int (mixed a b))) g) (hg : HandInv g) (h0 : 0 < n) (h1 : n < 2 ^ 90) :
    ∃ r g', runF Φ u 4 (bTake m) [.hand, .int n] g = .ret (.d (.int r)) g' ∧ HandInv g' ∧ 0 ≤ r ∧ r < n := take_okd Φ u m hm hg h0 (divOk_of h0 (by omega))
end PD

set_option Elab.async false
set_option linter.all false
set_option maxRecDepth 100000
set_option maxHeartbeats 4000000
/-! PyN: rows of whole numbers in the language; texts; sorted rows. -/
namespace PD
open PySem

/-! ### texts of values -/
mutual
def D.good : D → Bool
  | .non => true
  | .bl _ => true
  | .int i => decide (i.natAbs.log2 < 1919)
  | .str x => PyData.strOk x && decide ((reprText x).length ≤ 1000)
  | .lst xs => D.goods xs
  | .tup xs => D.goods xs
  | .hand => false
  | .edic kvs => decide (kvs = [(0, 1)])
def D.goods : List D → Bool
  | [] => true
  | x :: xs => D.good x && D.goods xs
end
mutual
def D.cost : D → Nat
  | .non => 5
  | .bl _ => 5
  | .int _ => 1921
  | .str _ => 1000
  | .lst xs => D.costs xs + 4
  | .tup xs => D.costs xs + 4
  | .hand => 0
  | .edic _ => 100
def D.costs : List D → Nat
  | [] => 0
  | x :: xs => D.cost x + 2 + D.costs xs
end
mutual
def D.dep : D → Nat
  | .lst xs => D.deps xs + 1
  | .tup xs => D.deps xs + 1
  | .edic _ => 1
  | _ => 0
def D.deps : List D → Nat
  | [] => 0
  | x :: xs => max (D.dep x) (D.deps xs)
end
theorem ofString_len (s : String) : (Str.ofString s).length = s.length := ofString_length s
theorem listText_le : ∀ ts : List Str, (listText ts).length ≤ piled ts + 4
  | [] => by decide +kernel
  | t :: r => by
    have h := textFrom_length_pos r 1 (("[" : Str) ++ (if (0 : Nat) > 0 then ", " else "" : String) ++ t) (Nat.succ_pos 0)
    have e : ((("[" : Str) ++ (if (0 : Nat) > 0 then ", " else "" : String) ++ t)).length = 1 + t.length := by
      rw [strLen_append, strLen_append]; rfl
    have hX : (listText (t :: r)).length = (textFrom 1 (("[" : Str) ++ (if (0 : Nat) > 0 then ", " else "" : String) ++ t) r).length + 1 := by
      unfold listText
      rw [strLen_append]; rfl
    rw [hX, h, e, piled_cons]; omega
theorem tupleText_le (ts : List Str) : (tupleText ts).length ≤ piled ts + 4 := by
  unfold tupleText
  rw [strLen_append, strLen_append]
  have e1 : ((("(" : String) : Str)).length = 1 := rfl
  have e3 : (((if ts.length == 1 then ",)" else ")" : String) : Str)).length ≤ 2 := by split <;> decide
  rw [e1]
  by_cases h : ts = []
  · subst h
    have : (Str.join ", " []).length = 0 := rfl
    omega
  · have := join_length_add ts h
    omega
mutual
theorem good_all : ∀ x : D, x.good = true → x.nh = true ∧ x.py.showable = true ∧ x.py.depth = x.dep ∧ x.py.shown.length ≤ x.cost
  | .non, _ => by
    refine ⟨rfl, rfl, rfl, ?_⟩
    simp only [D.py, PyData.shown, D.cost]; decide
  | .bl b, _ => by
    refine ⟨rfl, rfl, rfl, ?_⟩
    simp only [D.py, PyData.shown, D.cost]
    cases b <;> decide
  | .int i, h => by
    have l : i.natAbs.log2 < 1919 := of_decide_eq_true (by unfold D.good at h; exact h)
    refine ⟨rfl, ?_, rfl, ?_⟩
    · simp only [D.py, PyData.showable]
      exact decide_eq_true (by omega)
    · simp only [D.py, PyData.shown, D.cost]
      have := int_text_length_le (a := i) (k := 1919) (by decide) l
      show (Str.ofString (toString i)).length ≤ _
      rw [ofString_len]; omega
  | .str x, h => by
    unfold D.good at h
    rw [Bool.and_eq_true] at h
    exact ⟨rfl, rfl, rfl, of_decide_eq_true h.2⟩
  | .lst xs, h => by
    obtain ⟨a, b, c, d⟩ := goods_all xs (by unfold D.good at h; exact h)
    refine ⟨a, b, by show PyData.depthAll (D.pys xs) + 1 = D.deps xs + 1; rw [c], ?_⟩
    have := listText_le (PyData.shownAll (D.pys xs))
    show (listText (PyData.shownAll (D.pys xs))).length ≤ D.costs xs + 4
    omega
  | .tup xs, h => by
    obtain ⟨a, b, c, d⟩ := goods_all xs (by unfold D.good at h; exact h)
    refine ⟨a, b, by show PyData.depthAll (D.pys xs) + 1 = D.deps xs + 1; rw [c], ?_⟩
    have := tupleText_le (PyData.shownAll (D.pys xs))
    show (tupleText (PyData.shownAll (D.pys xs))).length ≤ D.costs xs + 4
    omega
  | .hand, h => by unfold D.good at h; cases h
  | .edic kvs, h => by
    unfold D.good at h
    rw [of_decide_eq_true h]
    exact ⟨rfl, by decide +kernel, by decide +kernel, by decide +kernel⟩
theorem goods_all : ∀ xs : List D, D.goods xs = true → D.nhs xs = true ∧ PyData.showableAll (D.pys xs) = true ∧ PyData.depthAll (D.pys xs) = D.deps xs ∧ piled (PyData.shownAll (D.pys xs)) ≤ D.costs xs
  | [], _ => ⟨rfl, rfl, rfl, Nat.le_refl _⟩
  | x :: xs, h => by
    unfold D.goods at h
    rw [Bool.and_eq_true] at h
    obtain ⟨a, b, c, d⟩ := good_all x h.1
    obtain ⟨a', b', c', d'⟩ := goods_all xs h.2
    refine ⟨?_, ?_, ?_, ?_⟩
    · show (x.nh && D.nhs xs) = true
      rw [a, a']; rfl
    · show (x.py.showable && PyData.showableAll (D.pys xs)) = true
      rw [b, b']; rfl
    · show max x.py.depth (PyData.depthAll (D.pys xs)) = max x.dep (D.deps xs)
      rw [c, c']
    · show piled (x.py.shown :: PyData.shownAll (D.pys xs)) ≤ x.cost + 2 + D.costs xs
      rw [piled_cons]; omega
end
theorem repr_good {x : D} (h : x.good = true) (hc : x.cost ≤ 16777216) (hd : x.dep ≤ 64) : blt .repr [x] = some (.d (.str x.py.shown)) := by
  obtain ⟨a, b, c, d⟩ := good_all x h
  have sz : sizeLine = 16777216 := rfl
  show (if (x.nh && decide (x.py.depth ≤ 64)) && x.py.showable && decide (x.py.shown.length ≤ sizeLine) then _ else _) = _
  rw [a, b, decide_eq_true (by omega), decide_eq_true (by omega)]; rfl
theorem goods_ints : ∀ xs : List Int, (∀ x ∈ xs, x.natAbs.log2 < 1919) → D.goods (xs.map .int) = true ∧ D.costs (xs.map .int) = 1923 * xs.length ∧ D.deps (xs.map .int) = 0
  | [], _ => ⟨rfl, rfl, rfl⟩
  | x :: xs, h => by
    obtain ⟨a, b, c⟩ := goods_ints xs fun y hy => h y (List.mem_cons_of_mem _ hy)
    have hx := h x List.mem_cons_self
    refine ⟨?_, ?_, ?_⟩
    · show (decide (x.natAbs.log2 < 1919) && D.goods (xs.map .int)) = true
      rw [a, decide_eq_true hx]; rfl
    · show 1921 + 2 + D.costs (xs.map .int) = 1923 * (xs.length + 1)
      rw [b]; omega
    · show max 0 (D.deps (xs.map .int)) = 0
      rw [c]; rfl

theorem lg_of {i : Int} (h1 : -(2 ^ 100) < i) (h2 : i < 2 ^ 100) : i.natAbs.log2 < 1919 := by
  have := log2_le (k := 200) (natAbs_lt (k := 0) h1 h2) (by decide)
  omega
/-! ### rows of whole numbers -/
abbrev T (xs : List Int) : D := .tup (xs.map .int)
abbrev L (xs : List Int) : D := .lst (xs.map .int)
def Sq (b : Bool) (xs : List Int) : D := if b then L xs else T xs
def at0 (s : List Int) (i : Nat) : Int := s.getD i 0
def rng (lo hi : Int) : List Int := (List.range (hi - lo).toNat).map fun (k : Nat) => lo + (k : Int)
theorem repr_T {xs : List Int} (h : ∀ x ∈ xs, x.natAbs.log2 < 1919) (hl : xs.length ≤ 8000) : blt .repr [T xs] = some (.d (.str (T xs).py.shown)) := by
  obtain ⟨a, b, c⟩ := goods_ints xs h
  exact repr_good a (by show D.costs (xs.map .int) + 4 ≤ _; omega) (by show D.deps (xs.map .int) + 1 ≤ _; omega)
theorem repr_L {xs : List Int} (h : ∀ x ∈ xs, x.natAbs.log2 < 1919) (hl : xs.length ≤ 8000) : blt .repr [L xs] = some (.d (.str (L xs).py.shown)) := by
  obtain ⟨a, b, c⟩ := goods_ints xs h
  exact repr_good a (by show D.costs (xs.map .int) + 4 ≤ _; omega) (by show D.deps (xs.map .int) + 1 ≤ _; omega)
theorem repr_int {i : Int} (h : i.natAbs.log2 < 1919) : blt .repr [.int i] = some (.d (.str (D.int i).py.shown)) :=
  repr_good (by unfold D.good; exact decide_eq_true h) (by show 1921 ≤ _; decide) (by show 0 ≤ _; decide)
theorem repr_bl (b : Bool) : blt .repr [.bl b] = some (.d (.str (D.bl b).py.shown)) := repr_good rfl (by show 5 ≤ _; decide) (by show 0 ≤ _; decide)
theorem it_T {xs : List Int} {i : Int} (h0 : 0 ≤ i) (h : i < xs.length) : item (T xs) (.int i) = some (.int (at0 xs i.toNat)) := item_tup h0 (by
  have hl : i.toNat < xs.length := by omega
  rw [List.getElem?_map, List.getElem?_eq_getElem hl]
  unfold at0
  rw [List.getD_eq_getElem?_getD, List.getElem?_eq_getElem hl]; rfl)
theorem it_L {xs : List Int} {i : Int} (h0 : 0 ≤ i) (h : i < xs.length) : item (L xs) (.int i) = some (.int (at0 xs i.toNat)) := item_lst h0 (by
  have hl : i.toNat < xs.length := by omega
  rw [List.getElem?_map, List.getElem?_eq_getElem hl]
  unfold at0
  rw [List.getD_eq_getElem?_getD, List.getElem?_eq_getElem hl]; rfl)
theorem it_S {b : Bool} {xs : List Int} {i : Int} (g : Hand) (h0 : 0 ≤ i) (h : i < xs.length) : itemS g (Sq b xs) (.int i) = some (.int (at0 xs i.toNat)) := by
  cases b
  · exact it_T h0 h
  · exact it_L h0 h
theorem len_S (b : Bool) (xs : List Int) : blt .len [Sq b xs] = some (.d (.int xs.length)) := by
  cases b <;> simp [Sq]
theorem tuple_S (b : Bool) (xs : List Int) : blt .tuple [Sq b xs] = some (.d (T xs)) := by
  cases b <;> simp [Sq]
theorem list_S (b : Bool) (xs : List Int) : blt .list [Sq b xs] = some (.f (xs.map .int)) := by
  cases b <;> simp [Sq]
theorem toInts_map : ∀ xs : List Int, toInts (xs.map D.int) = some xs
  | [] => rfl
  | x :: xs => by
    rw [List.map_cons, toInts, toInts_map xs]; rfl
theorem sum_T (xs : List Int) : blt .sum [T xs] = some (.d (.int xs.sum)) := by
  show (toInts (xs.map D.int)).map _ = _
  rw [toInts_map]; rfl
theorem sum_L (xs : List Int) : blt .sum [L xs] = some (.d (.int xs.sum)) := by
  show (toInts (xs.map D.int)).map _ = _
  rw [toInts_map]; rfl
theorem sum_S (b : Bool) (xs : List Int) : blt .sum [Sq b xs] = some (.d (.int xs.sum)) := by
  cases b
  · exact sum_T xs
  · exact sum_L xs
theorem sorted_L (xs : List Int) : blt .sorted [L xs] = some (.f ((sortI xs).map .int)) := by
  show (toInts (xs.map D.int)).map _ = _
  rw [toInts_map]; rfl
theorem src_S (b : Bool) (xs : List Int) : srcL .seq [Sq b xs] = some (xs.map .int) := by
  cases b <;> simp [Sq]
theorem truth_S (b : Bool) (xs : List Int) : truth (Sq b xs) = some (!xs.isEmpty) := by
  cases b <;> cases xs <;> rfl
theorem rngOk_0 {j : Int} (h0 : -(2 ^ 62) ≤ j) (h : j < 2 ^ 62) : rngOk 0 j = true := by
  unfold rngOk
  simp
  omega
theorem rngOk_2 {i j : Int} (h0 : -(2 ^ 62) ≤ i) (h1 : i < 2 ^ 62) (h2 : -(2 ^ 62) ≤ j) (h : j < 2 ^ 62) : rngOk i j = true := by
  unfold rngOk
  simp
  omega
theorem rngL_rng (i j : Int) : rngL i j = (rng i j).map .int := by
  unfold rngL rng
  rw [List.map_map]; rfl
theorem rng_nat (n : Nat) : rngL 0 (n : Int) = (List.range n).map fun (i : Nat) => D.int (i : Int) := by
  unfold rngL
  rw [show ((n : Int) - 0).toNat = n by omega]
  refine List.map_congr_left fun k _ => ?_
  rw [Int.zero_add]
theorem mem_rng {lo hi x : Int} : x ∈ rng lo hi ↔ lo ≤ x ∧ x < hi := by
  unfold rng
  simp only [List.mem_map, List.mem_range]
  constructor
  · rintro ⟨k, h, rfl⟩
    omega
  · rintro ⟨h1, h2⟩
    exact ⟨(x - lo).toNat, by omega, by omega⟩
theorem rng_len {lo hi : Int} : (rng lo hi).length = (hi - lo).toNat := by simp [rng]
/-! ### sorted rows -/
theorem mem_insI {x y : Int} : ∀ {ys : List Int}, y ∈ insI x ys ↔ y = x ∨ y ∈ ys
  | [] => by simp [insI]
  | z :: ys => by
    unfold insI
    split
    · simp
    · rw [List.mem_cons, mem_insI (ys := ys), List.mem_cons]
      constructor
      · rintro (h | h | h)
        · exact .inr (.inl h)
        · exact .inl h
        · exact .inr (.inr h)
      · rintro (h | h | h)
        · exact .inr (.inl h)
        · exact .inl h
        · exact .inr (.inr h)
theorem len_insI {x : Int} : ∀ {ys : List Int}, (insI x ys).length = ys.length + 1
  | [] => rfl
  | z :: ys => by
    unfold insI
    split
    · rfl
    · rw [List.length_cons, len_insI, List.length_cons]
theorem sort_insI {x : Int} : ∀ {ys : List Int}, ys.Pairwise (· ≤ ·) → (insI x ys).Pairwise (· ≤ ·)
  | [], _ => by simp [insI]
  | z :: ys, h => by
    unfold insI
    split
    · rename_i hx
      refine List.pairwise_cons.mpr ⟨fun a ha => ?_, h⟩
      rcases List.mem_cons.mp ha with rfl | ha
      · exact hx
      · exact Int.le_trans hx (List.rel_of_pairwise_cons h ha)
    · rename_i hx
      refine List.pairwise_cons.mpr ⟨fun a ha => ?_, sort_insI (List.pairwise_cons.mp h).2⟩
      rcases mem_insI.mp ha with rfl | ha
      · omega
      · exact List.rel_of_pairwise_cons h ha
theorem sum_insI {x : Int} : ∀ {ys : List Int}, (insI x ys).sum = x + ys.sum
  | [] => rfl
  | z :: ys => by
    unfold insI
    split
    · rfl
    · rw [List.sum_cons, sum_insI, List.sum_cons]; omega
theorem mem_sortI {y : Int} : ∀ {ns : List Int}, y ∈ sortI ns ↔ y ∈ ns
  | [] => Iff.rfl
  | n :: ns => by
    show y ∈ insI n (sortI ns) ↔ _
    rw [mem_insI, mem_sortI, List.mem_cons]
theorem len_sortI : ∀ {ns : List Int}, (sortI ns).length = ns.length
  | [] => rfl
  | n :: ns => by
    show (insI n (sortI ns)).length = _
    rw [len_insI, len_sortI]; rfl
theorem sum_sortI : ∀ {ns : List Int}, (sortI ns).sum = ns.sum
  | [] => rfl
  | n :: ns => by
    show (insI n (sortI ns)).sum = _
    rw [sum_insI, sum_sortI, List.sum_cons]
theorem sort_sortI : ∀ ns : List Int, (sortI ns).Pairwise (· ≤ ·)
  | [] => List.Pairwise.nil
  | n :: ns => sort_insI (sort_sortI ns)
theorem fall_sortI (ns : List Int) : (sortI ns).reverse.Pairwise (· ≥ ·) := List.pairwise_reverse.mpr (sort_sortI ns)
/-! ### errors, loops that may end early -/
@[simp] theorem frres_ex (e : Exc) (g : Hand) (s : Stt) : FR.res (.ex e g) s = .ex e ⟨s.ρ, g⟩ := of_eq_true (eq_self _)
theorem runF_ex {Φ : FEnv} {u n : Nat} {b : List S} {xs : List D} {g g' : Hand} {e : Exc} (h : ∃ ρ, evB Φ u b ⟨xs.map .d ++ List.replicate (n - xs.length) .no, g⟩ = .ex e ⟨ρ, g'⟩) : runF Φ u n b xs g = .ex e g' := by
  obtain ⟨ρ, h⟩ := h
  unfold runF
  rw [h]
theorem forL_scan {f : Stt → Res Fl} {t : Tg} (I : Nat → Stt → Prop) (J : Stt → Prop) (bad : Nat → Bool) (r : R) : ∀ (xs : List D) (n : Nat) (s : Stt), I n s →
    (∀ i x s, xs[i]? = some x → I (n + i) s → ∃ s1, bindT t x s = some s1 ∧ ((bad (n + i) = false ∧ ∃ s2, f s1 = .ok .nx s2 ∧ I (n + i + 1) s2) ∨ (bad (n + i) = true ∧ ∃ s2, f s1 = .ok (.rt r) s2 ∧ J s2))) →
    ((∀ i, i < xs.length → bad (n + i) = false) ∧ ∃ s', forL f t xs s = .ok .nx s' ∧ I (n + xs.length) s') ∨ ((∃ i, i < xs.length ∧ bad (n + i) = true) ∧ ∃ s', forL f t xs s = .ok (.rt r) s' ∧ J s')
  | [], n, s, h, _ => .inl ⟨(fun i z => by simp at z), s, rfl, h⟩
  | x :: xs, n, s, h, k => by
    obtain ⟨s1, e1, ⟨b0, s2, e2, h2⟩ | ⟨b1, s2, e2, h2⟩⟩ := k 0 x s rfl h
    · have ih := forL_scan I J bad r xs (n + 1) s2 h2 fun i y s hy hi => by
        have z := k (i + 1) y s hy (by rw [show n + (i + 1) = n + 1 + i from by omega]; exact hi)
        rw [show n + (i + 1) + 1 = n + 1 + i + 1 from by omega, show n + (i + 1) = n + 1 + i from by omega] at z
        exact z
      rcases ih with ⟨hb, s', e3, h3⟩ | ⟨⟨i, hi, hb⟩, s', e3, h3⟩
      · refine .inl ⟨fun i hi => ?_, s', ?_, by rw [List.length_cons, show n + (xs.length + 1) = n + 1 + xs.length from by omega]; exact h3⟩
        · cases i with
          | zero => exact b0
          | succ i =>
            have z := hb i (by simpa using hi)
            rw [show n + (i + 1) = n + 1 + i from by omega]
            exact z
        · unfold forL
          rw [e1]
          simp only [e2]
          exact e3
      · refine .inr ⟨⟨i + 1, by simpa using hi, by rw [show n + (i + 1) = n + 1 + i from by omega]; exact hb⟩, s', ?_, h3⟩
        unfold forL
        rw [e1]
        simp only [e2]
        exact e3
    · refine .inr ⟨⟨0, by simp, b1⟩, s2, ?_, h2⟩
      unfold forL
      rw [e1]
      simp only [e2]
theorem S_eq (b : Bool) (xs : List Int) : Sq b xs = .lst (xs.map .int) ∨ Sq b xs = .tup (xs.map .int) := by
  cases b
  · exact .inr rfl
  · exact .inl rfl
@[simp] theorem many_good : D.good (.lst [.str "many"]) = true := by decide +kernel
end PD

set_option Elab.async false
set_option linter.all false
set_option maxRecDepth 100000
set_option maxHeartbeats 4000000
/-! the defs of threeshapes_k00_tables_shapes_and_kinds in the language. Printed by gen.py. -/
namespace K00
open PySem PySem.Spec PyProof.Rows L2 PD
def top (i : Nat) : Stmt := PySem.Challenge.pw_threeshapes_k00_tables_shapes_and_kinds.main.body.getD i (.Pass ⟨0, 0, 0, 0⟩)
/-! is_whole: 0 thing, 1 low, 2 high -/
def b_is_whole : List S := [
  .ifS (.or (.isi (.var 0) .bool) (.not (.isi (.var 0) .int))) [.ret (.k (.bl false))] [],
  .ifS (.and (.cmp .IsNot (.var 1) (.k (.non))) (.cmp .Lt (.var 0) (.var 1))) [.ret (.k (.bl false))] [],
  .ret (.or (.cmp .Is (.var 2) (.k (.non))) (.cmp .LtE (.var 0) (.var 2)))]
def N_is_whole : List Str := ["thing", "low", "high"]
abbrev s_is_whole : Stmt := top 7
def d_is_whole : Def := ⟨"is_whole", "is_whole", N_is_whole, ["thing", "low", "high"], [.non, .non], defScope s_is_whole, defBody s_is_whole, b_is_whole⟩
/-! is_sequence: 0 thing -/
def b_is_sequence : List S := [
  .ret (.or (.isi (.var 0) .list) (.isi (.var 0) .tuple))]
def N_is_sequence : List Str := ["thing"]
abbrev s_is_sequence : Stmt := top 8
def d_is_sequence : Def := ⟨"is_sequence", "is_sequence", N_is_sequence, ["thing"], [], defScope s_is_sequence, defBody s_is_sequence, b_is_sequence⟩
/-! check_prime: 0 thing -/
def b_check_prime : List S := [
  .ifS (.or (.not (.call 0 [(.var 0)])) (.cmp .NotIn (.var 0) (.tup [(.k (.int 2)), (.k (.int 3)), (.k (.int 5))]))) [.rse 0 [(.var 0)]] [],
  .ret (.var 0)]
def N_check_prime : List Str := ["thing"]
abbrev s_check_prime : Stmt := top 9
def d_check_prime : Def := ⟨"check_prime", "check_prime", N_check_prime, ["thing"], [], defScope s_check_prime, defBody s_check_prime, b_check_prime⟩
/-! check_rows: 0 thing, 1 row, 2 number -/
def b_check_rows : List S := [
  .ifS (.or (.not (.call 1 [(.var 0)])) (.or (.cmp .Lt (.blt .len [(.var 0)]) (.k (.int 1))) (.cmp .Gt (.blt .len [(.var 0)]) (.k (.int 8))))) [.rse 1 [(.k (.str "rows"))]] [],
  .forS (.nm 1) .seq [(.var 0)] [.ifS (.or (.not (.call 1 [(.var 1)])) (.or (.cmp .Lt (.blt .len [(.var 1)]) (.k (.int 1))) (.or (.cmp .Gt (.blt .len [(.var 1)]) (.k (.int 8))) (.cmp .NotEq (.blt .len [(.var 1)]) (.blt .len [(.ix (.var 0) (.k (.int 0)))]))))) [.rse 1 [(.k (.str "columns"))]] []],
  .forS (.nm 1) .seq [(.var 0)] [.forS (.nm 2) .seq [(.var 1)] [.ifS (.not (.call 0 [(.var 2)])) [.rse 1 [(.k (.str "number"))]] []]],
  .ret (.blt .tuple [(.comp [1] (.nm 1) .seq [(.var 0)] none (.blt .tuple [(.var 1)]))])]
def N_check_rows : List Str := ["thing", "row", "number"]
abbrev s_check_rows : Stmt := top 11
def d_check_rows : Def := ⟨"check_rows", "check_rows", N_check_rows, ["thing"], [], defScope s_check_rows, defBody s_check_rows, b_check_rows⟩
/-! check_table: 0 thing, 1 sort, 2 table, 3 high, 4 wide -/
def b_check_table : List S := [
  .set (.nm 2) (.call 3 [(.var 0)]),
  .set (.nm 3) (.blt .len [(.var 2)]),
  .set (.nm 4) (.blt .len [(.ix (.var 2) (.k (.int 0)))]),
  .ifS (.and (.cmp .Eq (.var 1) (.k (.str "long"))) (.or (.cmp .Gt (.var 3) (.k (.int 4))) (.cmp .Lt (.var 4) (.var 3)))) [.rse 1 [(.k (.str "long"))]] [],
  .ifS (.and (.cmp .Eq (.var 1) (.k (.str "square"))) (.or (.cmp .Gt (.var 3) (.k (.int 4))) (.cmp .NotEq (.var 4) (.var 3)))) [.rse 1 [(.k (.str "square"))]] [],
  .ret (.var 2)]
def N_check_table : List Str := ["thing", "sort", "table", "high", "wide"]
abbrev s_check_table : Stmt := top 12
def d_check_table : Def := ⟨"check_table", "check_table", N_check_table, ["thing", "sort"], [.str "any"], defScope s_check_table, defBody s_check_table, b_check_table⟩
/-! parts_fault: 0 thing, 1 low, 2 part, 3 k -/
def b_parts_fault : List S := [
  .forS (.nm 2) .seq [(.var 0)] [.ifS (.not (.call 0 [(.var 2), (.var 1)])) [.ret (.k (.str "number"))] []],
  .forS (.nm 3) .rng [(.k (.int 1)), (.blt .len [(.var 0)])] [.ifS (.cmp .Gt (.ix (.var 0) (.var 3)) (.ix (.var 0) (.bin .Sub (.var 3) (.k (.int 1))))) [.ret (.k (.str "falling"))] []],
  .ret (.k (.non))]
def N_parts_fault : List Str := ["thing", "low", "part", "k"]
abbrev s_parts_fault : Stmt := top 14
def d_parts_fault : Def := ⟨"parts_fault", "parts_fault", N_parts_fault, ["thing", "low"], [], defScope s_parts_fault, defBody s_parts_fault, b_parts_fault⟩
/-! check_shape: 0 thing, 1 length, 2 most, 3 fault -/
def b_check_shape : List S := [
  .ifS (.or (.not (.call 1 [(.var 0)])) (.or (.cmp .Lt (.blt .len [(.var 0)]) (.k (.int 1))) (.cmp .Gt (.blt .len [(.var 0)]) (.var 2)))) [.rse 2 [(.k (.str "many"))]] [],
  .ifS (.and (.cmp .IsNot (.var 1) (.k (.non))) (.cmp .NotEq (.blt .len [(.var 0)]) (.var 1))) [.rse 2 [(.k (.str "many"))]] [],
  .set (.nm 3) (.call 5 [(.var 0), (.k (.int 0))]),
  .ifS (.cmp .IsNot (.var 3) (.k (.non))) [.rse 2 [(.var 3)]] [],
  .ret (.blt .tuple [(.var 0)])]
def N_check_shape : List Str := ["thing", "length", "most", "fault"]
abbrev s_check_shape : Stmt := top 15
def d_check_shape : Def := ⟨"check_shape", "check_shape", N_check_shape, ["thing", "length", "most"], [.non, .int 4], defScope s_check_shape, defBody s_check_shape, b_check_shape⟩
/-! check_kind: 0 thing, 1 most, 2 fault -/
def b_check_kind : List S := [
  .ifS (.or (.not (.call 1 [(.var 0)])) (.cmp .Gt (.blt .len [(.var 0)]) (.var 1))) [.rse 3 [(.k (.str "many"))]] [],
  .set (.nm 2) (.call 5 [(.var 0), (.k (.int 1))]),
  .ifS (.cmp .IsNot (.var 2) (.k (.non))) [.rse 3 [(.var 2)]] [],
  .ret (.blt .tuple [(.var 0)])]
def N_check_kind : List Str := ["thing", "most", "fault"]
abbrev s_check_kind : Stmt := top 16
def d_check_kind : Def := ⟨"check_kind", "check_kind", N_check_kind, ["thing", "most"], [.int 24], defScope s_check_kind, defBody s_check_kind, b_check_kind⟩
/-! _law_mixed: 0 _law_number_here, 1 _law_turn, 2 _law_once, 3 _law_twice -/
def b_law_mixed : List S := [
  .set (.nm 2) (.bin .Mod (.blt .int [(.bin .Add (.bin .Add (.bin .Mult (.var 0) (.k (.int 48271))) (.bin .Mult (.var 1) (.k (.int 7919)))) (.k (.int 30011)))]) (.k (.int 2147483399))),
  .set (.nm 3) (.bin .Mod (.blt .int [(.bin .Add (.bin .Add (.bin .Mult (.var 2) (.var 2)) (.bin .Mult (.var 1) (.k (.int 92821)))) (.bin .FloorDiv (.var 2) (.k (.int 131))))]) (.k (.int 2147483629))),
  .ret (.bin .FloorDiv (.blt .int [(.bin .Mod (.blt .int [(.bin .Add (.bin .Mult (.var 3) (.k (.int 69621))) (.bin .FloorDiv (.var 2) (.k (.int 13))))]) (.k (.int 2147483587)))]) (.k (.int 32)))]
def N_law_mixed : List Str := ["_law_number_here", "_law_turn", "_law_once", "_law_twice"]
abbrev s_law_mixed : Stmt := top 19
def d_law_mixed : Def := ⟨"_law_mixed", "_law_mixed", N_law_mixed, ["_law_number_here", "_law_turn"], [], defScope s_law_mixed, defBody s_law_mixed, b_law_mixed⟩
/-! _law_take: 0 _law_hand_here, 1 _law_many, 2 _law_cell, 3 _law_rest -/
def b_law_take : List S := [
  .ifS (.and (.cmp .Eq (.ix (.var 0) (.k (.int 2))) (.k (.int 0))) (.cmp .Lt (.ix (.var 0) (.k (.int 1))) (.blt .len [(.ix (.var 0) (.k (.int 0)))]))) [.set (.nm 2) (.ix (.ix (.var 0) (.k (.int 0))) (.ix (.var 0) (.k (.int 1)))), .six 0 (.k (.int 1)) (.bin .Add (.ix (.var 0) (.k (.int 1))) (.k (.int 1))), .ifS (.cmp .Lt (.var 2) (.bin .Pow (.k (.int 10)) (.k (.int 18)))) [.ret (.bin .Mod (.blt .int [(.call 8 [(.bin .Mod (.blt .int [(.var 2)]) (.k (.int 2147483399))), (.ix (.var 0) (.k (.int 1)))])]) (.var 1))] [], .six 0 (.k (.int 2)) (.var 2)] [],
  .ifS (.cmp .Gt (.ix (.var 0) (.k (.int 2))) (.k (.int 0))) [.set (.nm 3) (.ix (.var 0) (.k (.int 2))), .six 0 (.k (.int 2)) (.bin .FloorDiv (.blt .int [(.var 3)]) (.var 1)), .ret (.bin .Mod (.blt .int [(.var 3)]) (.var 1))] [],
  .six 0 (.k (.int 3)) (.bin .Mod (.blt .int [(.bin .Add (.ix (.var 0) (.k (.int 3))) (.k (.int 1)))]) (.k (.int 2147483549))),
  .ret (.bin .Mod (.blt .int [(.call 8 [(.ix (.var 0) (.k (.int 3))), (.ix (.var 0) (.k (.int 1)))])]) (.var 1))]
def N_law_take : List Str := ["_law_hand_here", "_law_many", "_law_cell", "_law_rest"]
abbrev s_law_take : Stmt := top 20
def d_law_take : Def := ⟨"_law_take", "_law_take", N_law_take, ["_law_hand_here", "_law_many"], [], defScope s_law_take, defBody s_law_take, b_law_take⟩
/-! _law_row: 0 _law_hand_here, 1 _law_items -/
def b_law_row : List S := [
  .ret (.ife (.call 9 [(.var 0), (.k (.int 2))]) (.blt .list [(.var 1)]) (.blt .tuple [(.var 1)]))]
def N_law_row : List Str := ["_law_hand_here", "_law_items"]
abbrev s_law_row : Stmt := top 21
def d_law_row : Def := ⟨"_law_row", "_law_row", N_law_row, ["_law_hand_here", "_law_items"], [], defScope s_law_row, defBody s_law_row, b_law_row⟩
/-! _law_rows: 0 _law_hand_here, 1 _law_rows_here, 2 _law_row_here -/
def b_law_rows : List S := [
  .ret (.call 10 [(.var 0), (.comp [2] (.nm 2) .seq [(.var 1)] none (.call 10 [(.var 0), (.var 2)]))])]
def N_law_rows : List Str := ["_law_hand_here", "_law_rows_here", "_law_row_here"]
abbrev s_law_rows : Stmt := top 22
def d_law_rows : Def := ⟨"_law_rows", "_law_rows", N_law_rows, ["_law_hand_here", "_law_rows_here"], [], defScope s_law_rows, defBody s_law_rows, b_law_rows⟩
/-! _law_seq: 0 _law_thing -/
def b_law_seq : List S := [
  .ret (.or (.isi (.var 0) .list) (.isi (.var 0) .tuple))]
def N_law_seq : List Str := ["_law_thing"]
abbrev s_law_seq : Stmt := top 23
def d_law_seq : Def := ⟨"_law_seq", "_law_seq", N_law_seq, ["_law_thing"], [], defScope s_law_seq, defBody s_law_seq, b_law_seq⟩
/-! _law_deep: 0 _law_thing, 1 _law_item -/
def b_law_deep : List S := [
  .ifS (.call 12 [(.var 0)]) [.ret (.blt .tuple [(.comp [1] (.nm 1) .seq [(.var 0)] none (.call 13 [(.var 1)]))])] [],
  .ret (.var 0)]
def N_law_deep : List Str := ["_law_thing", "_law_item"]
abbrev s_law_deep : Stmt := top 24
def d_law_deep : Def := ⟨"_law_deep", "_law_deep", N_law_deep, ["_law_thing"], [], defScope s_law_deep, defBody s_law_deep, b_law_deep⟩
/-! _law_int: 0 _law_thing -/
def b_law_int : List S := [
  .ret (.and (.isi (.var 0) .int) (.not (.isi (.var 0) .bool)))]
def N_law_int : List Str := ["_law_thing"]
abbrev s_law_int : Stmt := top 25
def d_law_int : Def := ⟨"_law_int", "_law_int", N_law_int, ["_law_thing"], [], defScope s_law_int, defBody s_law_int, b_law_int⟩
/-! _law_rid: 0 _law_hand_here -/
def b_law_rid : List S := [
  .ret (.ix (.tup [(.k (.non)), (.k (.str "ab")), (.k (.bl true)), (.mt [(0, 1)]), (.k (.str "1")), (.k (.bl false))]) (.call 9 [(.var 0), (.k (.int 6))]))]
def N_law_rid : List Str := ["_law_hand_here"]
abbrev s_law_rid : Stmt := top 26
def d_law_rid : Def := ⟨"_law_rid", "_law_rid", N_law_rid, ["_law_hand_here"], [], defScope s_law_rid, defBody s_law_rid, b_law_rid⟩
/-! _law_number: 0 _law_hand_here -/
def b_law_number : List S := [
  .ifS (.cmp .Eq (.call 9 [(.var 0), (.k (.int 8))]) (.k (.int 7))) [.ret (.bin .Mult (.bin .Sub (.call 9 [(.var 0), (.bin .Pow (.k (.int 10)) (.k (.int 6)))]) (.k (.int 500000))) (.bin .Add (.bin .Pow (.k (.int 10)) (.k (.int 34))) (.k (.int 7))))] [],
  .ret (.bin .Sub (.call 9 [(.var 0), (.k (.int 41))]) (.k (.int 20)))]
def N_law_number : List Str := ["_law_hand_here"]
abbrev s_law_number : Stmt := top 27
def d_law_number : Def := ⟨"_law_number", "_law_number", N_law_number, ["_law_hand_here"], [], defScope s_law_number, defBody s_law_number, b_law_number⟩
/-! _law_rows_drawn: 0 _law_hand_here, 1 _law_high, 2 _law_wide, 3 _law_i, 4 _law_j -/
def b_law_rows_drawn : List S := [
  .set (.nm 1) (.bin .Add (.k (.int 1)) (.call 9 [(.var 0), (.k (.int 8))])),
  .set (.nm 2) (.ife (.cmp .Eq (.call 9 [(.var 0), (.k (.int 3))]) (.k (.int 0))) (.var 1) (.bin .Add (.k (.int 1)) (.call 9 [(.var 0), (.k (.int 8))]))),
  .ifS (.call 9 [(.var 0), (.k (.int 2))]) [.set (.nm 1) (.bin .Add (.k (.int 1)) (.call 9 [(.var 0), (.k (.int 4))])), .set (.nm 2) (.blt .min [(.k (.int 8)), (.bin .Add (.var 1) (.call 9 [(.var 0), (.k (.int 4))]))])] [],
  .ret (.comp [3] (.nm 3) .rng [(.var 1)] none (.comp [4] (.nm 4) .rng [(.var 2)] none (.call 16 [(.var 0)])))]
def N_law_rows_drawn : List Str := ["_law_hand_here", "_law_high", "_law_wide", "_law_i", "_law_j"]
abbrev s_law_rows_drawn : Stmt := top 28
def d_law_rows_drawn : Def := ⟨"_law_rows_drawn", "_law_rows_drawn", N_law_rows_drawn, ["_law_hand_here"], [], defScope s_law_rows_drawn, defBody s_law_rows_drawn, b_law_rows_drawn⟩
/-! _law_spoiled_rows: 0 _law_hand_here, 1 _law_rows_here, 2 _law_told, 3 _law_i, 4 _law_j, 5 _law_way, 6 _law_row_here -/
def b_law_spoiled_rows : List S := [
  .new2 2 1 6,
  .set (.nm 3) (.call 9 [(.var 0), (.len2 2 none)]),
  .set (.nm 4) (.call 9 [(.var 0), (.len2 2 (some 0))]),
  .set (.nm 5) (.call 9 [(.var 0), (.k (.int 10))]),
  .ifS (.cmp .Eq (.var 5) (.k (.int 0))) [.ret (.call 15 [(.var 0)])] [],
  .ifS (.cmp .Eq (.var 5) (.k (.int 1))) [.ret (.ife (.call 9 [(.var 0), (.k (.int 2))]) (.lst []) (.bin .Mult (.lst [(.lst [(.k (.int 1)), (.k (.int 2))])]) (.k (.int 9))))] [],
  .ifS (.cmp .Eq (.var 5) (.k (.int 2))) [.dm 2 (.six 2 (.var 3) (.call 15 [(.var 0)]))] [],
  .ifS (.cmp .Eq (.var 5) (.k (.int 3))) [.dm 2 (.six 2 (.var 3) (.bin .Add (.ix (.var 2) (.var 3)) (.lst [(.k (.int 1))])))] [],
  .ifS (.cmp .Eq (.var 5) (.k (.int 4))) [.dm 2 (.six 2 (.var 3) (.sl (.ix (.var 2) (.var 3)) none (some (.neg (.k (.int 1))))))] [],
  .ifS (.cmp .Eq (.var 5) (.k (.int 5))) [.dm 2 (.set (.nm 2) (.comp [6] (.nm 6) .seq [(.var 2)] none (.bin .Add (.var 6) (.bin .Mult (.lst [(.k (.int 0))]) (.bin .Sub (.k (.int 9)) (.blt .len [(.var 6)]))))))] [],
  .ifS (.cmp .Gt (.var 5) (.k (.int 5))) [.six2 2 3 4 (.ix (.tup [(.k (.bl true)), (.k (.non)), (.k (.str "1")), (.lst [(.k (.int 1))]), (.k (.bl false))]) (.call 9 [(.var 0), (.k (.int 5))]))] [],
  .ifS (.cmp .Eq (.var 5) (.k (.int 9))) [.dm 2 (.six 2 (.call 9 [(.var 0), (.len2 2 none)]) (.lst [(.k (.int 3))]))] [],
  .dm 2 (.ret (.var 2))]
def N_law_spoiled_rows : List Str := ["_law_hand_here", "_law_rows_here", "_law_told", "_law_i", "_law_j", "_law_way", "_law_row_here"]
abbrev s_law_spoiled_rows : Stmt := top 29
def d_law_spoiled_rows : Def := ⟨"_law_spoiled_rows", "_law_spoiled_rows", N_law_spoiled_rows, ["_law_hand_here", "_law_rows_here"], [], defScope s_law_spoiled_rows, defBody s_law_spoiled_rows, b_law_spoiled_rows⟩
/-! _law_table_due: 0 _law_thing, 1 _law_sort, 2 _law_row_here, 3 _law_number_here -/
def b_law_table_due : List S := [
  .ifS (.or (.not (.call 12 [(.var 0)])) (.not (.chain .LtE .LtE (.k (.int 1)) (.blt .len [(.var 0)]) (.k (.int 8))))) [.ret (.k (.str "rows"))] [],
  .forS (.nm 2) .seq [(.var 0)] [.ifS (.or (.not (.call 12 [(.var 2)])) (.or (.not (.chain .LtE .LtE (.k (.int 1)) (.blt .len [(.var 2)]) (.k (.int 8)))) (.cmp .NotEq (.blt .len [(.var 2)]) (.blt .len [(.ix (.var 0) (.k (.int 0)))])))) [.ret (.k (.str "columns"))] []],
  .forS (.nm 2) .seq [(.var 0)] [.forS (.nm 3) .seq [(.var 2)] [.ifS (.not (.call 14 [(.var 3)])) [.ret (.k (.str "number"))] []]],
  .ifS (.and (.cmp .Eq (.var 1) (.k (.str "long"))) (.or (.cmp .Gt (.blt .len [(.var 0)]) (.k (.int 4))) (.cmp .Lt (.blt .len [(.ix (.var 0) (.k (.int 0)))]) (.blt .len [(.var 0)])))) [.ret (.k (.str "long"))] [],
  .ifS (.and (.cmp .Eq (.var 1) (.k (.str "square"))) (.or (.cmp .Gt (.blt .len [(.var 0)]) (.k (.int 4))) (.cmp .NotEq (.blt .len [(.ix (.var 0) (.k (.int 0)))]) (.blt .len [(.var 0)])))) [.ret (.k (.str "square"))] [],
  .ret (.k (.non))]
def N_law_table_due : List Str := ["_law_thing", "_law_sort", "_law_row_here", "_law_number_here"]
abbrev s_law_table_due : Stmt := top 30
def d_law_table_due : Def := ⟨"_law_table_due", "_law_table_due", N_law_table_due, ["_law_thing", "_law_sort"], [], defScope s_law_table_due, defBody s_law_table_due, b_law_table_due⟩
/-! _law_told_table: 0 _law_thing, 1 _law_sort, 2 _law_short, 3 _law_told, 4 wrong -/
def b_law_told_table : List S := [
  .tryS [.set (.nm 3) (.ife (.var 2) (.call 4 [(.var 0)]) (.call 4 [(.var 0), (.var 1)]))] [⟨[1], some 4, [.set 3 (.lst [(.fld 0), (.and (.isx [0, 1, 2, 3]) (.isx [0, 1, 2, 3]))])]⟩],
  .ret (.var 3)]
def N_law_told_table : List Str := ["_law_thing", "_law_sort", "_law_short", "_law_told", "wrong"]
abbrev s_law_told_table : Stmt := top 31
def d_law_told_table : Def := ⟨"_law_told_table", "_law_told_table", N_law_told_table, ["_law_thing", "_law_sort", "_law_short"], [], defScope s_law_told_table, defBody s_law_told_table, b_law_told_table⟩
/-! _law_parts_drawn: 0 _law_hand_here, 1 _law_least, 2 _law_many, 3 _law_top, 4 _law_parts, 5 _law_k, 6 _law_way -/
def b_law_parts_drawn : List S := [
  .set (.nm 2) (.ix (.tup [(.k (.int 0)), (.k (.int 1)), (.k (.int 2)), (.k (.int 3)), (.k (.int 4)), (.k (.int 5)), (.k (.int 3)), (.k (.int 2)), (.k (.int 4)), (.k (.int 1)), (.k (.int 24)), (.k (.int 25)), (.k (.int 6)), (.k (.int 3)), (.k (.int 26)), (.k (.int 2))]) (.call 9 [(.var 0), (.k (.int 16))])),
  .set (.nm 3) (.ife (.cmp .Eq (.call 9 [(.var 0), (.k (.int 8))]) (.k (.int 7))) (.bin .Pow (.k (.int 10)) (.k (.int 40))) (.k (.int 7))),
  .set (.nm 4) (.rvs (.blt .sorted [(.comp [5] (.nm 5) .rng [(.var 2)] none (.bin .Add (.var 1) (.call 9 [(.var 0), (.var 3)])))])),
  .ifS (.var 4) [.ifS (.call 9 [(.var 0), (.k (.int 2))]) [.set (.nm 5) (.call 9 [(.var 0), (.blt .len [(.var 4)])]), .set (.nm 6) (.call 9 [(.var 0), (.k (.int 6))]), .ifS (.cmp .Lt (.var 6) (.k (.int 3))) [.six 4 (.var 5) (.ix (.tup [(.k (.bl true)), (.k (.non)), (.k (.str "1")), (.neg (.k (.int 1))), (.k (.int 0)), (.lst [(.k (.int 1))])]) (.call 9 [(.var 0), (.k (.int 6))]))] [.six 4 (.var 5) (.bin .Add (.bin .Add (.ix (.var 4) (.var 5)) (.k (.int 1))) (.call 9 [(.var 0), (.k (.int 3))]))]] []] [],
  .ret (.ife (.call 9 [(.var 0), (.k (.int 12))]) (.var 4) (.call 15 [(.var 0)]))]
def N_law_parts_drawn : List Str := ["_law_hand_here", "_law_least", "_law_many", "_law_top", "_law_parts", "_law_k", "_law_way"]
abbrev s_law_parts_drawn : Stmt := top 32
def d_law_parts_drawn : Def := ⟨"_law_parts_drawn", "_law_parts_drawn", N_law_parts_drawn, ["_law_hand_here", "_law_least"], [], defScope s_law_parts_drawn, defBody s_law_parts_drawn, b_law_parts_drawn⟩
/-! _law_parts_due: 0 _law_thing, 1 _law_low, 2 _law_length, 3 _law_most, 4 _law_part, 5 _law_k -/
def b_law_parts_due : List S := [
  .ifS (.or (.not (.call 12 [(.var 0)])) (.or (.cmp .Gt (.blt .len [(.var 0)]) (.var 3)) (.and (.cmp .IsNot (.var 2) (.k (.non))) (.cmp .NotEq (.blt .len [(.var 0)]) (.var 2))))) [.ret (.k (.str "many"))] [],
  .ifS (.and (.cmp .Eq (.var 1) (.k (.int 0))) (.not (.var 0))) [.ret (.k (.str "many"))] [],
  .forS (.nm 4) .seq [(.var 0)] [.ifS (.or (.not (.call 14 [(.var 4)])) (.cmp .Lt (.var 4) (.var 1))) [.ret (.k (.str "number"))] []],
  .forS (.nm 5) .rng [(.k (.int 1)), (.blt .len [(.var 0)])] [.ifS (.cmp .Gt (.ix (.var 0) (.var 5)) (.ix (.var 0) (.bin .Sub (.var 5) (.k (.int 1))))) [.ret (.k (.str "falling"))] []],
  .ret (.k (.non))]
def N_law_parts_due : List Str := ["_law_thing", "_law_low", "_law_length", "_law_most", "_law_part", "_law_k"]
abbrev s_law_parts_due : Stmt := top 33
def d_law_parts_due : Def := ⟨"_law_parts_due", "_law_parts_due", N_law_parts_due, ["_law_thing", "_law_low", "_law_length", "_law_most"], [], defScope s_law_parts_due, defBody s_law_parts_due, b_law_parts_due⟩
/-! _law_told_shape: 0 _law_thing, 1 _law_length, 2 _law_most, 3 wrong, 4 _law_told -/
def b_law_told_shape : List S := [
  .tryS [.ifS (.cmp .Eq (.var 2) (.k (.int 4))) [.set (.nm 4) (.ife (.cmp .Is (.var 1) (.k (.non))) (.call 6 [(.var 0)]) (.call 6 [(.var 0), (.var 1)]))] [.set (.nm 4) (.call 6 [(.var 0), (.var 1), (.var 2)])]] [⟨[2], some 3, [.set 4 (.lst [(.fld 0), (.and (.isx [0, 1, 2, 3]) (.isx [0, 1, 2, 3]))])]⟩],
  .ret (.var 4)]
def N_law_told_shape : List Str := ["_law_thing", "_law_length", "_law_most", "wrong", "_law_told"]
abbrev s_law_told_shape : Stmt := top 34
def d_law_told_shape : Def := ⟨"_law_told_shape", "_law_told_shape", N_law_told_shape, ["_law_thing", "_law_length", "_law_most"], [], defScope s_law_told_shape, defBody s_law_told_shape, b_law_told_shape⟩
/-! _law_told_kind: 0 _law_thing, 1 _law_most, 2 _law_told, 3 wrong -/
def b_law_told_kind : List S := [
  .tryS [.set (.nm 2) (.ife (.cmp .Eq (.var 1) (.k (.int 24))) (.call 7 [(.var 0)]) (.call 7 [(.var 0), (.var 1)]))] [⟨[3], some 3, [.set 2 (.lst [(.fld 0), (.and (.isx [0, 1, 2, 3]) (.isx [0, 1, 2, 3]))])]⟩],
  .ret (.var 2)]
def N_law_told_kind : List Str := ["_law_thing", "_law_most", "_law_told", "wrong"]
abbrev s_law_told_kind : Stmt := top 35
def d_law_told_kind : Def := ⟨"_law_told_kind", "_law_told_kind", N_law_told_kind, ["_law_thing", "_law_most"], [], defScope s_law_told_kind, defBody s_law_told_kind, b_law_told_kind⟩
/-! _law_told_prime: 0 _law_thing, 1 _law_told, 2 wrong -/
def b_law_told_prime : List S := [
  .tryS [.set (.nm 1) (.call 2 [(.var 0)])] [⟨[0], some 2, [.set 1 (.lst [(.rpr 0), (.and (.isx [0, 1, 2, 3]) (.isx [0, 1, 2, 3]))])]⟩],
  .ret (.var 1)]
def N_law_told_prime : List Str := ["_law_thing", "_law_told", "wrong"]
abbrev s_law_told_prime : Stmt := top 36
def d_law_told_prime : Def := ⟨"_law_told_prime", "_law_told_prime", N_law_told_prime, ["_law_thing"], [], defScope s_law_told_prime, defBody s_law_told_prime, b_law_told_prime⟩
/-! _law_right: 0 _law_told, 1 _law_thing, 2 _law_due -/
def b_law_right : List S := [
  .ifS (.cmp .IsNot (.var 2) (.k (.non))) [.ret (.and (.isi (.var 0) .list) (.cmp .Eq (.blt .repr [(.var 0)]) (.blt .repr [(.lst [(.var 2), (.k (.bl true))])])))] [],
  .ret (.and (.isi (.var 0) .tuple) (.cmp .Eq (.blt .repr [(.var 0)]) (.blt .repr [(.call 13 [(.var 1)])])))]
def N_law_right : List Str := ["_law_told", "_law_thing", "_law_due"]
abbrev s_law_right : Stmt := top 37
def d_law_right : Def := ⟨"_law_right", "_law_right", N_law_right, ["_law_told", "_law_thing", "_law_due"], [], defScope s_law_right, defBody s_law_right, b_law_right⟩
/-! law: 0 _law_script, 1 _law_hand_here, 2 _law_step, 3 _law_rows_here, 4 _law_thing, 5 _law_kept, 6 _law_sort, 7 _law_told, 8 _law_length, 9 _law_most, 10 _law_good -/
def b_law : List S := [
  .forS (.nm 2) .rng [(.k (.int 4))] [.set (.nm 3) (.call 17 [(.var 1)]), .set (.nm 4) (.ife (.call 9 [(.var 1), (.k (.int 2))]) (.call 11 [(.var 1), (.var 3)]) (.call 18 [(.var 1), (.var 3)])), .set (.nm 5) (.blt .repr [(.var 4)]), .set (.nm 6) (.ix (.tup [(.k (.str "any")), (.k (.str "long")), (.k (.str "square"))]) (.call 9 [(.var 1), (.k (.int 3))])), .set (.nm 7) (.call 20 [(.var 4), (.var 6), (.and (.cmp .Eq (.var 6) (.k (.str "any"))) (.cmp .Eq (.call 9 [(.var 1), (.k (.int 2))]) (.k (.int 0))))]), .ifS (.or (.not (.call 26 [(.var 7), (.var 4), (.call 19 [(.var 4), (.var 6)])])) (.cmp .NotEq (.blt .repr [(.var 4)]) (.var 5))) [.ret (.k (.bl false))] [], .set (.nm 4) (.call 21 [(.var 1), (.k (.int 0))]), .ifS (.call 12 [(.var 4)]) [.set (.nm 4) (.call 10 [(.var 1), (.var 4)])] [], .set (.nm 5) (.blt .repr [(.var 4)]), .set (.nm 8) (.ife (.call 9 [(.var 1), (.k (.int 2))]) (.k (.non)) (.call 9 [(.var 1), (.k (.int 6))])), .set (.nm 9) (.ix (.tup [(.k (.int 4)), (.k (.int 24)), (.k (.int 4)), (.k (.int 1)), (.k (.int 6)), (.k (.int 25))]) (.call 9 [(.var 1), (.k (.int 6))])), .set (.nm 7) (.call 23 [(.var 4), (.var 8), (.var 9)]), .ifS (.or (.not (.call 26 [(.var 7), (.var 4), (.call 22 [(.var 4), (.k (.int 0)), (.var 8), (.var 9)])])) (.cmp .NotEq (.blt .repr [(.var 4)]) (.var 5))) [.ret (.k (.bl false))] [], .set (.nm 4) (.call 21 [(.var 1), (.k (.int 1))]), .set (.nm 5) (.blt .repr [(.var 4)]), .set (.nm 9) (.ix (.tup [(.k (.int 24)), (.k (.int 4)), (.k (.int 8)), (.k (.int 24))]) (.call 9 [(.var 1), (.k (.int 4))])), .set (.nm 7) (.call 24 [(.var 4), (.var 9)]), .ifS (.or (.not (.call 26 [(.var 7), (.var 4), (.call 22 [(.var 4), (.k (.int 1)), (.k (.non)), (.var 9)])])) (.cmp .NotEq (.blt .repr [(.var 4)]) (.var 5))) [.ret (.k (.bl false))] [], .set (.nm 4) (.ix (.tup [(.k (.int 2)), (.k (.int 3)), (.k (.int 5)), (.k (.int 1)), (.k (.int 4)), (.k (.int 7)), (.k (.int 0)), (.neg (.k (.int 2))), (.k (.int 2)), (.k (.bl true)), (.k (.non)), (.k (.str "2")), (.lst [(.k (.int 3))]), (.k (.int 6)), (.bin .Pow (.k (.int 10)) (.k (.int 20))), (.k (.int 9))]) (.call 9 [(.var 1), (.k (.int 16))])), .set (.nm 7) (.call 25 [(.var 4)]), .set (.nm 10) (.and (.call 14 [(.var 4)]) (.cmp .In (.var 4) (.tup [(.k (.int 2)), (.k (.int 3)), (.k (.int 5))]))), .ifS (.cmp .NotEq (.blt .repr [(.var 7)]) (.blt .repr [(.ife (.var 10) (.var 4) (.lst [(.blt .repr [(.var 4)]), (.k (.bl true))]))])) [.ret (.k (.bl false))] []],
  .ret (.k (.bl true))]
def N_law : List Str := ["_law_script", "_law_hand_here", "_law_step", "_law_rows_here", "_law_thing", "_law_kept", "_law_sort", "_law_told", "_law_length", "_law_most", "_law_good"]
abbrev s_law : Stmt := top 38
abbrev s_law_hand : Stmt := top 18
def defs : List Def := [d_is_whole, d_is_sequence, d_check_prime, d_check_rows, d_check_table, d_parts_fault, d_check_shape, d_check_kind, d_law_mixed, d_law_take, d_law_row, d_law_rows, d_law_seq, d_law_deep, d_law_int, d_law_rid, d_law_number, d_law_rows_drawn, d_law_spoiled_rows, d_law_table_due, d_law_told_table, d_law_parts_drawn, d_law_parts_due, d_law_told_shape, d_law_told_kind, d_law_told_prime, d_law_right]
def sy : Sy := ⟨["isinstance", "bool", "int", "list", "tuple", "len", "range", "min", "sorted", "repr", "ValueError"], [("BadPrime", ["prime"]), ("BadTable", ["what"]), ("BadShape", ["what"]), ("BadKind", ["what"])], [("BadTable", [1]), ("TableError", [0, 1, 2, 3]), ("BadShape", [2]), ("BadKind", [3]), ("BadPrime", [0])], []⟩
abbrev s_BadPrime : Stmt := inClass (top 2) 0
theorem f_BadPrime : FnScope ["self", "prime"] ["self", "prime"] (defScope s_BadPrime) := ⟨rfl, rfl, rfl, by decide +kernel, rfl, by decide +kernel, by decide +kernel⟩
abbrev s_BadTable : Stmt := inClass (top 3) 0
theorem f_BadTable : FnScope ["self", "what"] ["self", "what"] (defScope s_BadTable) := ⟨rfl, rfl, rfl, by decide +kernel, rfl, by decide +kernel, by decide +kernel⟩
abbrev s_BadShape : Stmt := inClass (top 4) 0
theorem f_BadShape : FnScope ["self", "what"] ["self", "what"] (defScope s_BadShape) := ⟨rfl, rfl, rfl, by decide +kernel, rfl, by decide +kernel, by decide +kernel⟩
abbrev s_BadKind : Stmt := inClass (top 5) 0
theorem f_BadKind : FnScope ["self", "what"] ["self", "what"] (defScope s_BadKind) := ⟨rfl, rfl, rfl, by decide +kernel, rfl, by decide +kernel, by decide +kernel⟩
def nm : Nm := ⟨[(("is_whole" : Str), 3, 0), (("is_whole" : Str), 2, 0), (("is_whole" : Str), 1, 0), (("is_sequence" : Str), 1, 1), (("check_prime" : Str), 1, 2), (("check_rows" : Str), 1, 3), (("check_table" : Str), 2, 4), (("check_table" : Str), 1, 4), (("parts_fault" : Str), 2, 5), (("check_shape" : Str), 3, 6), (("check_shape" : Str), 2, 6), (("check_shape" : Str), 1, 6), (("check_kind" : Str), 2, 7), (("check_kind" : Str), 1, 7), (("_law_mixed" : Str), 2, 8), (("_law_take" : Str), 2, 9), (("_law_row" : Str), 2, 10), (("_law_rows" : Str), 2, 11), (("_law_seq" : Str), 1, 12), (("_law_deep" : Str), 1, 13), (("_law_int" : Str), 1, 14), (("_law_rid" : Str), 1, 15), (("_law_number" : Str), 1, 16), (("_law_rows_drawn" : Str), 1, 17), (("_law_spoiled_rows" : Str), 2, 18), (("_law_table_due" : Str), 2, 19), (("_law_told_table" : Str), 3, 20), (("_law_parts_drawn" : Str), 2, 21), (("_law_parts_due" : Str), 4, 22), (("_law_told_shape" : Str), 3, 23), (("_law_told_kind" : Str), 2, 24), (("_law_told_prime" : Str), 1, 25), (("_law_right" : Str), 3, 26)], sy.bl, sy.xn, sy.hn, sy.cn⟩
theorem nm_eq : nmOf defs sy = nm := by kernel_rfl
theorem c_is_whole : compB nm [] N_is_whole (compE nm [] N_is_whole 40) (defScope s_is_whole) 40 (defBody s_is_whole) = some b_is_whole := by kernel_rfl
theorem c_is_sequence : compB nm [] N_is_sequence (compE nm [] N_is_sequence 40) (defScope s_is_sequence) 40 (defBody s_is_sequence) = some b_is_sequence := by kernel_rfl
theorem c_check_prime : compB nm [] N_check_prime (compE nm [] N_check_prime 40) (defScope s_check_prime) 40 (defBody s_check_prime) = some b_check_prime := by kernel_rfl
theorem c_check_rows : compB nm [] N_check_rows (compE nm [] N_check_rows 40) (defScope s_check_rows) 40 (defBody s_check_rows) = some b_check_rows := by kernel_rfl
theorem c_check_table : compB nm [] N_check_table (compE nm [] N_check_table 40) (defScope s_check_table) 40 (defBody s_check_table) = some b_check_table := by kernel_rfl
theorem c_parts_fault : compB nm [] N_parts_fault (compE nm [] N_parts_fault 40) (defScope s_parts_fault) 40 (defBody s_parts_fault) = some b_parts_fault := by kernel_rfl
theorem c_check_shape : compB nm [] N_check_shape (compE nm [] N_check_shape 40) (defScope s_check_shape) 40 (defBody s_check_shape) = some b_check_shape := by kernel_rfl
theorem c_check_kind : compB nm [] N_check_kind (compE nm [] N_check_kind 40) (defScope s_check_kind) 40 (defBody s_check_kind) = some b_check_kind := by kernel_rfl
theorem c_law_mixed : compB nm [] N_law_mixed (compE nm [] N_law_mixed 40) (defScope s_law_mixed) 40 (defBody s_law_mixed) = some b_law_mixed := by kernel_rfl
theorem c_law_take : compB nm [] N_law_take (compE nm [] N_law_take 40) (defScope s_law_take) 40 (defBody s_law_take) = some b_law_take := by kernel_rfl
theorem c_law_row : compB nm [] N_law_row (compE nm [] N_law_row 40) (defScope s_law_row) 40 (defBody s_law_row) = some b_law_row := by kernel_rfl
theorem c_law_rows : compB nm [] N_law_rows (compE nm [] N_law_rows 40) (defScope s_law_rows) 40 (defBody s_law_rows) = some b_law_rows := by kernel_rfl
theorem c_law_seq : compB nm [] N_law_seq (compE nm [] N_law_seq 40) (defScope s_law_seq) 40 (defBody s_law_seq) = some b_law_seq := by kernel_rfl
theorem c_law_deep : compB nm [] N_law_deep (compE nm [] N_law_deep 40) (defScope s_law_deep) 40 (defBody s_law_deep) = some b_law_deep := by kernel_rfl
theorem c_law_int : compB nm [] N_law_int (compE nm [] N_law_int 40) (defScope s_law_int) 40 (defBody s_law_int) = some b_law_int := by kernel_rfl
theorem c_law_rid : compB nm [] N_law_rid (compE nm [] N_law_rid 40) (defScope s_law_rid) 40 (defBody s_law_rid) = some b_law_rid := by kernel_rfl
theorem c_law_number : compB nm [] N_law_number (compE nm [] N_law_number 40) (defScope s_law_number) 40 (defBody s_law_number) = some b_law_number := by kernel_rfl
theorem c_law_rows_drawn : compB nm [] N_law_rows_drawn (compE nm [] N_law_rows_drawn 40) (defScope s_law_rows_drawn) 40 (defBody s_law_rows_drawn) = some b_law_rows_drawn := by kernel_rfl
theorem c_law_spoiled_rows : compB nm ["_law_told"] N_law_spoiled_rows (compE nm ["_law_told"] N_law_spoiled_rows 40) (defScope s_law_spoiled_rows) 40 (defBody s_law_spoiled_rows) = some b_law_spoiled_rows := by kernel_rfl
theorem c_law_table_due : compB nm [] N_law_table_due (compE nm [] N_law_table_due 40) (defScope s_law_table_due) 40 (defBody s_law_table_due) = some b_law_table_due := by kernel_rfl
theorem c_law_told_table : compB nm [] N_law_told_table (compE nm [] N_law_told_table 40) (defScope s_law_told_table) 40 (defBody s_law_told_table) = some b_law_told_table := by kernel_rfl
theorem c_law_parts_drawn : compB nm [] N_law_parts_drawn (compE nm [] N_law_parts_drawn 40) (defScope s_law_parts_drawn) 40 (defBody s_law_parts_drawn) = some b_law_parts_drawn := by kernel_rfl
theorem c_law_parts_due : compB nm [] N_law_parts_due (compE nm [] N_law_parts_due 40) (defScope s_law_parts_due) 40 (defBody s_law_parts_due) = some b_law_parts_due := by kernel_rfl
theorem c_law_told_shape : compB nm [] N_law_told_shape (compE nm [] N_law_told_shape 40) (defScope s_law_told_shape) 40 (defBody s_law_told_shape) = some b_law_told_shape := by kernel_rfl
theorem c_law_told_kind : compB nm [] N_law_told_kind (compE nm [] N_law_told_kind 40) (defScope s_law_told_kind) 40 (defBody s_law_told_kind) = some b_law_told_kind := by kernel_rfl
theorem c_law_told_prime : compB nm [] N_law_told_prime (compE nm [] N_law_told_prime 40) (defScope s_law_told_prime) 40 (defBody s_law_told_prime) = some b_law_told_prime := by kernel_rfl
theorem c_law_right : compB nm [] N_law_right (compE nm [] N_law_right 40) (defScope s_law_right) 40 (defBody s_law_right) = some b_law_right := by kernel_rfl
theorem c_law : compB nm [] N_law (compE nm [] N_law 40) (defScope s_law) 40 ((defBody s_law).tail) = some b_law := by kernel_rfl
theorem f_is_whole : FnScope N_is_whole ["thing", "low", "high"] (defScope s_is_whole) := ⟨rfl, rfl, rfl, by decide +kernel, rfl, by decide +kernel, by decide +kernel⟩
theorem f_is_sequence : FnScope N_is_sequence ["thing"] (defScope s_is_sequence) := ⟨rfl, rfl, rfl, by decide +kernel, rfl, by decide +kernel, by decide +kernel⟩
theorem f_check_prime : FnScope N_check_prime ["thing"] (defScope s_check_prime) := ⟨rfl, rfl, rfl, by decide +kernel, rfl, by decide +kernel, by decide +kernel⟩
theorem f_check_rows : FnScope N_check_rows ["thing"] (defScope s_check_rows) := ⟨rfl, rfl, rfl, by decide +kernel, rfl, by decide +kernel, by decide +kernel⟩
theorem f_check_table : FnScope N_check_table ["thing", "sort"] (defScope s_check_table) := ⟨rfl, rfl, rfl, by decide +kernel, rfl, by decide +kernel, by decide +kernel⟩
theorem f_parts_fault : FnScope N_parts_fault ["thing", "low"] (defScope s_parts_fault) := ⟨rfl, rfl, rfl, by decide +kernel, rfl, by decide +kernel, by decide +kernel⟩
theorem f_check_shape : FnScope N_check_shape ["thing", "length", "most"] (defScope s_check_shape) := ⟨rfl, rfl, rfl, by decide +kernel, rfl, by decide +kernel, by decide +kernel⟩
theorem f_check_kind : FnScope N_check_kind ["thing", "most"] (defScope s_check_kind) := ⟨rfl, rfl, rfl, by decide +kernel, rfl, by decide +kernel, by decide +kernel⟩
theorem f_law_mixed : FnScope N_law_mixed ["_law_number_here", "_law_turn"] (defScope s_law_mixed) := ⟨rfl, rfl, rfl, by decide +kernel, rfl, by decide +kernel, by decide +kernel⟩
theorem f_law_take : FnScope N_law_take ["_law_hand_here", "_law_many"] (defScope s_law_take) := ⟨rfl, rfl, rfl, by decide +kernel, rfl, by decide +kernel, by decide +kernel⟩
theorem f_law_row : FnScope N_law_row ["_law_hand_here", "_law_items"] (defScope s_law_row) := ⟨rfl, rfl, rfl, by decide +kernel, rfl, by decide +kernel, by decide +kernel⟩
theorem f_law_rows : FnScope N_law_rows ["_law_hand_here", "_law_rows_here"] (defScope s_law_rows) := ⟨rfl, rfl, rfl, by decide +kernel, rfl, by decide +kernel, by decide +kernel⟩
theorem f_law_seq : FnScope N_law_seq ["_law_thing"] (defScope s_law_seq) := ⟨rfl, rfl, rfl, by decide +kernel, rfl, by decide +kernel, by decide +kernel⟩
theorem f_law_deep : FnScope N_law_deep ["_law_thing"] (defScope s_law_deep) := ⟨rfl, rfl, rfl, by decide +kernel, rfl, by decide +kernel, by decide +kernel⟩
theorem f_law_int : FnScope N_law_int ["_law_thing"] (defScope s_law_int) := ⟨rfl, rfl, rfl, by decide +kernel, rfl, by decide +kernel, by decide +kernel⟩
theorem f_law_rid : FnScope N_law_rid ["_law_hand_here"] (defScope s_law_rid) := ⟨rfl, rfl, rfl, by decide +kernel, rfl, by decide +kernel, by decide +kernel⟩
theorem f_law_number : FnScope N_law_number ["_law_hand_here"] (defScope s_law_number) := ⟨rfl, rfl, rfl, by decide +kernel, rfl, by decide +kernel, by decide +kernel⟩
theorem f_law_rows_drawn : FnScope N_law_rows_drawn ["_law_hand_here"] (defScope s_law_rows_drawn) := ⟨rfl, rfl, rfl, by decide +kernel, rfl, by decide +kernel, by decide +kernel⟩
theorem f_law_spoiled_rows : FnScope N_law_spoiled_rows ["_law_hand_here", "_law_rows_here"] (defScope s_law_spoiled_rows) := ⟨rfl, rfl, rfl, by decide +kernel, rfl, by decide +kernel, by decide +kernel⟩
theorem f_law_table_due : FnScope N_law_table_due ["_law_thing", "_law_sort"] (defScope s_law_table_due) := ⟨rfl, rfl, rfl, by decide +kernel, rfl, by decide +kernel, by decide +kernel⟩
theorem f_law_told_table : FnScope N_law_told_table ["_law_thing", "_law_sort", "_law_short"] (defScope s_law_told_table) := ⟨rfl, rfl, rfl, by decide +kernel, rfl, by decide +kernel, by decide +kernel⟩
theorem f_law_parts_drawn : FnScope N_law_parts_drawn ["_law_hand_here", "_law_least"] (defScope s_law_parts_drawn) := ⟨rfl, rfl, rfl, by decide +kernel, rfl, by decide +kernel, by decide +kernel⟩
theorem f_law_parts_due : FnScope N_law_parts_due ["_law_thing", "_law_low", "_law_length", "_law_most"] (defScope s_law_parts_due) := ⟨rfl, rfl, rfl, by decide +kernel, rfl, by decide +kernel, by decide +kernel⟩
theorem f_law_told_shape : FnScope N_law_told_shape ["_law_thing", "_law_length", "_law_most"] (defScope s_law_told_shape) := ⟨rfl, rfl, rfl, by decide +kernel, rfl, by decide +kernel, by decide +kernel⟩
theorem f_law_told_kind : FnScope N_law_told_kind ["_law_thing", "_law_most"] (defScope s_law_told_kind) := ⟨rfl, rfl, rfl, by decide +kernel, rfl, by decide +kernel, by decide +kernel⟩
theorem f_law_told_prime : FnScope N_law_told_prime ["_law_thing"] (defScope s_law_told_prime) := ⟨rfl, rfl, rfl, by decide +kernel, rfl, by decide +kernel, by decide +kernel⟩
theorem f_law_right : FnScope N_law_right ["_law_told", "_law_thing", "_law_due"] (defScope s_law_right) := ⟨rfl, rfl, rfl, by decide +kernel, rfl, by decide +kernel, by decide +kernel⟩
theorem f_law : FnScope N_law ["_law_script"] (defScope s_law) := ⟨rfl, rfl, rfl, by decide +kernel, rfl, by decide +kernel, by decide +kernel⟩
theorem p_is_whole_1 (k : Nat) (x0 : D) (g : Hand) : phi defs 10 (k + 1) 0 [x0] g = runF (phi defs 10 k) 10 3 b_is_whole [x0, .non, .non] g := rfl
theorem p_is_whole_2 (k : Nat) (x0 x1 : D) (g : Hand) : phi defs 10 (k + 1) 0 [x0, x1] g = runF (phi defs 10 k) 10 3 b_is_whole [x0, x1, .non] g := rfl
theorem p_is_whole_3 (k : Nat) (x0 x1 x2 : D) (g : Hand) : phi defs 10 (k + 1) 0 [x0, x1, x2] g = runF (phi defs 10 k) 10 3 b_is_whole [x0, x1, x2] g := rfl
theorem p_is_sequence_1 (k : Nat) (x0 : D) (g : Hand) : phi defs 10 (k + 1) 1 [x0] g = runF (phi defs 10 k) 10 1 b_is_sequence [x0] g := rfl
theorem p_check_prime_1 (k : Nat) (x0 : D) (g : Hand) : phi defs 10 (k + 1) 2 [x0] g = runF (phi defs 10 k) 10 1 b_check_prime [x0] g := rfl
theorem p_check_rows_1 (k : Nat) (x0 : D) (g : Hand) : phi defs 10 (k + 1) 3 [x0] g = runF (phi defs 10 k) 10 3 b_check_rows [x0] g := rfl
theorem p_check_table_1 (k : Nat) (x0 : D) (g : Hand) : phi defs 10 (k + 1) 4 [x0] g = runF (phi defs 10 k) 10 5 b_check_table [x0, .str "any"] g := rfl
theorem p_check_table_2 (k : Nat) (x0 x1 : D) (g : Hand) : phi defs 10 (k + 1) 4 [x0, x1] g = runF (phi defs 10 k) 10 5 b_check_table [x0, x1] g := rfl
theorem p_parts_fault_2 (k : Nat) (x0 x1 : D) (g : Hand) : phi defs 10 (k + 1) 5 [x0, x1] g = runF (phi defs 10 k) 10 4 b_parts_fault [x0, x1] g := rfl
theorem p_check_shape_1 (k : Nat) (x0 : D) (g : Hand) : phi defs 10 (k + 1) 6 [x0] g = runF (phi defs 10 k) 10 4 b_check_shape [x0, .non, .int 4] g := rfl
theorem p_check_shape_2 (k : Nat) (x0 x1 : D) (g : Hand) : phi defs 10 (k + 1) 6 [x0, x1] g = runF (phi defs 10 k) 10 4 b_check_shape [x0, x1, .int 4] g := rfl
theorem p_check_shape_3 (k : Nat) (x0 x1 x2 : D) (g : Hand) : phi defs 10 (k + 1) 6 [x0, x1, x2] g = runF (phi defs 10 k) 10 4 b_check_shape [x0, x1, x2] g := rfl
theorem p_check_kind_1 (k : Nat) (x0 : D) (g : Hand) : phi defs 10 (k + 1) 7 [x0] g = runF (phi defs 10 k) 10 3 b_check_kind [x0, .int 24] g := rfl
theorem p_check_kind_2 (k : Nat) (x0 x1 : D) (g : Hand) : phi defs 10 (k + 1) 7 [x0, x1] g = runF (phi defs 10 k) 10 3 b_check_kind [x0, x1] g := rfl
theorem p_law_mixed_2 (k : Nat) (x0 x1 : D) (g : Hand) : phi defs 10 (k + 1) 8 [x0, x1] g = runF (phi defs 10 k) 10 4 b_law_mixed [x0, x1] g := rfl
theorem p_law_take_2 (k : Nat) (x0 x1 : D) (g : Hand) : phi defs 10 (k + 1) 9 [x0, x1] g = runF (phi defs 10 k) 10 4 b_law_take [x0, x1] g := rfl
theorem p_law_row_2 (k : Nat) (x0 x1 : D) (g : Hand) : phi defs 10 (k + 1) 10 [x0, x1] g = runF (phi defs 10 k) 10 2 b_law_row [x0, x1] g := rfl
theorem p_law_rows_2 (k : Nat) (x0 x1 : D) (g : Hand) : phi defs 10 (k + 1) 11 [x0, x1] g = runF (phi defs 10 k) 10 3 b_law_rows [x0, x1] g := rfl
theorem p_law_seq_1 (k : Nat) (x0 : D) (g : Hand) : phi defs 10 (k + 1) 12 [x0] g = runF (phi defs 10 k) 10 1 b_law_seq [x0] g := rfl
theorem p_law_deep_1 (k : Nat) (x0 : D) (g : Hand) : phi defs 10 (k + 1) 13 [x0] g = runF (phi defs 10 k) 10 2 b_law_deep [x0] g := rfl
theorem p_law_int_1 (k : Nat) (x0 : D) (g : Hand) : phi defs 10 (k + 1) 14 [x0] g = runF (phi defs 10 k) 10 1 b_law_int [x0] g := rfl
theorem p_law_rid_1 (k : Nat) (x0 : D) (g : Hand) : phi defs 10 (k + 1) 15 [x0] g = runF (phi defs 10 k) 10 1 b_law_rid [x0] g := rfl
theorem p_law_number_1 (k : Nat) (x0 : D) (g : Hand) : phi defs 10 (k + 1) 16 [x0] g = runF (phi defs 10 k) 10 1 b_law_number [x0] g := rfl
theorem p_law_rows_drawn_1 (k : Nat) (x0 : D) (g : Hand) : phi defs 10 (k + 1) 17 [x0] g = runF (phi defs 10 k) 10 5 b_law_rows_drawn [x0] g := rfl
theorem p_law_spoiled_rows_2 (k : Nat) (x0 x1 : D) (g : Hand) : phi defs 10 (k + 1) 18 [x0, x1] g = runF (phi defs 10 k) 10 7 b_law_spoiled_rows [x0, x1] g := rfl
theorem p_law_table_due_2 (k : Nat) (x0 x1 : D) (g : Hand) : phi defs 10 (k + 1) 19 [x0, x1] g = runF (phi defs 10 k) 10 4 b_law_table_due [x0, x1] g := rfl
theorem p_law_told_table_3 (k : Nat) (x0 x1 x2 : D) (g : Hand) : phi defs 10 (k + 1) 20 [x0, x1, x2] g = runF (phi defs 10 k) 10 5 b_law_told_table [x0, x1, x2] g := rfl
theorem p_law_parts_drawn_2 (k : Nat) (x0 x1 : D) (g : Hand) : phi defs 10 (k + 1) 21 [x0, x1] g = runF (phi defs 10 k) 10 7 b_law_parts_drawn [x0, x1] g := rfl
theorem p_law_parts_due_4 (k : Nat) (x0 x1 x2 x3 : D) (g : Hand) : phi defs 10 (k + 1) 22 [x0, x1, x2, x3] g = runF (phi defs 10 k) 10 6 b_law_parts_due [x0, x1, x2, x3] g := rfl
theorem p_law_told_shape_3 (k : Nat) (x0 x1 x2 : D) (g : Hand) : phi defs 10 (k + 1) 23 [x0, x1, x2] g = runF (phi defs 10 k) 10 5 b_law_told_shape [x0, x1, x2] g := rfl
theorem p_law_told_kind_2 (k : Nat) (x0 x1 : D) (g : Hand) : phi defs 10 (k + 1) 24 [x0, x1] g = runF (phi defs 10 k) 10 4 b_law_told_kind [x0, x1] g := rfl
theorem p_law_told_prime_1 (k : Nat) (x0 : D) (g : Hand) : phi defs 10 (k + 1) 25 [x0] g = runF (phi defs 10 k) 10 3 b_law_told_prime [x0] g := rfl
theorem p_law_right_3 (k : Nat) (x0 x1 x2 : D) (g : Hand) : phi defs 10 (k + 1) 26 [x0, x1, x2] g = runF (phi defs 10 k) 10 3 b_law_right [x0, x1, x2] g := rfl
end K00

set_option Elab.async false
set_option linter.all false
set_option maxRecDepth 100000
set_option maxHeartbeats 4000000
/-! K00p1: the small tests; a loop that ends at the first bad item. -/
namespace K00
open PySem PD
def items : D → List D
  | .lst xs => xs
  | .tup xs => xs
  | _ => []
def isSeq : D → Bool
  | .lst _ => true
  | .tup _ => true
  | _ => false
def isInt : D → Bool
  | .int _ => true
  | _ => false
def whole (l : Int) : D → Bool
  | .int i => decide (l ≤ i)
  | _ => false
@[simp] theorem isTy_str (x : Str) (t : Ty) : isTy (.str x) t = some (t == .str) := rfl
@[simp] theorem isTy_edic (x : List (Int × Int)) (t : Ty) : isTy (.edic x) t = some false := rfl
@[simp] theorem isTy_hand (t : Ty) : isTy .hand t = some (t == .list) := rfl
section
variable (Φ : FEnv) (u : Nat) (g : Hand)
theorem r_seq {x : D} (h : x ≠ .hand) : runF Φ u 1 b_is_sequence [x] g = .ret (.d (.bl (isSeq x))) g := runF_rt ⟨[.d x], by
  cases x <;> first | exact absurd rfl h | simp [b_is_sequence, isSeq]⟩
theorem r_lseq {x : D} (h : x ≠ .hand) : runF Φ u 1 b_law_seq [x] g = .ret (.d (.bl (isSeq x))) g := runF_rt ⟨[.d x], by
  cases x <;> first | exact absurd rfl h | simp [b_law_seq, isSeq]⟩
theorem r_lint (x : D) : runF Φ u 1 b_law_int [x] g = .ret (.d (.bl (isInt x))) g := runF_rt ⟨[.d x], by
  cases x <;> simp [b_law_int, isInt]⟩
theorem r_whole (x : D) : runF Φ u 3 b_is_whole [x, .non, .non] g = .ret (.d (.bl (isInt x))) g := runF_rt ⟨[.d x, .d .non, .d .non], by
  cases x <;> simp [b_is_whole, isInt]⟩
theorem r_whole2 (x : D) (l : Int) : runF Φ u 3 b_is_whole [x, .int l, .non] g = .ret (.d (.bl (whole l x))) g := runF_rt ⟨[.d x, .d (.int l), .d .non], by
  cases x with
  | int i =>
    by_cases z : i < l
    · have z' : ¬ l ≤ i := by omega
      simp [b_is_whole, whole, z, z']
    · have z' : l ≤ i := by omega
      simp [b_is_whole, whole, z, z']
  | _ => simp [b_is_whole, whole]⟩
end
theorem ev_seq (k : Nat) (g : Hand) {x : D} (h : x ≠ .hand) : phi defs 10 (k + 1) 1 [x] g = .ret (.d (.bl (isSeq x))) g := (p_is_sequence_1 k x g).trans (r_seq _ _ g h)
theorem ev_lseq (k : Nat) (g : Hand) {x : D} (h : x ≠ .hand) : phi defs 10 (k + 1) 12 [x] g = .ret (.d (.bl (isSeq x))) g := (p_law_seq_1 k x g).trans (r_lseq _ _ g h)
theorem ev_lint (k : Nat) (g : Hand) (x : D) : phi defs 10 (k + 1) 14 [x] g = .ret (.d (.bl (isInt x))) g := (p_law_int_1 k x g).trans (r_lint _ _ g x)
theorem ev_whole (k : Nat) (g : Hand) (x : D) : phi defs 10 (k + 1) 0 [x] g = .ret (.d (.bl (isInt x))) g := (p_is_whole_1 k x g).trans (r_whole _ _ g x)
theorem ev_whole2 (k : Nat) (g : Hand) (x : D) (l : Int) : phi defs 10 (k + 1) 0 [x, .int l] g = .ret (.d (.bl (whole l x))) g := (p_is_whole_2 k x (.int l) g).trans (r_whole2 _ _ g x l)
/-- what ends a loop -/
def Ends (fin : Stt → Res Fl) : Prop := (∃ r, fin = fun s => .ok (.rt r) s) ∨ ∃ e, fin = fun s => .ex e s
theorem ends_rt (r : R) : Ends fun s => .ok (.rt r) s := .inl ⟨r, rfl⟩
theorem ends_ex (e : Exc) : Ends fun s => .ex e s := .inr ⟨e, rfl⟩
theorem forL_any {f : Stt → Res Fl} {t : Tg} (I : Stt → Prop) (bad : D → Bool) {fin : Stt → Res Fl} (hf : Ends fin) : ∀ (xs : List D) (s : Stt), I s →
    (∀ i x s, xs[i]? = some x → (∀ y ∈ xs.take i, bad y = false) → I s → ∃ s1, bindT t x s = some s1 ∧ ∃ s2, I s2 ∧ f s1 = (if bad x then fin s2 else .ok .nx s2)) →
    ∃ s', I s' ∧ forL f t xs s = if xs.any bad then fin s' else .ok .nx s'
  | [], s, h, _ => ⟨s, h, rfl⟩
  | x :: xs, s, h, k => by
    obtain ⟨s1, e1, s2, h2, e2⟩ := k 0 x s rfl (fun y z => by cases z) h
    unfold forL
    rw [List.any_cons]
    by_cases b : bad x = true
    · rw [if_pos b] at e2
      refine ⟨s2, h2, ?_⟩
      rw [b, Bool.true_or, if_pos rfl]
      rcases hf with ⟨r, rfl⟩ | ⟨e, rfl⟩
      · simp only [e1, e2]
      · simp only [e1, e2]
    · rw [if_neg b] at e2
      rw [Bool.not_eq_true] at b
      obtain ⟨s', h3, e3⟩ := forL_any I bad hf xs s2 h2 fun i y s hy hp hs => k (i + 1) y s hy (fun z hz => by
        rcases List.mem_cons.mp (by simpa using hz) with rfl | hz
        · exact b
        · exact hp z hz) hs
      refine ⟨s', h3, ?_⟩
      rw [b, Bool.false_or]
      simp only [e1, e2]
      exact e3
end K00

set_option Elab.async false
set_option linter.all false
set_option maxRecDepth 100000
set_option maxHeartbeats 4000000
/-! K00p2: tables checked. -/
namespace K00
open PySem PD
theorem evB_nxt {Φ : FEnv} {u : Nat} {c : S} {r : List S} {s s1 : Stt} (h : evS Φ u c s = .ok .nx s1) : evB Φ u (c :: r) s = evB Φ u r s1 := by
  rw [evB_cons, h]; rfl
theorem evB_ret {Φ : FEnv} {u : Nat} {c : S} {r : List S} {s s1 : Stt} {v : R} (h : evS Φ u c s = .ok (.rt v) s1) : evB Φ u (c :: r) s = .ok (.rt v) s1 := by
  rw [evB_cons, h]; rfl
theorem evB_exc {Φ : FEnv} {u : Nat} {c : S} {r : List S} {s s1 : Stt} {v : Exc} (h : evS Φ u c s = .ex v s1) : evB Φ u (c :: r) s = .ex v s1 := by
  rw [evB_cons, h]; rfl
def tupD (r : D) : D := .tup (items r)
def len0 (rs : List D) : Nat := (items (rs.headD .non)).length
def colBad (m : Nat) (r : D) : Bool := !(isSeq r) || !(decide (1 ≤ (items r).length) && decide ((items r).length ≤ 8) && decide ((items r).length = m))
def numBad (r : D) : Bool := (items r).any fun d => !isInt d
def rowsDue (x : D) : Option Str :=
  if (!(isSeq x) || !(decide (1 ≤ (items x).length) && decide ((items x).length ≤ 8))) = true then some "rows" else if (items x).any (colBad (len0 (items x))) = true then some "columns" else if (items x).any numBad = true then some "number" else none
structure Fs (Φ : FEnv) : Prop where
  w1 : ∀ x g, Φ 0 [x] g = .ret (.d (.bl (isInt x))) g
  w2 : ∀ x l g, Φ 0 [x, .int l] g = .ret (.d (.bl (whole l x))) g
  sq : ∀ x g, x ≠ .hand → Φ 1 [x] g = .ret (.d (.bl (isSeq x))) g
  ls : ∀ x g, x ≠ .hand → Φ 12 [x] g = .ret (.d (.bl (isSeq x))) g
  li : ∀ x g, Φ 14 [x] g = .ret (.d (.bl (isInt x))) g
theorem fs_ok (k : Nat) : Fs (phi defs 10 (k + 1)) := ⟨fun x g => ev_whole k g x, fun x l g => ev_whole2 k g x l, fun x g h => ev_seq k g h, fun x g h => ev_lseq k g h, fun x g => ev_lint k g x⟩
theorem len_items {x : D} (h : isSeq x = true) : blt .len [x] = some (.d (.int ((items x).length : Int))) := match x, h with
  | .lst _, _ => rfl
  | .tup _, _ => rfl
theorem tup_items {x : D} (h : isSeq x = true) : blt .tuple [x] = some (.d (.tup (items x))) := match x, h with
  | .lst _, _ => rfl
  | .tup _, _ => rfl
theorem src_items {x : D} (h : isSeq x = true) : srcL .seq [x] = some (items x) := match x, h with
  | .lst _, _ => rfl
  | .tup _, _ => rfl
theorem item_items {g : Hand} {x y : D} (h : isSeq x = true) {i : Int} (h0 : 0 ≤ i) (e : (items x)[i.toNat]? = some y) : itemS g x (.int i) = some y := match x, h, e with
  | .lst _, _, e => item_lst h0 e
  | .tup _, _, e => item_tup h0 e
theorem nh_items {x : D} (h : x.nh = true) : ∀ y ∈ items x, y.nh = true := by
  have key : ∀ xs : List D, D.nhs xs = true → ∀ y ∈ xs, y.nh = true := fun xs => by
    induction xs with
    | nil => exact fun _ y z => by cases z
    | cons x xs ih =>
      intro h y hy
      unfold D.nhs at h
      rw [Bool.and_eq_true] at h
      rcases List.mem_cons.mp hy with rfl | hy
      · exact h.1
      · exact ih h.2 y hy
  cases x with
  | lst xs => exact key xs (by unfold D.nh at h; exact h)
  | tup xs => exact key xs (by unfold D.nh at h; exact h)
  | _ => exact fun y z => by cases z
theorem nh_ne {x : D} (h : x.nh = true) : x ≠ .hand := fun z => by
  subst z
  unfold D.nh at h
  cases h
section
variable {Φ : FEnv} {u : Nat} {g : Hand}
def bodyC : List S := [.ifS (.or (.not (.call 1 [(.var 1)])) (.or (.cmp .Lt (.blt .len [(.var 1)]) (.k (.int 1))) (.or (.cmp .Gt (.blt .len [(.var 1)]) (.k (.int 8))) (.cmp .NotEq (.blt .len [(.var 1)]) (.blt .len [(.ix (.var 0) (.k (.int 0)))]))))) [.rse 1 [(.k (.str "columns"))]] []]
def bodyN : List S := [.ifS (.not (.call 0 [(.var 2)])) [.rse 1 [(.k (.str "number"))]] []]
def bodyC' : List S := [.ifS (.or (.not (.call 12 [(.var 2)])) (.or (.not (.chain .LtE .LtE (.k (.int 1)) (.blt .len [(.var 2)]) (.k (.int 8)))) (.cmp .NotEq (.blt .len [(.var 2)]) (.blt .len [(.ix (.var 0) (.k (.int 0)))])))) [.ret (.k (.str "columns"))] []]
def bodyN' : List S := [.ifS (.not (.call 14 [(.var 3)])) [.ret (.k (.str "number"))] []]
theorem colBad_no {m : Nat} {r : D} (h : isSeq r = false) : colBad m r = true := by simp [colBad, h]
theorem colBad_yes {m : Nat} {r : D} (h : isSeq r = true) : colBad m r = !(decide (1 ≤ (items r).length) && decide ((items r).length ≤ 8) && decide ((items r).length = m)) := by simp [colBad, h]
theorem col_body (F : Fs Φ) {x r : D} {c2 : Cell} (hr : r ≠ .hand) {m : Nat} (h0 : isSeq r = true → 1 ≤ (items r).length → (items r).length ≤ 8 → ∃ r0, itemS g x (.int 0) = some r0 ∧ blt .len [r0] = some (.d (.int (m : Int)))) :
    evB Φ u bodyC ⟨[.d x, .d r, c2], g⟩ = if colBad m r = true then .ex ⟨1, [.str "columns"]⟩ ⟨[.d x, .d r, c2], g⟩ else .ok .nx ⟨[.d x, .d r, c2], g⟩ := by
  cases hs : isSeq r with
  | false => rw [if_pos (colBad_no hs)]; simp [bodyC, F.sq _ _ hr, hs]
  | true =>
    have hl := len_items hs
    rw [colBad_yes hs]
    replace h0 := h0 hs
    generalize (items r).length = n at *
    by_cases a : n < 1
    · have a' : ¬ 1 ≤ n := by omega
      have a2 : (n : Int) < 1 := by omega
      simp [bodyC, F.sq _ _ hr, hs, hl, a', a2]
    · have a' : 1 ≤ n := by omega
      have a2 : ¬ (n : Int) < 1 := by omega
      by_cases b : 8 < n
      · have b' : ¬ n ≤ 8 := by omega
        have b2 : (8 : Int) < (n : Int) := by omega
        simp [bodyC, F.sq _ _ hr, hs, hl, a', a2, b', b2]
      · have b' : n ≤ 8 := by omega
        have b2 : ¬ (8 : Int) < (n : Int) := by omega
        obtain ⟨r0, i0, l0⟩ := h0 a' b'
        by_cases e : n = m
        · subst e
          simp [bodyC, F.sq _ _ hr, hs, hl, a', a2, b', b2, i0, l0]
        · have e2 : ¬ (n : Int) = (m : Int) := by omega
          simp [bodyC, F.sq _ _ hr, hs, hl, a', a2, b', b2, i0, l0, e, e2]
theorem col_body' (F : Fs Φ) {x r w : D} {c3 : Cell} (hr : r ≠ .hand) {m : Nat} (h0 : isSeq r = true → 1 ≤ (items r).length → (items r).length ≤ 8 → ∃ r0, itemS g x (.int 0) = some r0 ∧ blt .len [r0] = some (.d (.int (m : Int)))) :
    evB Φ u bodyC' ⟨[.d x, .d w, .d r, c3], g⟩ = if colBad m r = true then .ok (.rt (.d (.str "columns"))) ⟨[.d x, .d w, .d r, c3], g⟩ else .ok .nx ⟨[.d x, .d w, .d r, c3], g⟩ := by
  cases hs : isSeq r with
  | false => rw [if_pos (colBad_no hs)]; simp [bodyC', F.ls _ _ hr, hs]
  | true =>
    have hl := len_items hs
    rw [colBad_yes hs]
    replace h0 := h0 hs
    generalize (items r).length = n at *
    by_cases a : n < 1
    · have a' : ¬ 1 ≤ n := by omega
      have a2 : ¬ 1 ≤ (n : Int) := by omega
      simp [bodyC', F.ls _ _ hr, hs, hl, a', a2]
    · have a' : 1 ≤ n := by omega
      have a2 : 1 ≤ (n : Int) := by omega
      by_cases b : 8 < n
      · have b' : ¬ n ≤ 8 := by omega
        have b2 : ¬ (n : Int) ≤ 8 := by omega
        simp [bodyC', F.ls _ _ hr, hs, hl, a', a2, b', b2]
      · have b' : n ≤ 8 := by omega
        have b2 : (n : Int) ≤ 8 := by omega
        obtain ⟨r0, i0, l0⟩ := h0 a' b'
        by_cases e : n = m
        · subst e
          simp [bodyC', F.ls _ _ hr, hs, hl, a', a2, b', b2, i0, l0]
        · have e2 : ¬ (n : Int) = (m : Int) := by omega
          simp [bodyC', F.ls _ _ hr, hs, hl, a', a2, b', b2, i0, l0, e, e2]
/-- the first row's length where it is asked for -/
theorem first_ok {x : D} (hx : isSeq x = true) (g : Hand) {i : Nat} {r : D} (hi : (items x)[i]? = some r) (hp : ∀ y ∈ (items x).take i, colBad (len0 (items x)) y = false) (hs : isSeq r = true) : ∃ r0, itemS g x (.int 0) = some r0 ∧ blt .len [r0] = some (.d (.int (len0 (items x) : Int))) := by
  cases e : items x with
  | nil => rw [e] at hi; simp at hi
  | cons r0 rs =>
    have h1 : itemS g x (.int 0) = some r0 := item_items hx (Int.le_refl _) (by rw [e]; rfl)
    have h2 : isSeq r0 = true := by
      cases i with
      | zero =>
        rw [e] at hi
        cases hi
        exact hs
      | succ i =>
        have := hp r0 (by rw [e]; simp)
        unfold colBad at this
        rw [Bool.or_eq_false_iff] at this
        simpa using this.1
    exact ⟨r0, h1, by rw [len_items h2]; rfl⟩
theorem col_loop (F : Fs Φ) {x : D} (hn : x.nh = true) (hx : isSeq x = true) {c1 c2 : Cell} : ∃ c1' c2', forL (evB Φ u bodyC) (.nm 1) (items x) ⟨[.d x, c1, c2], g⟩ = if (items x).any (colBad (len0 (items x))) = true then .ex ⟨1, [.str "columns"]⟩ ⟨[.d x, c1', c2'], g⟩ else .ok .nx ⟨[.d x, c1', c2'], g⟩ := by
  obtain ⟨s', ⟨c1', c2', rfl⟩, e⟩ := forL_any (f := evB Φ u bodyC) (t := .nm 1) (fun s => ∃ c1 c2, s = ⟨[.d x, c1, c2], g⟩) (colBad (len0 (items x))) (ends_ex ⟨1, [.str "columns"]⟩) (items x) ⟨[.d x, c1, c2], g⟩ ⟨_, _, rfl⟩ fun i r s hi hp ⟨c1, c2, hs⟩ => by
    subst hs
    have hr := nh_ne (nh_items hn r (List.mem_of_getElem? hi))
    exact ⟨_, rfl, _, ⟨_, _, rfl⟩, col_body F hr fun h _ _ => first_ok hx g hi hp h⟩
  exact ⟨c1', c2', e⟩
theorem col_loop' (F : Fs Φ) {x w : D} (hn : x.nh = true) (hx : isSeq x = true) {c1 c2 : Cell} : ∃ c1' c2', forL (evB Φ u bodyC') (.nm 2) (items x) ⟨[.d x, .d w, c1, c2], g⟩ = if (items x).any (colBad (len0 (items x))) = true then .ok (.rt (.d (.str "columns"))) ⟨[.d x, .d w, c1', c2'], g⟩ else .ok .nx ⟨[.d x, .d w, c1', c2'], g⟩ := by
  obtain ⟨s', ⟨c1', c2', rfl⟩, e⟩ := forL_any (f := evB Φ u bodyC') (t := .nm 2) (fun s => ∃ c1 c2, s = ⟨[.d x, .d w, c1, c2], g⟩) (colBad (len0 (items x))) (ends_rt (.d (.str "columns"))) (items x) ⟨[.d x, .d w, c1, c2], g⟩ ⟨_, _, rfl⟩ fun i r s hi hp ⟨c1, c2, hs⟩ => by
    subst hs
    have hr := nh_ne (nh_items hn r (List.mem_of_getElem? hi))
    exact ⟨_, rfl, _, ⟨_, _, rfl⟩, col_body' F hr fun h _ _ => first_ok hx g hi hp h⟩
  exact ⟨c1', c2', e⟩
theorem num_loop (F : Fs Φ) {x : D} (hq : ∀ r ∈ items x, isSeq r = true) {c1 c2 : Cell} : ∃ c1' c2', forL (evB Φ u [.forS (.nm 2) .seq [(.var 1)] bodyN]) (.nm 1) (items x) ⟨[.d x, c1, c2], g⟩ = if (items x).any numBad = true then .ex ⟨1, [.str "number"]⟩ ⟨[.d x, c1', c2'], g⟩ else .ok .nx ⟨[.d x, c1', c2'], g⟩ := by
  obtain ⟨s', ⟨c1', c2', rfl⟩, e⟩ := forL_any (f := evB Φ u [.forS (.nm 2) .seq [(.var 1)] bodyN]) (t := .nm 1) (fun s => ∃ c1 c2, s = ⟨[.d x, c1, c2], g⟩) numBad (ends_ex ⟨1, [.str "number"]⟩) (items x) ⟨[.d x, c1, c2], g⟩ ⟨_, _, rfl⟩ fun i r s hi hp ⟨c1, c2, hs⟩ => by
    subst hs
    have hr := hq r (List.mem_of_getElem? hi)
    obtain ⟨s', ⟨c2', rfl⟩, e⟩ := forL_any (f := evB Φ u bodyN) (t := .nm 2) (fun s => ∃ c2, s = ⟨[.d x, .d r, c2], g⟩) (fun d => !isInt d) (ends_ex ⟨1, [.str "number"]⟩) (items r) ⟨[.d x, .d r, c2], g⟩ ⟨_, rfl⟩ fun i n s hi hp ⟨c2, hs⟩ => by
      subst hs
      refine ⟨_, rfl, ⟨[.d x, .d r, .d n], g⟩, ⟨_, rfl⟩, ?_⟩
      cases z : isInt n <;> simp [bodyN, F.w1, z]
    refine ⟨_, rfl, ⟨[.d x, .d r, c2'], g⟩, ⟨_, _, rfl⟩, ?_⟩
    have e2 : evS Φ u (.forS (.nm 2) .seq [(.var 1)] bodyN) ⟨[.d x, .d r, c2], g⟩ = if numBad r = true then .ex ⟨1, [.str "number"]⟩ ⟨[.d x, .d r, c2'], g⟩ else .ok .nx ⟨[.d x, .d r, c2'], g⟩ := by
      rw [evS_forS]
      simp only [evL_cons, evE_var, give_mk, List.getElem?_cons_succ, List.getElem?_cons_zero, Res.bind_ok, evL_nil, RD_d, src_items hr, Res.of_some]
      exact e
    show evB Φ u _ ⟨[.d x, .d r, c2], g⟩ = _
    rw [evB_cons, e2]
    split <;> rfl
  exact ⟨c1', c2', e⟩
theorem num_loop' (F : Fs Φ) {x w : D} (hq : ∀ r ∈ items x, isSeq r = true) {c1 c2 : Cell} : ∃ c1' c2', forL (evB Φ u [.forS (.nm 3) .seq [(.var 2)] bodyN']) (.nm 2) (items x) ⟨[.d x, .d w, c1, c2], g⟩ = if (items x).any numBad = true then .ok (.rt (.d (.str "number"))) ⟨[.d x, .d w, c1', c2'], g⟩ else .ok .nx ⟨[.d x, .d w, c1', c2'], g⟩ := by
  obtain ⟨s', ⟨c1', c2', rfl⟩, e⟩ := forL_any (f := evB Φ u [.forS (.nm 3) .seq [(.var 2)] bodyN']) (t := .nm 2) (fun s => ∃ c1 c2, s = ⟨[.d x, .d w, c1, c2], g⟩) numBad (ends_rt (.d (.str "number"))) (items x) ⟨[.d x, .d w, c1, c2], g⟩ ⟨_, _, rfl⟩ fun i r s hi hp ⟨c1, c2, hs⟩ => by
    subst hs
    have hr := hq r (List.mem_of_getElem? hi)
    obtain ⟨s', ⟨c2', rfl⟩, e⟩ := forL_any (f := evB Φ u bodyN') (t := .nm 3) (fun s => ∃ c2, s = ⟨[.d x, .d w, .d r, c2], g⟩) (fun d => !isInt d) (ends_rt (.d (.str "number"))) (items r) ⟨[.d x, .d w, .d r, c2], g⟩ ⟨_, rfl⟩ fun i n s hi hp ⟨c2, hs⟩ => by
      subst hs
      refine ⟨_, rfl, ⟨[.d x, .d w, .d r, .d n], g⟩, ⟨_, rfl⟩, ?_⟩
      cases z : isInt n <;> simp [bodyN', F.li, z]
    refine ⟨_, rfl, ⟨[.d x, .d w, .d r, c2'], g⟩, ⟨_, _, rfl⟩, ?_⟩
    have e2 : evS Φ u (.forS (.nm 3) .seq [(.var 2)] bodyN') ⟨[.d x, .d w, .d r, c2], g⟩ = if numBad r = true then .ok (.rt (.d (.str "number"))) ⟨[.d x, .d w, .d r, c2'], g⟩ else .ok .nx ⟨[.d x, .d w, .d r, c2'], g⟩ := by
      rw [evS_forS]
      simp only [evL_cons, evE_var, give_mk, List.getElem?_cons_succ, List.getElem?_cons_zero, Res.bind_ok, evL_nil, RD_d, src_items hr, Res.of_some]
      exact e
    show evB Φ u _ ⟨[.d x, .d w, .d r, c2], g⟩ = _
    rw [evB_cons, e2]
    split <;> rfl
  exact ⟨c1', c2', e⟩
end
end K00

set_option Elab.async false
set_option linter.all false
set_option maxRecDepth 100000
set_option maxHeartbeats 4000000
/-! K00p3: the defs of tables. -/
namespace K00
open PySem PD
def sortDue (w : Str) (n m : Nat) : Option Str := if w = "long" ∧ (4 < n ∨ m < n) then some "long" else if w = "square" ∧ (4 < n ∨ ¬ m = n) then some "square" else none
def tableDue (x : D) (w : Str) : Option Str :=
  match rowsDue x with
  | some v => some v
  | none => sortDue w (items x).length (len0 (items x))
def T2 (x : D) : D := .tup ((items x).map tupD)
/-- what a check answers -/
def frC (c : Nat) (o : Option Str) (y : D) (g : Hand) : FR :=
  match o with
  | some v => .ex ⟨c, [.str v]⟩ g
  | none => .ret (.d y) g
def dueD : Option Str → D
  | some v => .str v
  | none => .non
def toldD (o : Option Str) (y : D) : D :=
  match o with
  | some v => .lst [.str v, .bl true]
  | none => y
theorem lt_first {rs : List D} (h : 1 ≤ rs.length) : ∃ r0 rest, rs = r0 :: rest := by
  cases rs with
  | nil => simp at h
  | cons a b => exact ⟨a, b, rfl⟩
theorem rowsDue_seq {x : D} (h : rowsDue x = none) : isSeq x = true ∧ 1 ≤ (items x).length ∧ (items x).length ≤ 8 ∧ (∀ r ∈ items x, isSeq r = true ∧ 1 ≤ (items r).length ∧ (items r).length ≤ 8 ∧ (items r).length = len0 (items x)) ∧ ∀ r ∈ items x, ∀ d ∈ items r, isInt d = true := by
  unfold rowsDue at h
  split at h
  · cases h
  · rename_i h1
    split at h
    · cases h
    · rename_i h2
      split at h
      · cases h
      · rename_i h3
        simp only [Bool.or_eq_true, Bool.not_eq_true', Bool.and_eq_false_iff, decide_eq_false_iff_not, not_or, Bool.not_eq_false] at h1
        refine ⟨h1.1, by omega, by omega, fun r hr => ?_, fun r hr d hd => ?_⟩
        · have : colBad (len0 (items x)) r ≠ true := fun z => h2 (List.any_eq_true.mpr ⟨r, hr, z⟩)
          simp only [colBad, ne_eq, Bool.or_eq_true, Bool.not_eq_true', Bool.and_eq_false_iff, decide_eq_false_iff_not, not_or, Bool.not_eq_false] at this
          refine ⟨this.1, by omega, by omega, by omega⟩
        · have : numBad r ≠ true := fun z => h3 (List.any_eq_true.mpr ⟨r, hr, z⟩)
          cases z : isInt d with
          | true => rfl
          | false => exact absurd (List.any_eq_true.mpr ⟨d, hd, by rw [z]; rfl⟩) this
section
variable {Φ : FEnv} {u : Nat} {g : Hand}
def stR : S := .ifS (.or (.not (.call 1 [(.var 0)])) (.or (.cmp .Lt (.blt .len [(.var 0)]) (.k (.int 1))) (.cmp .Gt (.blt .len [(.var 0)]) (.k (.int 8))))) [.rse 1 [(.k (.str "rows"))]] []
def stR' : S := .ifS (.or (.not (.call 12 [(.var 0)])) (.not (.chain .LtE .LtE (.k (.int 1)) (.blt .len [(.var 0)]) (.k (.int 8))))) [.ret (.k (.str "rows"))] []
theorem st_rows (F : Fs Φ) {x : D} (hx : x ≠ .hand) {c1 c2 : Cell} : evS Φ u stR ⟨[.d x, c1, c2], g⟩ = if (!(isSeq x) || !(decide (1 ≤ (items x).length) && decide ((items x).length ≤ 8))) = true then .ex ⟨1, [.str "rows"]⟩ ⟨[.d x, c1, c2], g⟩ else .ok .nx ⟨[.d x, c1, c2], g⟩ := by
  cases hs : isSeq x with
  | false => simp [stR, F.sq _ _ hx, hs]
  | true =>
    have hl := len_items hs
    generalize (items x).length = n at *
    by_cases a : n < 1
    · have a' : ¬ 1 ≤ n := by omega
      have a2 : (n : Int) < 1 := by omega
      simp [stR, F.sq _ _ hx, hs, hl, a', a2]
    · have a' : 1 ≤ n := by omega
      have a2 : ¬ (n : Int) < 1 := by omega
      by_cases b : 8 < n
      · have b' : ¬ n ≤ 8 := by omega
        have b2 : (8 : Int) < (n : Int) := by omega
        simp [stR, F.sq _ _ hx, hs, hl, a', a2, b', b2]
      · have b' : n ≤ 8 := by omega
        have b2 : ¬ (8 : Int) < (n : Int) := by omega
        simp [stR, F.sq _ _ hx, hs, hl, a', a2, b', b2]
theorem st_rows' (F : Fs Φ) {x w : D} (hx : x ≠ .hand) {c1 c2 : Cell} : evS Φ u stR' ⟨[.d x, .d w, c1, c2], g⟩ = if (!(isSeq x) || !(decide (1 ≤ (items x).length) && decide ((items x).length ≤ 8))) = true then .ok (.rt (.d (.str "rows"))) ⟨[.d x, .d w, c1, c2], g⟩ else .ok .nx ⟨[.d x, .d w, c1, c2], g⟩ := by
  cases hs : isSeq x with
  | false => simp [stR', F.ls _ _ hx, hs]
  | true =>
    have hl := len_items hs
    generalize (items x).length = n at *
    by_cases a : n < 1
    · have a' : ¬ 1 ≤ n := by omega
      have a2 : ¬ 1 ≤ (n : Int) := by omega
      simp [stR', F.ls _ _ hx, hs, hl, a', a2]
    · have a' : 1 ≤ n := by omega
      have a2 : 1 ≤ (n : Int) := by omega
      by_cases b : 8 < n
      · have b' : ¬ n ≤ 8 := by omega
        have b2 : ¬ (n : Int) ≤ 8 := by omega
        simp [stR', F.ls _ _ hx, hs, hl, a', a2, b', b2]
      · have b' : n ≤ 8 := by omega
        have b2 : (n : Int) ≤ 8 := by omega
        simp [stR', F.ls _ _ hx, hs, hl, a', a2, b', b2]
theorem for0 {x : D} (hx : isSeq x = true) {t : Tg} {b : List S} {cs : List Cell} : evS Φ u (.forS t .seq [(.var 0)] b) ⟨.d x :: cs, g⟩ = forL (evB Φ u b) t (items x) ⟨.d x :: cs, g⟩ := by
  rw [evS_forS]
  simp only [evL_cons, evE_var, give_mk, List.getElem?_cons_zero, Res.bind_ok, evL_nil, RD_d, src_items hx, Res.of_some]
theorem r_rows (F : Fs Φ) {x : D} (hn : x.nh = true) : runF Φ u 3 b_check_rows [x] g = frC 1 (rowsDue x) (T2 x) g := by
  have hx := nh_ne hn
  have s1 := st_rows (u := u) (g := g) F hx (c1 := .no) (c2 := .no)
  have eb : b_check_rows = stR :: .forS (.nm 1) .seq [(.var 0)] bodyC :: .forS (.nm 1) .seq [(.var 0)] [.forS (.nm 2) .seq [(.var 1)] bodyN] :: [.ret (.blt .tuple [(.comp [1] (.nm 1) .seq [(.var 0)] none (.blt .tuple [(.var 1)]))])] := rfl
  cases hd : rowsDue x with
  | some v =>
    have hd2 := hd
    unfold rowsDue at hd2
    split at hd2
    · rename_i h1
      cases hd2
      rw [if_pos h1] at s1
      exact runF_ex ⟨_, by rw [eb]; exact evB_exc s1⟩
    · rename_i h1
      rw [if_neg h1] at s1
      have hs : isSeq x = true := by
        cases z : isSeq x with
        | true => rfl
        | false => exact absurd (by rw [z]; rfl) h1
      obtain ⟨c1, c2, e2⟩ := col_loop (u := u) (g := g) F hn hs (c1 := .no) (c2 := .no)
      rw [← for0 hs] at e2
      split at hd2
      · rename_i h2
        cases hd2
        rw [if_pos h2] at e2
        exact runF_ex ⟨_, by rw [eb]; exact (evB_nxt s1).trans (evB_exc e2)⟩
      · rename_i h2
        rw [if_neg h2] at e2
        have hq : ∀ r ∈ items x, isSeq r = true := fun r hr => by
          cases z : isSeq r with
          | true => rfl
          | false => exact absurd (List.any_eq_true.mpr ⟨r, hr, colBad_no z⟩) h2
        obtain ⟨c1', c2', e3⟩ := num_loop (u := u) (g := g) F hq (c1 := c1) (c2 := c2)
        rw [← for0 hs] at e3
        split at hd2
        · rename_i h3
          cases hd2
          rw [if_pos h3] at e3
          exact runF_ex ⟨_, by rw [eb]; exact (evB_nxt s1).trans ((evB_nxt e2).trans (evB_exc e3))⟩
        · cases hd2
  | none =>
    obtain ⟨hs, l1, l8, hq, hi⟩ := rowsDue_seq hd
    have hd2 := hd
    unfold rowsDue at hd2
    split at hd2
    · cases hd2
    · rename_i h1
      rw [if_neg h1] at s1
      obtain ⟨c1, c2, e2⟩ := col_loop (u := u) (g := g) F hn hs (c1 := .no) (c2 := .no)
      rw [← for0 hs] at e2
      split at hd2
      · cases hd2
      · rename_i h2
        rw [if_neg h2] at e2
        obtain ⟨c1', c2', e3⟩ := num_loop (u := u) (g := g) F (fun r hr => (hq r hr).1) (c1 := c1) (c2 := c2)
        rw [← for0 hs] at e3
        split at hd2
        · cases hd2
        · rename_i h3
          rw [if_neg h3] at e3
          have cm : compR Φ [1] (.nm 1) none (.blt .tuple [(.var 1)]) ((items x).map id) ⟨[.d x, .no, c2'], g⟩ = .ok ((items x).map tupD) ⟨[.d x, .no, c2'], g⟩ := compR_map id tupD (fun r hr => ⟨_, rfl, .d (tupD r), ⟨[.d x, .d r, c2'], g⟩, by simp [tup_items (hq r hr).1, tupD], rfl, by simp⟩) (by have : sizeLine = 16777216 := rfl; omega)
          rw [List.map_id] at cm
          have srx := src_items hs
          unfold T2
          generalize (items x).map tupD = ys at *
          refine runF_rt ⟨[.d x, .no, c2'], ?_⟩
          rw [eb]
          refine (evB_nxt s1).trans ((evB_nxt e2).trans ((evB_nxt e3).trans ?_))
          simp [srx, cm]
theorem st_long {n m : Nat} {w : Str} {c0 c2 : D} : evS Φ u (.ifS (.and (.cmp .Eq (.var 1) (.k (.str "long"))) (.or (.cmp .Gt (.var 3) (.k (.int 4))) (.cmp .Lt (.var 4) (.var 3)))) [.rse 1 [(.k (.str "long"))]] []) ⟨[.d c0, .d (.str w), .d c2, .d (.int n), .d (.int m)], g⟩ =
    if w = "long" ∧ (4 < n ∨ m < n) then .ex ⟨1, [.str "long"]⟩ ⟨[.d c0, .d (.str w), .d c2, .d (.int n), .d (.int m)], g⟩ else .ok .nx ⟨[.d c0, .d (.str w), .d c2, .d (.int n), .d (.int m)], g⟩ := by
  by_cases a : w = "long"
  · by_cases b : 4 < n
    · have b2 : (4 : Int) < n := by omega
      simp [a, b, b2]
    · have b2 : ¬ (4 : Int) < n := by omega
      by_cases c : m < n
      · have c2 : (m : Int) < n := by omega
        simp [a, b, b2, c, c2]
      · have c2 : ¬ (m : Int) < n := by omega
        simp [a, b, b2, c, c2]
  · simp [a]
theorem st_square {n m : Nat} {w : Str} {c0 c2 : D} : evS Φ u (.ifS (.and (.cmp .Eq (.var 1) (.k (.str "square"))) (.or (.cmp .Gt (.var 3) (.k (.int 4))) (.cmp .NotEq (.var 4) (.var 3)))) [.rse 1 [(.k (.str "square"))]] []) ⟨[.d c0, .d (.str w), .d c2, .d (.int n), .d (.int m)], g⟩ =
    if w = "square" ∧ (4 < n ∨ ¬ m = n) then .ex ⟨1, [.str "square"]⟩ ⟨[.d c0, .d (.str w), .d c2, .d (.int n), .d (.int m)], g⟩ else .ok .nx ⟨[.d c0, .d (.str w), .d c2, .d (.int n), .d (.int m)], g⟩ := by
  by_cases a : w = "square"
  · by_cases b : 4 < n
    · have b2 : (4 : Int) < n := by omega
      simp [a, b, b2]
    · have b2 : ¬ (4 : Int) < n := by omega
      by_cases c : m = n
      · subst c
        simp [a, b, b2]
      · have c2 : ¬ (m : Int) = n := by omega
        simp [a, b, b2, c, c2]
  · simp [a]
theorem r_table {x : D} {w : Str} (f3 : Φ 3 [x] g = frC 1 (rowsDue x) (T2 x) g) : runF Φ u 5 b_check_table [x, .str w] g = frC 1 (tableDue x w) (T2 x) g := by
  unfold tableDue
  cases hd : rowsDue x with
  | some v =>
    rw [hd] at f3
    have f3 : Φ 3 [x] g = .ex ⟨1, [.str v]⟩ g := f3
    exact runF_ex ⟨[.d x, .d (.str w), .no, .no, .no], by
      rw [b_check_table]
      refine evB_exc ?_
      simp [f3]⟩
  | none =>
    obtain ⟨hs, l1, l8, hq, hi⟩ := rowsDue_seq hd
    rw [hd] at f3
    have f3 : Φ 3 [x] g = .ret (.d (T2 x)) g := f3
    obtain ⟨r0, rest, er⟩ := lt_first l1
    have i0 : itemS g (T2 x) (.int 0) = some (tupD r0) := by
      unfold T2
      exact item_tup (Int.le_refl _) (by rw [er]; rfl)
    have n1 : blt .len [T2 x] = some (.d (.int ((items x).length : Int))) := by
      unfold T2
      rw [len_tup, List.length_map]
    have n2 : blt .len [tupD r0] = some (.d (.int ((len0 (items x) : Nat) : Int))) := by
      rw [er]; rfl
    have s4 := st_long (Φ := Φ) (u := u) (g := g) (n := (items x).length) (m := len0 (items x)) (w := w) (c0 := x) (c2 := T2 x)
    have s5 := st_square (Φ := Φ) (u := u) (g := g) (n := (items x).length) (m := len0 (items x)) (w := w) (c0 := x) (c2 := T2 x)
    generalize (items x).length = n at *
    generalize len0 (items x) = m at *
    generalize T2 x = y at *
    have s123 : ∀ {rest : List S} , evB Φ u (.set (.nm 2) (.call 3 [(.var 0)]) :: .set (.nm 3) (.blt .len [(.var 2)]) :: .set (.nm 4) (.blt .len [(.ix (.var 2) (.k (.int 0)))]) :: rest) ⟨[.d x, .d (.str w), .no, .no, .no], g⟩ = evB Φ u rest ⟨[.d x, .d (.str w), .d y, .d (.int n), .d (.int m)], g⟩ := fun {rest} => by
      refine (evB_nxt (s1 := ⟨[.d x, .d (.str w), .d y, .no, .no], g⟩) (by simp [f3])).trans ?_
      refine (evB_nxt (s1 := ⟨[.d x, .d (.str w), .d y, .d (.int n), .no], g⟩) (by simp [n1])).trans ?_
      exact evB_nxt (by simp [i0, n2])
    unfold sortDue
    by_cases a : w = "long" ∧ (4 < n ∨ m < n)
    · rw [if_pos a] at s4
      rw [if_pos a]
      exact runF_ex ⟨_, by rw [b_check_table]; exact s123.trans (evB_exc s4)⟩
    · rw [if_neg a] at s4
      rw [if_neg a]
      by_cases b : w = "square" ∧ (4 < n ∨ ¬ m = n)
      · rw [if_pos b] at s5
        rw [if_pos b]
        exact runF_ex ⟨_, by rw [b_check_table]; exact s123.trans ((evB_nxt s4).trans (evB_exc s5))⟩
      · rw [if_neg b] at s5
        rw [if_neg b]
        exact runF_rt ⟨[.d x, .d (.str w), .d y, .d (.int n), .d (.int m)], by rw [b_check_table]; exact s123.trans ((evB_nxt s4).trans ((evB_nxt s5).trans (by simp)))⟩
/-! the law's own words -/
theorem st_long' {n m : Nat} {x : D} {w : Str} {c2 c3 : Cell} (hl : blt .len [x] = some (.d (.int n))) (h0 : ∃ r0, itemS g x (.int 0) = some r0 ∧ blt .len [r0] = some (.d (.int (m : Int)))) : evS Φ u (.ifS (.and (.cmp .Eq (.var 1) (.k (.str "long"))) (.or (.cmp .Gt (.blt .len [(.var 0)]) (.k (.int 4))) (.cmp .Lt (.blt .len [(.ix (.var 0) (.k (.int 0)))]) (.blt .len [(.var 0)])))) [.ret (.k (.str "long"))] []) ⟨[.d x, .d (.str w), c2, c3], g⟩ =
    if w = "long" ∧ (4 < n ∨ m < n) then .ok (.rt (.d (.str "long"))) ⟨[.d x, .d (.str w), c2, c3], g⟩ else .ok .nx ⟨[.d x, .d (.str w), c2, c3], g⟩ := by
  obtain ⟨r0, i0, l0⟩ := h0
  by_cases a : w = "long"
  · by_cases b : 4 < n
    · have b2 : (4 : Int) < n := by omega
      simp [a, b, b2, hl]
    · have b2 : ¬ (4 : Int) < n := by omega
      by_cases c : m < n
      · have c2 : (m : Int) < n := by omega
        simp [a, b, b2, c, c2, hl, i0, l0]
      · have c2 : ¬ (m : Int) < n := by omega
        simp [a, b, b2, c, c2, hl, i0, l0]
  · simp [a]
theorem st_square' {n m : Nat} {x : D} {w : Str} {c2 c3 : Cell} (hl : blt .len [x] = some (.d (.int n))) (h0 : ∃ r0, itemS g x (.int 0) = some r0 ∧ blt .len [r0] = some (.d (.int (m : Int)))) : evS Φ u (.ifS (.and (.cmp .Eq (.var 1) (.k (.str "square"))) (.or (.cmp .Gt (.blt .len [(.var 0)]) (.k (.int 4))) (.cmp .NotEq (.blt .len [(.ix (.var 0) (.k (.int 0)))]) (.blt .len [(.var 0)])))) [.ret (.k (.str "square"))] []) ⟨[.d x, .d (.str w), c2, c3], g⟩ =
    if w = "square" ∧ (4 < n ∨ ¬ m = n) then .ok (.rt (.d (.str "square"))) ⟨[.d x, .d (.str w), c2, c3], g⟩ else .ok .nx ⟨[.d x, .d (.str w), c2, c3], g⟩ := by
  obtain ⟨r0, i0, l0⟩ := h0
  by_cases a : w = "square"
  · by_cases b : 4 < n
    · have b2 : (4 : Int) < n := by omega
      simp [a, b, b2, hl]
    · have b2 : ¬ (4 : Int) < n := by omega
      by_cases c : m = n
      · subst c
        simp [a, b, b2, hl, i0, l0]
      · have c2 : ¬ (m : Int) = n := by omega
        simp [a, b, b2, c, c2, hl, i0, l0]
  · simp [a]
theorem r_table_due (F : Fs Φ) {x : D} {w : Str} (hn : x.nh = true) : runF Φ u 4 b_law_table_due [x, .str w] g = .ret (.d (dueD (tableDue x w))) g := by
  have hx := nh_ne hn
  have s1 := st_rows' (u := u) (g := g) F (w := .str w) hx (c1 := .no) (c2 := .no)
  have eb : ∃ s4 s5, b_law_table_due = stR' :: .forS (.nm 2) .seq [(.var 0)] bodyC' :: .forS (.nm 2) .seq [(.var 0)] [.forS (.nm 3) .seq [(.var 2)] bodyN'] :: s4 :: s5 :: [.ret (.k (.non))] ∧
      (∀ {n m : Nat} {c2 c3 : Cell}, blt .len [x] = some (.d (.int n)) → (∃ r0, itemS g x (.int 0) = some r0 ∧ blt .len [r0] = some (.d (.int (m : Int)))) → evS Φ u s4 ⟨[.d x, .d (.str w), c2, c3], g⟩ = if w = "long" ∧ (4 < n ∨ m < n) then .ok (.rt (.d (.str "long"))) ⟨[.d x, .d (.str w), c2, c3], g⟩ else .ok .nx ⟨[.d x, .d (.str w), c2, c3], g⟩) ∧
      (∀ {n m : Nat} {c2 c3 : Cell}, blt .len [x] = some (.d (.int n)) → (∃ r0, itemS g x (.int 0) = some r0 ∧ blt .len [r0] = some (.d (.int (m : Int)))) → evS Φ u s5 ⟨[.d x, .d (.str w), c2, c3], g⟩ = if w = "square" ∧ (4 < n ∨ ¬ m = n) then .ok (.rt (.d (.str "square"))) ⟨[.d x, .d (.str w), c2, c3], g⟩ else .ok .nx ⟨[.d x, .d (.str w), c2, c3], g⟩) :=
    ⟨_, _, rfl, fun a b => st_long' a b, fun a b => st_square' a b⟩
  obtain ⟨s4, s5, eb, f4, f5⟩ := eb
  cases hd : rowsDue x with
  | some v =>
    have et : tableDue x w = some v := by unfold tableDue; rw [hd]
    rw [et]
    have hd2 := hd
    unfold rowsDue at hd2
    split at hd2
    · rename_i h1
      cases hd2
      rw [if_pos h1] at s1
      exact runF_rt ⟨_, by rw [eb]; exact evB_ret s1⟩
    · rename_i h1
      rw [if_neg h1] at s1
      have hs : isSeq x = true := by
        cases z : isSeq x with
        | true => rfl
        | false => exact absurd (by rw [z]; rfl) h1
      obtain ⟨c1, c2, e2⟩ := col_loop' (u := u) (g := g) F (w := .str w) hn hs (c1 := .no) (c2 := .no)
      rw [← for0 hs] at e2
      split at hd2
      · rename_i h2
        cases hd2
        rw [if_pos h2] at e2
        exact runF_rt ⟨_, by rw [eb]; exact (evB_nxt s1).trans (evB_ret e2)⟩
      · rename_i h2
        rw [if_neg h2] at e2
        have hq : ∀ r ∈ items x, isSeq r = true := fun r hr => by
          cases z : isSeq r with
          | true => rfl
          | false => exact absurd (List.any_eq_true.mpr ⟨r, hr, colBad_no z⟩) h2
        obtain ⟨c1', c2', e3⟩ := num_loop' (u := u) (g := g) F (w := .str w) hq (c1 := c1) (c2 := c2)
        rw [← for0 hs] at e3
        split at hd2
        · rename_i h3
          cases hd2
          rw [if_pos h3] at e3
          exact runF_rt ⟨_, by rw [eb]; exact (evB_nxt s1).trans ((evB_nxt e2).trans (evB_ret e3))⟩
        · cases hd2
  | none =>
    obtain ⟨hs, l1, l8, hq, hi⟩ := rowsDue_seq hd
    have et : tableDue x w = sortDue w (items x).length (len0 (items x)) := by unfold tableDue; rw [hd]
    rw [et]
    obtain ⟨r0, rest, er⟩ := lt_first l1
    have i0 : itemS g x (.int 0) = some r0 := item_items hs (Int.le_refl _) (by rw [er]; rfl)
    have n2 : blt .len [r0] = some (.d (.int ((len0 (items x) : Nat) : Int))) := by
      rw [len_items (hq r0 (by rw [er]; simp)).1, er]; rfl
    have hd2 := hd
    unfold rowsDue at hd2
    split at hd2
    · cases hd2
    · rename_i h1
      rw [if_neg h1] at s1
      obtain ⟨c1, c2, e2⟩ := col_loop' (u := u) (g := g) F (w := .str w) hn hs (c1 := .no) (c2 := .no)
      rw [← for0 hs] at e2
      split at hd2
      · cases hd2
      · rename_i h2
        rw [if_neg h2] at e2
        obtain ⟨c1', c2', e3⟩ := num_loop' (u := u) (g := g) F (w := .str w) (fun r hr => (hq r hr).1) (c1 := c1) (c2 := c2)
        rw [← for0 hs] at e3
        split at hd2
        · cases hd2
        · rename_i h3
          rw [if_neg h3] at e3
          have f4 := f4 (c2 := c1') (c3 := c2') (len_items hs) ⟨r0, i0, n2⟩
          have f5 := f5 (c2 := c1') (c3 := c2') (len_items hs) ⟨r0, i0, n2⟩
          generalize (items x).length = n at *
          generalize len0 (items x) = m at *
          unfold sortDue
          by_cases a : w = "long" ∧ (4 < n ∨ m < n)
          · rw [if_pos a] at f4
            rw [if_pos a]
            exact runF_rt ⟨_, by rw [eb]; exact (evB_nxt s1).trans ((evB_nxt e2).trans ((evB_nxt e3).trans (evB_ret f4)))⟩
          · rw [if_neg a] at f4
            rw [if_neg a]
            by_cases b : w = "square" ∧ (4 < n ∨ ¬ m = n)
            · rw [if_pos b] at f5
              rw [if_pos b]
              exact runF_rt ⟨_, by rw [eb]; exact (evB_nxt s1).trans ((evB_nxt e2).trans ((evB_nxt e3).trans ((evB_nxt f4).trans (evB_ret f5))))⟩
            · rw [if_neg b] at f5
              rw [if_neg b]
              exact runF_rt ⟨[.d x, .d (.str w), c1', c2'], by rw [eb]; exact (evB_nxt s1).trans ((evB_nxt e2).trans ((evB_nxt e3).trans ((evB_nxt f4).trans ((evB_nxt f5).trans (by simp [dueD])))))⟩
theorem r_told_table {x : D} {w : Str} {o : Option Str} {y : D} {b : Bool} (f1 : b = true → Φ 4 [x] g = frC 1 o y g) (f2 : Φ 4 [x, .str w] g = frC 1 o y g) : runF Φ u 5 b_law_told_table [x, .str w, .bl b] g = .ret (.d (toldD o y)) g := by
  have sz : sizeLine = 16777216 := rfl
  cases o with
  | some v =>
    have f2 : Φ 4 [x, .str w] g = .ex ⟨1, [.str v]⟩ g := f2
    cases b with
    | true =>
      have f1 : Φ 4 [x] g = .ex ⟨1, [.str v]⟩ g := f1 rfl
      exact runF_rt ⟨[.d x, .d (.str w), .d (.bl true), .d (toldD (some v) y), .no], by simp [b_law_told_table, f1, toldD, sz]⟩
    | false => exact runF_rt ⟨[.d x, .d (.str w), .d (.bl false), .d (toldD (some v) y), .no], by simp [b_law_told_table, f2, toldD, sz]⟩
  | none =>
    have f2 : Φ 4 [x, .str w] g = .ret (.d y) g := f2
    cases b with
    | true =>
      have f1 : Φ 4 [x] g = .ret (.d y) g := f1 rfl
      exact runF_rt ⟨[.d x, .d (.str w), .d (.bl true), .d y, .no], by simp [b_law_told_table, f1, toldD]⟩
    | false => exact runF_rt ⟨[.d x, .d (.str w), .d (.bl false), .d y, .no], by simp [b_law_told_table, f2, toldD]⟩
end
end K00

set_option Elab.async false
set_option linter.all false
set_option maxRecDepth 100000
set_option maxHeartbeats 4000000
/-! K00p4: the defs of shapes, kinds and primes. -/
namespace K00
open PySem PD
def fallBad (x : D) : D → Bool
  | .int k => (match item x (.int k), item x (.int (k - 1)) with
    | some (.int a), some (.int b) => decide (b < a)
    | _, _ => false)
  | _ => false
def partsFault (l : Int) (x : D) : Option Str := if (items x).any (fun d => !whole l d) = true then some "number" else if (rngL 1 (items x).length).any (fallBad x) = true then some "falling" else none
def lenD : Option Int → D
  | none => .non
  | some n => .int n
def many (l : Int) (len : Option Int) (most : Int) (x : D) : Bool := !isSeq x || (decide (most < ((items x).length : Int)) || ((match len with
  | none => false
  | some n => !decide (((items x).length : Int) = n)) || (decide (l = 0) && decide ((items x).length = 0))))
def partsDue (l : Int) (len : Option Int) (most : Int) (x : D) : Option Str := if many l len most x = true then some "many" else partsFault l x
theorem rngL_get {n i : Nat} {d : D} (h : (rngL 1 (n : Int))[i]? = some d) : d = .int (1 + (i : Int)) ∧ i + 1 < n := by
  unfold rngL at h
  rw [List.getElem?_map, Option.map_eq_some_iff] at h
  obtain ⟨k, h1, rfl⟩ := h
  obtain ⟨h2, h3⟩ := List.getElem?_eq_some_iff.mp h1
  rw [List.length_range] at h2
  rw [List.getElem_range] at h3
  subst h3
  exact ⟨rfl, by omega⟩
theorem itemS_item {g : Hand} {x i : D} (h : isSeq x = true) : itemS g x i = item x i := match x, h with
  | .lst _, _ => rfl
  | .tup _, _ => rfl
theorem item_at {x : D} (h : isSeq x = true) {i : Nat} {y : D} (e : (items x)[i]? = some y) : item x (.int (i : Int)) = some y := match x, h, e with
  | .lst _, _, e => item_lst (by omega) (by rw [Int.toNat_natCast]; exact e)
  | .tup _, _, e => item_tup (by omega) (by rw [Int.toNat_natCast]; exact e)
theorem whole_int {l : Int} {d : D} (h : whole l d = true) : ∃ i, d = .int i ∧ l ≤ i := match d, h with
  | .int i, h => ⟨i, rfl, of_decide_eq_true h⟩
/-- both items of a place -/
theorem fall_at {x : D} {l : Int} (hx : isSeq x = true) (hw : (items x).any (fun d => !whole l d) = false) {n i : Nat} {d : D} (hn : (items x).length = n) (h : (rngL 1 (n : Int))[i]? = some d) :
    ∃ a b : Int, d = .int (1 + (i : Int)) ∧ item x (.int (1 + (i : Int))) = some (.int a) ∧ item x (.int (1 + (i : Int) - 1)) = some (.int b) ∧ fallBad x d = decide (b < a) := by
  obtain ⟨rfl, hi⟩ := rngL_get h
  have all : ∀ y ∈ items x, ∃ i, y = .int i := fun y hy => by
    have : ¬ (!whole l y) = true := fun z => by
      have w : (items x).any (fun d => !whole l d) = true := List.any_eq_true.mpr ⟨y, hy, z⟩
      rw [hw] at w; cases w
    obtain ⟨i, e, _⟩ := whole_int (l := l) (d := y) (by cases z : whole l y; rw [z] at this; exact absurd rfl this; rfl)
    exact ⟨i, e⟩
  have h1 : (items x)[i + 1]? = some ((items x)[i + 1]'(by omega)) := List.getElem?_eq_getElem _
  have h2 : (items x)[i]? = some ((items x)[i]'(by omega)) := List.getElem?_eq_getElem _
  obtain ⟨a, ea⟩ := all _ (List.mem_of_getElem? h1)
  obtain ⟨b, eb⟩ := all _ (List.mem_of_getElem? h2)
  rw [ea] at h1
  rw [eb] at h2
  have i1 := item_at hx h1
  have i2 := item_at hx h2
  have e1 : (1 + (i : Int)) = ((i + 1 : Nat) : Int) := by omega
  have e2 : (1 + (i : Int) - 1) = (i : Int) := by omega
  refine ⟨a, b, rfl, by rw [e1]; exact i1, by rw [e2]; exact i2, ?_⟩
  unfold fallBad
  dsimp only
  rw [e2, e1, i1, i2]
section
variable {Φ : FEnv} {u : Nat} {g : Hand}
theorem for0r {x : D} (hx : isSeq x = true) (hl : (items x).length ≤ 1000) {t : Tg} {b : List S} {cs : List Cell} : evS Φ u (.forS t .rng [(.k (.int 1)), (.blt .len [(.var 0)])] b) ⟨.d x :: cs, g⟩ = forL (evB Φ u b) t (rngL 1 (items x).length) ⟨.d x :: cs, g⟩ := by
  have ro : rngOk 1 ((items x).length : Int) = true := rngOk_2 (by decide) (by decide) (by omega) (by omega)
  have hl := len_items hx
  generalize (items x).length = n at *
  rw [evS_forS]
  simp [hl, srcL_r2 ro]
theorem r_parts_fault (F : Fs Φ) {x : D} {l : Int} (hx : isSeq x = true) (hl : (items x).length ≤ 1000) : runF Φ u 4 b_parts_fault [x, .int l] g = .ret (.d (dueD (partsFault l x))) g := by
  unfold partsFault
  obtain ⟨s', ⟨c2, c3, rfl⟩, e1⟩ := forL_any (f := evB Φ u [.ifS (.not (.call 0 [(.var 2), (.var 1)])) [.ret (.k (.str "number"))] []]) (t := .nm 2) (fun s => ∃ c2 c3, s = ⟨[.d x, .d (.int l), c2, c3], g⟩) (fun d => !whole l d) (ends_rt (.d (.str "number"))) (items x) ⟨[.d x, .d (.int l), .no, .no], g⟩ ⟨_, _, rfl⟩ fun i r s hi hp ⟨c2, c3, hs⟩ => by
    subst hs
    refine ⟨_, rfl, ⟨[.d x, .d (.int l), .d r, c3], g⟩, ⟨_, _, rfl⟩, ?_⟩
    cases z : whole l r <;> simp [F.w2, z]
  rw [← for0 hx] at e1
  by_cases h1 : (items x).any (fun d => !whole l d) = true
  · rw [if_pos h1] at e1 ⊢
    exact runF_rt ⟨_, by rw [b_parts_fault]; exact evB_ret e1⟩
  · rw [if_neg h1] at e1 ⊢
    rw [Bool.not_eq_true] at h1
    obtain ⟨s', ⟨c2', c3', rfl⟩, e2⟩ := forL_any (f := evB Φ u [.ifS (.cmp .Gt (.ix (.var 0) (.var 3)) (.ix (.var 0) (.bin .Sub (.var 3) (.k (.int 1))))) [.ret (.k (.str "falling"))] []]) (t := .nm 3) (fun s => ∃ c2 c3, s = ⟨[.d x, .d (.int l), c2, c3], g⟩) (fallBad x) (ends_rt (.d (.str "falling"))) (rngL 1 (items x).length) ⟨[.d x, .d (.int l), c2, c3], g⟩ ⟨_, _, rfl⟩ fun i d s hi hp ⟨c2, c3, hs⟩ => by
      subst hs
      obtain ⟨a, b, rfl, i1, i2, e⟩ := fall_at hx h1 rfl hi
      rw [e]
      refine ⟨_, rfl, ⟨[.d x, .d (.int l), c2, .d (.int (1 + (i : Int)))], g⟩, ⟨_, _, rfl⟩, ?_⟩
      generalize (1 + (i : Int)) = k at *
      by_cases z : b < a <;> simp [itemS_item hx, i1, i2, z]
    rw [← for0r hx hl] at e2
    by_cases h2 : (rngL 1 (items x).length).any (fallBad x) = true
    · rw [if_pos h2] at e2 ⊢
      exact runF_rt ⟨_, by rw [b_parts_fault]; exact (evB_nxt e1).trans (evB_ret e2)⟩
    · rw [if_neg h2] at e2 ⊢
      exact runF_rt ⟨[.d x, .d (.int l), c2', c3'], by rw [b_parts_fault]; exact (evB_nxt e1).trans ((evB_nxt e2).trans (by simp [dueD]))⟩
theorem truth_seq {x : D} (h : isSeq x = true) : truth x = some (!decide ((items x).length = 0)) := match x, h with
  | .lst xs, _ => by cases xs <;> rfl
  | .tup xs, _ => by cases xs <;> rfl
theorem st_many (F : Fs Φ) {x : D} {l most : Int} {len : Option Int} (hx : x ≠ .hand) {rest : List S} {c4 c5 : Cell} :
    evB Φ u (.ifS (.or (.not (.call 12 [(.var 0)])) (.or (.cmp .Gt (.blt .len [(.var 0)]) (.var 3)) (.and (.cmp .IsNot (.var 2) (.k (.non))) (.cmp .NotEq (.blt .len [(.var 0)]) (.var 2))))) [.ret (.k (.str "many"))] [] :: .ifS (.and (.cmp .Eq (.var 1) (.k (.int 0))) (.not (.var 0))) [.ret (.k (.str "many"))] [] :: rest) ⟨[.d x, .d (.int l), .d (lenD len), .d (.int most), c4, c5], g⟩ =
      if many l len most x = true then .ok (.rt (.d (.str "many"))) ⟨[.d x, .d (.int l), .d (lenD len), .d (.int most), c4, c5], g⟩ else evB Φ u rest ⟨[.d x, .d (.int l), .d (lenD len), .d (.int most), c4, c5], g⟩ := by
  cases hs : isSeq x with
  | false =>
    have e : many l len most x = true := by unfold many; rw [hs]; rfl
    rw [if_pos e]
    simp [F.ls _ _ hx, hs]
  | true =>
    have hl := len_items hs
    have ht := truth_seq hs
    have e : many l len most x = (decide (most < ((items x).length : Int)) || ((match len with
      | none => false
      | some n => !decide (((items x).length : Int) = n)) || (decide (l = 0) && decide ((items x).length = 0)))) := by unfold many; rw [hs]; rfl
    rw [e]
    generalize (items x).length = n at *
    by_cases a : most < (n : Int)
    · simp [F.ls _ _ hx, hs, hl, a]
    · cases len with
      | none =>
        by_cases b : l = 0
        · by_cases c : n = 0
          · have a0 : ¬ most < 0 := by omega
            simp [F.ls _ _ hx, hs, hl, ht, a0, b, c, lenD]
          · simp [F.ls _ _ hx, hs, hl, ht, a, b, c, lenD]
        · simp [F.ls _ _ hx, hs, hl, ht, a, b, lenD]
      | some m =>
        by_cases q : (n : Int) = m
        · subst q
          by_cases b : l = 0
          · by_cases c : n = 0
            · have a0 : ¬ most < 0 := by omega
              simp [F.ls _ _ hx, hs, hl, ht, a0, b, c, lenD]
            · simp [F.ls _ _ hx, hs, hl, ht, a, b, c, lenD]
          · simp [F.ls _ _ hx, hs, hl, ht, a, b, lenD]
        · simp [F.ls _ _ hx, hs, hl, ht, a, q, lenD]
theorem many_no {x : D} {l most : Int} {len : Option Int} (h : many l len most x = false) : isSeq x = true := by
  unfold many at h
  rw [Bool.or_eq_false_iff] at h
  simpa using h.1
theorem r_parts_due (F : Fs Φ) {x : D} {l most : Int} {len : Option Int} (hx : x ≠ .hand) (hl : (items x).length ≤ 1000) : runF Φ u 6 b_law_parts_due [x, .int l, lenD len, .int most] g = .ret (.d (dueD (partsDue l len most x))) g := by
  have s1 := fun rest => st_many (Φ := Φ) (u := u) (g := g) F (x := x) (l := l) (most := most) (len := len) hx (rest := rest) (c4 := .no) (c5 := .no)
  unfold partsDue
  by_cases h0 : many l len most x = true
  · rw [if_pos h0]
    exact runF_rt ⟨_, by rw [b_law_parts_due]; exact (s1 _).trans (if_pos h0)⟩
  · rw [if_neg h0]
    have s1 := fun rest => (s1 rest).trans (if_neg h0)
    have hx := many_no (Bool.eq_false_iff.mpr h0)
    unfold partsFault
    obtain ⟨s', ⟨c2, c3, rfl⟩, e1⟩ := forL_any (f := evB Φ u [.ifS (.or (.not (.call 14 [(.var 4)])) (.cmp .Lt (.var 4) (.var 1))) [.ret (.k (.str "number"))] []]) (t := .nm 4) (fun s => ∃ c2 c3, s = ⟨[.d x, .d (.int l), .d (lenD len), .d (.int most), c2, c3], g⟩) (fun d => !whole l d) (ends_rt (.d (.str "number"))) (items x) ⟨[.d x, .d (.int l), .d (lenD len), .d (.int most), .no, .no], g⟩ ⟨_, _, rfl⟩ fun i r s hi hp ⟨c2, c3, hs⟩ => by
      subst hs
      refine ⟨_, rfl, ⟨[.d x, .d (.int l), .d (lenD len), .d (.int most), .d r, c3], g⟩, ⟨_, _, rfl⟩, ?_⟩
      cases r with
      | int i =>
        by_cases z : i < l
        · have z' : ¬ l ≤ i := by omega
          simp [F.li, isInt, whole, z, z']
        · have z' : l ≤ i := by omega
          simp [F.li, isInt, whole, z, z']
      | _ => simp [F.li, isInt, whole]
    rw [← for0 hx] at e1
    by_cases h1 : (items x).any (fun d => !whole l d) = true
    · rw [if_pos h1] at e1 ⊢
      exact runF_rt ⟨_, by rw [b_law_parts_due]; exact (s1 _).trans (evB_ret e1)⟩
    · rw [if_neg h1] at e1 ⊢
      rw [Bool.not_eq_true] at h1
      obtain ⟨s', ⟨c2', c3', rfl⟩, e2⟩ := forL_any (f := evB Φ u [.ifS (.cmp .Gt (.ix (.var 0) (.var 5)) (.ix (.var 0) (.bin .Sub (.var 5) (.k (.int 1))))) [.ret (.k (.str "falling"))] []]) (t := .nm 5) (fun s => ∃ c2 c3, s = ⟨[.d x, .d (.int l), .d (lenD len), .d (.int most), c2, c3], g⟩) (fallBad x) (ends_rt (.d (.str "falling"))) (rngL 1 (items x).length) ⟨[.d x, .d (.int l), .d (lenD len), .d (.int most), c2, c3], g⟩ ⟨_, _, rfl⟩ fun i d s hi hp ⟨c2, c3, hs⟩ => by
        subst hs
        obtain ⟨a, b, rfl, i1, i2, e⟩ := fall_at hx h1 rfl hi
        rw [e]
        refine ⟨_, rfl, ⟨[.d x, .d (.int l), .d (lenD len), .d (.int most), c2, .d (.int (1 + (i : Int)))], g⟩, ⟨_, _, rfl⟩, ?_⟩
        generalize (1 + (i : Int)) = k at *
        by_cases z : b < a <;> simp [itemS_item hx, i1, i2, z]
      rw [← for0r hx hl] at e2
      by_cases h2 : (rngL 1 (items x).length).any (fallBad x) = true
      · rw [if_pos h2] at e2 ⊢
        exact runF_rt ⟨_, by rw [b_law_parts_due]; exact (s1 _).trans ((evB_nxt e1).trans (evB_ret e2))⟩
      · rw [if_neg h2] at e2 ⊢
        exact runF_rt ⟨[.d x, .d (.int l), .d (lenD len), .d (.int most), c2', c3'], by rw [b_law_parts_due]; exact (s1 _).trans ((evB_nxt e1).trans ((evB_nxt e2).trans (by simp [dueD])))⟩
/-- how a check ends -/
def resC (c : Nat) (o : Option Str) (y : D) (s : Stt) : Res Fl :=
  match o with
  | some v => .ex ⟨c, [.str v]⟩ s
  | none => .ok (.rt (.d y)) s
theorem runF_resC {n c : Nat} {b : List S} {xs : List D} {o : Option Str} {y : D} (h : ∃ ρ, evB Φ u b ⟨xs.map .d ++ List.replicate (n - xs.length) .no, g⟩ = resC c o y ⟨ρ, g⟩) : runF Φ u n b xs g = frC c o y g := by
  obtain ⟨ρ, h⟩ := h
  cases o with
  | some v => exact runF_ex ⟨ρ, h⟩
  | none => exact runF_rt ⟨ρ, h⟩
theorem r_shape (F : Fs Φ) {x : D} {most : Int} {len : Option Int} (hx : x ≠ .hand) (f5 : isSeq x = true → Φ 5 [x, .int 0] g = .ret (.d (dueD (partsFault 0 x))) g) : runF Φ u 4 b_check_shape [x, lenD len, .int most] g = frC 2 (partsDue 0 len most x) (tupD x) g := by
  cases hs : isSeq x with
  | false =>
    have e : partsDue 0 len most x = some "many" := by unfold partsDue many; rw [hs]; rfl
    rw [e]
    exact runF_ex ⟨[.d x, .d (lenD len), .d (.int most), .no], by simp [b_check_shape, F.sq _ _ hx, hs]⟩
  | true =>
    have hl := len_items hs
    have tu := tup_items hs
    replace f5 := f5 hs
    have e : many 0 len most x = (decide (most < ((items x).length : Int)) || ((match len with
      | none => false
      | some n => !decide (((items x).length : Int) = n)) || decide ((items x).length = 0))) := by unfold many; rw [hs]; rfl
    unfold partsDue tupD
    rw [e]
    generalize partsFault 0 x = pf at *
    generalize items x = its at *
    generalize hn : its.length = n at *
    have fin : evB Φ u b_check_shape ⟨[.d x, .d (lenD len), .d (.int most), .no], g⟩ = evB Φ u [.set (.nm 3) (.call 5 [(.var 0), (.k (.int 0))]), .ifS (.cmp .IsNot (.var 3) (.k (.non))) [.rse 2 [(.var 3)]] [], .ret (.blt .tuple [(.var 0)])] ⟨[.d x, .d (lenD len), .d (.int most), .no], g⟩ → runF Φ u 4 b_check_shape [x, lenD len, .int most] g = frC 2 pf (.tup its) g := fun h => by
      refine runF_resC ⟨[.d x, .d (lenD len), .d (.int most), .d (dueD pf)], h.trans ?_⟩
      cases pf <;> simp [f5, dueD, tu, resC]
    by_cases a : most < (n : Int)
    · rw [if_pos (by rw [decide_eq_true a]; rfl)]
      refine runF_ex ⟨[.d x, .d (lenD len), .d (.int most), .no], ?_⟩
      by_cases b : (n : Int) < 1 <;> simp [b_check_shape, F.sq _ _ hx, hs, hl, a, b]
    · by_cases c : n = 0
      · rw [if_pos (by rw [decide_eq_true c]; simp)]
        refine runF_ex ⟨[.d x, .d (lenD len), .d (.int most), .no], ?_⟩
        have b : (n : Int) < 1 := by omega
        simp [b_check_shape, F.sq _ _ hx, hs, hl, a, b]
      · have b : ¬ (n : Int) < 1 := by omega
        cases len with
        | none =>
          rw [if_neg (by simp [a, c])]
          refine fin ?_
          rw [b_check_shape]
          refine (evB_nxt (s1 := ⟨[.d x, .d (lenD none), .d (.int most), .no], g⟩) (by simp [F.sq _ _ hx, hs, hl, a, b])).trans (evB_nxt (by simp [lenD]))
        | some m =>
          by_cases q : (n : Int) = m
          · rw [if_neg (by rw [decide_eq_false a, decide_eq_false c]; simp [q])]
            refine fin ?_
            rw [b_check_shape]
            refine (evB_nxt (s1 := ⟨[.d x, .d (lenD (some m)), .d (.int most), .no], g⟩) (by simp [F.sq _ _ hx, hs, hl, a, b])).trans (evB_nxt (by simp [lenD, hl, q]))
          · rw [if_pos (by simp [q])]
            refine runF_ex ⟨[.d x, .d (lenD (some m)), .d (.int most), .no], ?_⟩
            rw [b_check_shape]
            refine (evB_nxt (s1 := ⟨[.d x, .d (lenD (some m)), .d (.int most), .no], g⟩) (by simp [F.sq _ _ hx, hs, hl, a, b])).trans (evB_exc (by simp [lenD, hl, q]))
theorem r_kind (F : Fs Φ) {x : D} {most : Int} (hx : x ≠ .hand) (f5 : isSeq x = true → Φ 5 [x, .int 1] g = .ret (.d (dueD (partsFault 1 x))) g) : runF Φ u 3 b_check_kind [x, .int most] g = frC 3 (partsDue 1 none most x) (tupD x) g := by
  cases hs : isSeq x with
  | false =>
    have e : partsDue 1 none most x = some "many" := by unfold partsDue many; rw [hs]; rfl
    rw [e]
    exact runF_ex ⟨[.d x, .d (.int most), .no], by simp [b_check_kind, F.sq _ _ hx, hs]⟩
  | true =>
    have hl := len_items hs
    have tu := tup_items hs
    replace f5 := f5 hs
    have e : many 1 none most x = decide (most < ((items x).length : Int)) := by unfold many; rw [hs]; simp
    unfold partsDue tupD
    rw [e]
    generalize partsFault 1 x = pf at *
    generalize items x = its at *
    generalize hn : its.length = n at *
    by_cases a : most < (n : Int)
    · rw [if_pos (decide_eq_true a)]
      refine runF_ex ⟨[.d x, .d (.int most), .no], ?_⟩
      simp [b_check_kind, F.sq _ _ hx, hs, hl, a]
    · rw [if_neg (by rw [decide_eq_false a]; decide)]
      cases pf with
      | some v => exact runF_ex ⟨[.d x, .d (.int most), .d (.str v)], by simp [b_check_kind, F.sq _ _ hx, hs, hl, a, f5, dueD]⟩
      | none => exact runF_rt ⟨[.d x, .d (.int most), .d .non], by simp [b_check_kind, F.sq _ _ hx, hs, hl, a, f5, dueD, tu]⟩
theorem r_told_shape {x : D} {most : Int} {len : Option Int} {o : Option Str} {y : D} (f1 : most = 4 → len = none → Φ 6 [x] g = frC 2 o y g) (f2 : most = 4 → Φ 6 [x, lenD len] g = frC 2 o y g) (f3 : Φ 6 [x, lenD len, .int most] g = frC 2 o y g) : runF Φ u 5 b_law_told_shape [x, lenD len, .int most] g = .ret (.d (toldD o y)) g := by
  have sz : sizeLine = 16777216 := rfl
  by_cases a : most = 4
  · subst a
    replace f1 := f1 rfl
    replace f2 := f2 rfl
    cases len with
    | none =>
      replace f1 := f1 rfl
      cases o with
      | some v =>
        have f1 : Φ 6 [x] g = .ex ⟨2, [.str v]⟩ g := f1
        exact runF_rt ⟨[.d x, .d .non, .d (.int 4), .no, .d (toldD (some v) y)], by simp [b_law_told_shape, f1, toldD, lenD, sz]⟩
      | none =>
        have f1 : Φ 6 [x] g = .ret (.d y) g := f1
        exact runF_rt ⟨[.d x, .d .non, .d (.int 4), .no, .d y], by simp [b_law_told_shape, f1, toldD, lenD, sz]⟩
    | some m =>
      cases o with
      | some v =>
        have f2 : Φ 6 [x, .int m] g = .ex ⟨2, [.str v]⟩ g := f2
        exact runF_rt ⟨[.d x, .d (.int m), .d (.int 4), .no, .d (toldD (some v) y)], by simp [b_law_told_shape, f2, toldD, lenD, sz]⟩
      | none =>
        have f2 : Φ 6 [x, .int m] g = .ret (.d y) g := f2
        exact runF_rt ⟨[.d x, .d (.int m), .d (.int 4), .no, .d y], by simp [b_law_told_shape, f2, toldD, lenD, sz]⟩
  · cases o with
    | some v =>
      have f3 : Φ 6 [x, lenD len, .int most] g = .ex ⟨2, [.str v]⟩ g := f3
      exact runF_rt ⟨[.d x, .d (lenD len), .d (.int most), .no, .d (toldD (some v) y)], by simp [b_law_told_shape, f3, toldD, a, sz]⟩
    | none =>
      have f3 : Φ 6 [x, lenD len, .int most] g = .ret (.d y) g := f3
      exact runF_rt ⟨[.d x, .d (lenD len), .d (.int most), .no, .d y], by simp [b_law_told_shape, f3, toldD, a, sz]⟩
theorem r_told_kind {x : D} {most : Int} {o : Option Str} {y : D} (f1 : most = 24 → Φ 7 [x] g = frC 3 o y g) (f3 : Φ 7 [x, .int most] g = frC 3 o y g) : runF Φ u 4 b_law_told_kind [x, .int most] g = .ret (.d (toldD o y)) g := by
  have sz : sizeLine = 16777216 := rfl
  by_cases a : most = 24
  · subst a
    replace f1 := f1 rfl
    cases o with
    | some v =>
      have f1 : Φ 7 [x] g = .ex ⟨3, [.str v]⟩ g := f1
      exact runF_rt ⟨[.d x, .d (.int 24), .d (toldD (some v) y), .no], by simp [b_law_told_kind, f1, toldD, sz]⟩
    | none =>
      have f1 : Φ 7 [x] g = .ret (.d y) g := f1
      exact runF_rt ⟨[.d x, .d (.int 24), .d y, .no], by simp [b_law_told_kind, f1, toldD, sz]⟩
  · cases o with
    | some v =>
      have f3 : Φ 7 [x, .int most] g = .ex ⟨3, [.str v]⟩ g := f3
      exact runF_rt ⟨[.d x, .d (.int most), .d (toldD (some v) y), .no], by simp [b_law_told_kind, f3, toldD, a, sz]⟩
    | none =>
      have f3 : Φ 7 [x, .int most] g = .ret (.d y) g := f3
      exact runF_rt ⟨[.d x, .d (.int most), .d y, .no], by simp [b_law_told_kind, f3, toldD, a, sz]⟩
end
end K00

set_option Elab.async false
set_option linter.all false
set_option maxRecDepth 100000
set_option maxHeartbeats 4000000
/-! K00p5: texts, what is right. -/
namespace K00
open PySem PD
structure Fine (c d : Nat) (x : D) : Prop where
  g : x.good = true
  c : x.cost ≤ c
  d : x.dep ≤ d
theorem Fine.mono {c d c' d' : Nat} {x : D} (h : Fine c d x) (hc : c ≤ c') (hd : d ≤ d') : Fine c' d' x := ⟨h.g, Nat.le_trans h.c hc, Nat.le_trans h.d hd⟩
theorem fines : ∀ {xs : List D} {c d : Nat}, (∀ x ∈ xs, Fine c d x) → D.goods xs = true ∧ D.costs xs ≤ xs.length * (c + 2) ∧ D.deps xs ≤ d
  | [], c, d, _ => ⟨rfl, Nat.zero_le _, Nat.zero_le _⟩
  | x :: xs, c, d, h => by
    obtain ⟨a1, a2, a3⟩ := fines (xs := xs) (c := c) (d := d) fun y hy => h y (List.mem_cons_of_mem _ hy)
    obtain ⟨b1, b2, b3⟩ := h x List.mem_cons_self
    refine ⟨?_, ?_, ?_⟩
    · unfold D.goods; rw [b1, a1]; rfl
    · show x.cost + 2 + D.costs xs ≤ (xs.length + 1) * (c + 2)
      rw [Nat.add_mul]; omega
    · show max x.dep (D.deps xs) ≤ d
      omega
theorem fine_lst {xs : List D} {c d n : Nat} (h : ∀ x ∈ xs, Fine c d x) (hl : xs.length ≤ n) : Fine (n * (c + 2) + 4) (d + 1) (.lst xs) := by
  obtain ⟨a1, a2, a3⟩ := fines h
  have := Nat.mul_le_mul_right (c + 2) hl
  exact ⟨by unfold D.good; exact a1, by show D.costs xs + 4 ≤ _; omega, by show D.deps xs + 1 ≤ _; omega⟩
theorem fine_tup {xs : List D} {c d n : Nat} (h : ∀ x ∈ xs, Fine c d x) (hl : xs.length ≤ n) : Fine (n * (c + 2) + 4) (d + 1) (.tup xs) := by
  obtain ⟨a1, a2, a3⟩ := fines h
  have := Nat.mul_le_mul_right (c + 2) hl
  exact ⟨by unfold D.good; exact a1, by show D.costs xs + 4 ≤ _; omega, by show D.deps xs + 1 ≤ _; omega⟩
theorem fine_seq {x : D} (h : isSeq x = true) {c d n : Nat} (hf : ∀ y ∈ items x, Fine c d y) (hl : (items x).length ≤ n) : Fine (n * (c + 2) + 4) (d + 1) x := match x, h, hf, hl with
  | .lst _, _, hf, hl => fine_lst hf hl
  | .tup _, _, hf, hl => fine_tup hf hl
theorem Fine.nh {c d : Nat} {x : D} (h : Fine c d x) : x.nh = true := (good_all x h.g).1
theorem Fine.ne {c d : Nat} {x : D} (h : Fine c d x) : x ≠ .hand := nh_ne h.nh
theorem Fine.rp {c d : Nat} {x : D} (h : Fine c d x) (hc : c ≤ 16777216) (hd : d ≤ 64) : blt .repr [x] = some (.d (.str x.py.shown)) := repr_good h.g (Nat.le_trans h.c hc) (Nat.le_trans h.d hd)
theorem goods_mem : ∀ {xs : List D}, D.goods xs = true → ∀ y ∈ xs, y.good = true ∧ y.cost + 2 ≤ D.costs xs ∧ y.dep ≤ D.deps xs
  | x :: xs, h, y, hy => by
    unfold D.goods at h
    rw [Bool.and_eq_true] at h
    have e1 : D.costs (x :: xs) = x.cost + 2 + D.costs xs := rfl
    have e2 : D.deps (x :: xs) = max x.dep (D.deps xs) := rfl
    rcases List.mem_cons.mp hy with rfl | hy
    · exact ⟨h.1, by omega, by omega⟩
    · obtain ⟨a, b, c⟩ := goods_mem h.2 y hy
      exact ⟨a, by omega, by omega⟩
/-- the same in tuples -/
theorem fine_tupD {c d : Nat} {x : D} (hs : isSeq x = true) (h : Fine c d x) : Fine c d (tupD x) := match x, hs, h with
  | .lst xs, _, h => ⟨h.g, h.c, h.d⟩
  | .tup xs, _, h => h
theorem fine_T2 {c d : Nat} {x : D} (hs : isSeq x = true) (hq : ∀ r ∈ items x, isSeq r = true) (h : Fine c d x) : Fine c d (T2 x) := by
  have key : ∀ xs : List D, (∀ r ∈ xs, isSeq r = true) → D.goods xs = true → D.goods (xs.map tupD) = true ∧ D.costs (xs.map tupD) = D.costs xs ∧ D.deps (xs.map tupD) = D.deps xs := fun xs => by
    induction xs with
    | nil => exact fun _ _ => ⟨rfl, rfl, rfl⟩
    | cons r rs ih =>
      intro hr hg
      unfold D.goods at hg
      rw [Bool.and_eq_true] at hg
      obtain ⟨a, b, c⟩ := ih (fun q hq => hr q (List.mem_cons_of_mem _ hq)) hg.2
      have f := fine_tupD (hr r List.mem_cons_self) ⟨hg.1, Nat.le_refl _, Nat.le_refl _⟩
      have e : (tupD r).cost = r.cost ∧ (tupD r).dep = r.dep := match r, hr r List.mem_cons_self with
        | .lst _, _ => ⟨rfl, rfl⟩
        | .tup _, _ => ⟨rfl, rfl⟩
      refine ⟨?_, ?_, ?_⟩
      · show ((tupD r).good && D.goods (rs.map tupD)) = true
        rw [f.g, a]; rfl
      · show (tupD r).cost + 2 + D.costs (rs.map tupD) = r.cost + 2 + D.costs rs
        rw [e.1, b]
      · show max (tupD r).dep (D.deps (rs.map tupD)) = max r.dep (D.deps rs)
        rw [e.2, c]
  have hi : D.goods (items x) = true ∧ D.costs (items x) + 4 ≤ c ∧ D.deps (items x) + 1 ≤ d := match x, hs, h with
    | .lst xs, _, h => ⟨by have := h.g; unfold D.good at this; exact this, h.c, h.d⟩
    | .tup xs, _, h => ⟨by have := h.g; unfold D.good at this; exact this, h.c, h.d⟩
  obtain ⟨a, b, e⟩ := key (items x) hq hi.1
  exact ⟨by unfold T2 D.good; exact a, by show D.costs ((items x).map tupD) + 4 ≤ c; omega, by show D.deps ((items x).map tupD) + 1 ≤ d; omega⟩
/-! the words are good -/
theorem rows_good {x : D} {v : Str} (h : rowsDue x = some v) : (D.str v).good = true := by
  unfold rowsDue at h
  split at h
  · cases h; decide +kernel
  · split at h
    · cases h; decide +kernel
    · split at h
      · cases h; decide +kernel
      · cases h
theorem table_good {x : D} {w v : Str} (h : tableDue x w = some v) : (D.str v).good = true := by
  unfold tableDue at h
  split at h
  · cases h
    exact rows_good (by assumption)
  · unfold sortDue at h
    split at h
    · cases h; decide +kernel
    · split at h
      · cases h; decide +kernel
      · cases h
theorem parts_good {l most : Int} {len : Option Int} {x : D} {v : Str} (h : partsDue l len most x = some v) : (D.str v).good = true := by
  unfold partsDue at h
  split at h
  · cases h; decide +kernel
  · unfold partsFault at h
    split at h
    · cases h; decide +kernel
    · split at h
      · cases h; decide +kernel
      · cases h
theorem fine_word {v : Str} (h : (D.str v).good = true) : Fine 3000 2 (.lst [.str v, .bl true]) :=
  (fine_lst (xs := [.str v, .bl true]) (c := 1000) (d := 0) (n := 2) (fun x hx => by
    rcases List.mem_cons.mp hx with rfl | hx
    · exact ⟨h, Nat.le_refl _, Nat.le_refl _⟩
    · rw [List.mem_singleton.mp hx]
      exact ⟨rfl, by show 5 ≤ 1000; omega, Nat.le_refl _⟩) (Nat.le_refl _)).mono (by omega) (by omega)
section
variable {Φ : FEnv} {u : Nat} {g : Hand}
theorem r_right {o : Option Str} {x : D} {ys : List D} {c d : Nat} (hv : ∀ v, o = some v → (D.str v).good = true) (hy : o = none → Fine c d (.tup ys) ∧ c ≤ 16777216 ∧ d ≤ 64 ∧ Φ 13 [x] g = .ret (.d (.tup ys)) g) :
    runF Φ u 3 b_law_right [toldD o (.tup ys), x, dueD o] g = .ret (.d (.bl true)) g := by
  cases o with
  | some v =>
    have rp := (fine_word (hv v rfl)).rp (by omega) (by omega)
    have sz : sizeLine = 16777216 := rfl
    exact runF_rt ⟨[.d (.lst [.str v, .bl true]), .d x, .d (.str v)], by simp [b_law_right, toldD, dueD, rp, sz]⟩
  | none =>
    obtain ⟨f, hc, hd, e⟩ := hy rfl
    have rp := f.rp hc hd
    exact runF_rt ⟨[.d (.tup ys), .d x, .d .non], by simp [b_law_right, toldD, dueD, rp, e]⟩
theorem r_deep0 (F : Fs Φ) {x : D} (hx : x ≠ .hand) (hs : isSeq x = false) : runF Φ u 2 b_law_deep [x] g = .ret (.d x) g := runF_rt ⟨[.d x, .no], by simp [b_law_deep, F.ls _ _ hx, hs]⟩
theorem r_deep1 (F : Fs Φ) {x : D} (hx : x ≠ .hand) (hs : isSeq x = true) (hl : (items x).length ≤ 1000) (h : D → D) (f : ∀ y ∈ items x, Φ 13 [y] g = .ret (.d (h y)) g) : runF Φ u 2 b_law_deep [x] g = .ret (.d (.tup ((items x).map h))) g := by
  have cm : compR Φ [1] (.nm 1) none (.call 13 [(.var 1)]) ((items x).map id) ⟨[.d x, .no], g⟩ = .ok ((items x).map h) ⟨[.d x, .no], g⟩ := compR_map id h (fun y hy => ⟨_, rfl, .d (h y), ⟨[.d x, .d y], g⟩, by simp [f y hy], rfl, by simp⟩) (by have : sizeLine = 16777216 := rfl; omega)
  rw [List.map_id] at cm
  have srx := src_items hs
  generalize (items x).map h = ys at *
  refine runF_rt ⟨[.d x, .no], ?_⟩
  simp [b_law_deep, F.ls _ _ hx, hs, srx, cm]
end
theorem ev_deep0 (k : Nat) (g : Hand) {x : D} (hx : x ≠ .hand) (hs : isSeq x = false) : phi defs 10 (k + 2) 13 [x] g = .ret (.d x) g := (p_law_deep_1 (k + 1) x g).trans (r_deep0 (fs_ok k) hx hs)
theorem isInt_seq {x : D} (h : isInt x = true) : isSeq x = false ∧ x ≠ .hand := match x, h with
  | .int _, _ => ⟨rfl, fun z => by cases z⟩
theorem ev_deep1 (k : Nat) (g : Hand) {x : D} (hx : x ≠ .hand) (hs : isSeq x = true) (hl : (items x).length ≤ 1000) (hi : ∀ d ∈ items x, isInt d = true) : phi defs 10 (k + 3) 13 [x] g = .ret (.d (tupD x)) g := by
  have := (p_law_deep_1 (k + 2) x g).trans (r_deep1 (u := 10) (fs_ok (k + 1)) hx hs hl id fun y hy => ev_deep0 k g (isInt_seq (hi y hy)).2 (isInt_seq (hi y hy)).1)
  rw [List.map_id] at this
  exact this
theorem ev_deep2 (k : Nat) (g : Hand) {x : D} (hx : x ≠ .hand) (hs : isSeq x = true) (hl : (items x).length ≤ 1000) (hr : ∀ r ∈ items x, r ≠ .hand ∧ isSeq r = true ∧ (items r).length ≤ 1000 ∧ ∀ d ∈ items r, isInt d = true) : phi defs 10 (k + 4) 13 [x] g = .ret (.d (T2 x)) g :=
  (p_law_deep_1 (k + 3) x g).trans (r_deep1 (u := 10) (fs_ok (k + 2)) hx hs hl tupD fun y hy => ev_deep1 k g (hr y hy).1 (hr y hy).2.1 (hr y hy).2.2.1 (hr y hy).2.2.2)
/-! ### the whole of a check -/
theorem ev_rows (k : Nat) (g : Hand) {x : D} (hn : x.nh = true) : phi defs 10 (k + 2) 3 [x] g = frC 1 (rowsDue x) (T2 x) g := (p_check_rows_1 (k + 1) x g).trans (r_rows (fs_ok k) hn)
theorem ev_table (k : Nat) (g : Hand) {x : D} {w : Str} (hn : x.nh = true) : phi defs 10 (k + 3) 4 [x, .str w] g = frC 1 (tableDue x w) (T2 x) g := (p_check_table_2 (k + 2) x (.str w) g).trans (r_table (ev_rows k g hn))
theorem ev_table1 (k : Nat) (g : Hand) {x : D} (hn : x.nh = true) : phi defs 10 (k + 3) 4 [x] g = frC 1 (tableDue x "any") (T2 x) g := (p_check_table_1 (k + 2) x g).trans (r_table (ev_rows k g hn))
theorem ev_told_table (k : Nat) (g : Hand) {x : D} {w : Str} {b : Bool} (hb : b = true → w = "any") (hn : x.nh = true) : phi defs 10 (k + 4) 20 [x, .str w, .bl b] g = .ret (.d (toldD (tableDue x w) (T2 x))) g :=
  (p_law_told_table_3 (k + 3) x (.str w) (.bl b) g).trans (r_told_table (fun z => by rw [hb z]; exact ev_table1 k g hn) (ev_table k g hn))
theorem ev_table_due (k : Nat) (g : Hand) {x : D} {w : Str} (hn : x.nh = true) : phi defs 10 (k + 2) 19 [x, .str w] g = .ret (.d (dueD (tableDue x w))) g := (p_law_table_due_2 (k + 1) x (.str w) g).trans (r_table_due (fs_ok k) hn)
theorem table_none {x : D} {w : Str} (h : tableDue x w = none) : rowsDue x = none := by
  unfold tableDue at h
  split at h
  · cases h
  · assumption
theorem ev_right_table (k : Nat) (g : Hand) {x : D} {w : Str} {c d : Nat} (hf : Fine c d x) (hc : c ≤ 16777216) (hd : d ≤ 64) : phi defs 10 (k + 5) 26 [toldD (tableDue x w) (T2 x), x, dueD (tableDue x w)] g = .ret (.d (.bl true)) g :=
  (p_law_right_3 (k + 4) _ x _ g).trans (r_right (ys := (items x).map tupD) (fun v h => table_good h) fun h => by
    obtain ⟨hs, l1, l8, hq, hi⟩ := rowsDue_seq (table_none h)
    exact ⟨fine_T2 hs (fun r hr => (hq r hr).1) hf, hc, hd, ev_deep2 k g hf.ne hs (by omega) fun r hr => ⟨nh_ne (nh_items hf.nh r hr), (hq r hr).1, by have := (hq r hr).2.2.1; omega, hi r hr⟩⟩)
theorem ev_parts_fault (k : Nat) (g : Hand) {x : D} {l : Int} (hx : isSeq x = true) (hl : (items x).length ≤ 1000) : phi defs 10 (k + 2) 5 [x, .int l] g = .ret (.d (dueD (partsFault l x))) g := (p_parts_fault_2 (k + 1) x (.int l) g).trans (r_parts_fault (fs_ok k) hx hl)
theorem ev_shape (k : Nat) (g : Hand) {x : D} {len : Option Int} {most : Int} (hx : x ≠ .hand) (hl : (items x).length ≤ 1000) : phi defs 10 (k + 3) 6 [x, lenD len, .int most] g = frC 2 (partsDue 0 len most x) (tupD x) g :=
  (p_check_shape_3 (k + 2) x (lenD len) (.int most) g).trans (r_shape (fs_ok (k + 1)) hx fun hs => ev_parts_fault k g hs hl)
theorem ev_shape2 (k : Nat) (g : Hand) {x : D} {len : Option Int} (hx : x ≠ .hand) (hl : (items x).length ≤ 1000) : phi defs 10 (k + 3) 6 [x, lenD len] g = frC 2 (partsDue 0 len 4 x) (tupD x) g :=
  (p_check_shape_2 (k + 2) x (lenD len) g).trans (r_shape (fs_ok (k + 1)) hx fun hs => ev_parts_fault k g hs hl)
theorem ev_shape1 (k : Nat) (g : Hand) {x : D} (hx : x ≠ .hand) (hl : (items x).length ≤ 1000) : phi defs 10 (k + 3) 6 [x] g = frC 2 (partsDue 0 none 4 x) (tupD x) g :=
  (p_check_shape_1 (k + 2) x g).trans (r_shape (len := none) (fs_ok (k + 1)) hx fun hs => ev_parts_fault k g hs hl)
theorem ev_told_shape (k : Nat) (g : Hand) {x : D} {len : Option Int} {most : Int} (hx : x ≠ .hand) (hl : (items x).length ≤ 1000) : phi defs 10 (k + 4) 23 [x, lenD len, .int most] g = .ret (.d (toldD (partsDue 0 len most x) (tupD x))) g :=
  (p_law_told_shape_3 (k + 3) x (lenD len) (.int most) g).trans (r_told_shape (fun a b => by rw [a, b]; exact ev_shape1 k g hx hl) (fun a => by rw [a]; exact ev_shape2 k g hx hl) (ev_shape k g hx hl))
theorem ev_kind (k : Nat) (g : Hand) {x : D} {most : Int} (hx : x ≠ .hand) (hl : (items x).length ≤ 1000) : phi defs 10 (k + 3) 7 [x, .int most] g = frC 3 (partsDue 1 none most x) (tupD x) g :=
  (p_check_kind_2 (k + 2) x (.int most) g).trans (r_kind (fs_ok (k + 1)) hx fun hs => ev_parts_fault k g hs hl)
theorem ev_kind1 (k : Nat) (g : Hand) {x : D} (hx : x ≠ .hand) (hl : (items x).length ≤ 1000) : phi defs 10 (k + 3) 7 [x] g = frC 3 (partsDue 1 none 24 x) (tupD x) g :=
  (p_check_kind_1 (k + 2) x g).trans (r_kind (fs_ok (k + 1)) hx fun hs => ev_parts_fault k g hs hl)
theorem ev_told_kind (k : Nat) (g : Hand) {x : D} {most : Int} (hx : x ≠ .hand) (hl : (items x).length ≤ 1000) : phi defs 10 (k + 4) 24 [x, .int most] g = .ret (.d (toldD (partsDue 1 none most x) (tupD x))) g :=
  (p_law_told_kind_2 (k + 3) x (.int most) g).trans (r_told_kind (fun a => by rw [a]; exact ev_kind1 k g hx hl) (ev_kind k g hx hl))
theorem ev_parts_due (k : Nat) (g : Hand) {x : D} {l most : Int} {len : Option Int} (hx : x ≠ .hand) (hl : (items x).length ≤ 1000) : phi defs 10 (k + 2) 22 [x, .int l, lenD len, .int most] g = .ret (.d (dueD (partsDue l len most x))) g :=
  (p_law_parts_due_4 (k + 1) x (.int l) (lenD len) (.int most) g).trans (r_parts_due (fs_ok k) hx hl)
theorem parts_none {x : D} {l most : Int} {len : Option Int} (h : partsDue l len most x = none) : isSeq x = true ∧ ∀ d ∈ items x, isInt d = true := by
  unfold partsDue at h
  split at h
  · cases h
  · rename_i h0
    refine ⟨many_no (Bool.eq_false_iff.mpr h0), fun d hd => ?_⟩
    unfold partsFault at h
    split at h
    · cases h
    · rename_i h1
      have : ¬ (!whole l d) = true := fun z => h1 (List.any_eq_true.mpr ⟨d, hd, z⟩)
      obtain ⟨i, e, _⟩ := whole_int (l := l) (d := d) (by cases z : whole l d; rw [z] at this; exact absurd rfl this; rfl)
      rw [e]; rfl
theorem ev_right_parts (k : Nat) (g : Hand) {x : D} {l most : Int} {len : Option Int} {c d : Nat} (hf : Fine c d x) (hl : (items x).length ≤ 1000) (hc : c ≤ 16777216) (hd : d ≤ 64) : phi defs 10 (k + 4) 26 [toldD (partsDue l len most x) (tupD x), x, dueD (partsDue l len most x)] g = .ret (.d (.bl true)) g :=
  (p_law_right_3 (k + 3) _ x _ g).trans (r_right (ys := items x) (fun v h => parts_good h) fun h => by
    obtain ⟨hs, hi⟩ := parts_none h
    exact ⟨fine_tupD hs hf, hc, hd, ev_deep1 k g hf.ne hs hl hi⟩)
/-! ### primes -/
def prime : D → Bool
  | .int i => decide (i = 2) || (decide (i = 3) || decide (i = 5))
  | _ => false
theorem in_prime (i : Int) : inD (.int i) (.tup [.int 2, .int 3, .int 5]) = some (decide (i = 2) || (decide (i = 3) || decide (i = 5))) := by
  have e : ∀ a : Int, (a == i) = decide (i = a) := fun a => by
    show decide (a = i) = decide (i = a)
    exact decide_eq_decide.mpr ⟨Eq.symm, Eq.symm⟩
  simp [inD, flat, eqF, e]
theorem r_prime {Φ : FEnv} {u : Nat} {g : Hand} (F : Fs Φ) (x : D) : runF Φ u 1 b_check_prime [x] g = if prime x = true then .ret (.d x) g else .ex ⟨0, [x]⟩ g := by
  have sz : sizeLine = 16777216 := rfl
  cases x with
  | int i =>
    have e : cmpop .NotIn (.int i) (.tup [.int 2, .int 3, .int 5]) = some (!prime (.int i)) := by
      show (inD (.int i) (.tup [.int 2, .int 3, .int 5])).map (!·) = _
      rw [in_prime]; rfl
    cases z : prime (.int i) with
    | true =>
      rw [if_pos rfl]
      exact runF_rt ⟨[.d (.int i)], by simp [b_check_prime, F.w1, isInt, sz, e, z]⟩
    | false =>
      rw [if_neg Bool.false_ne_true]
      exact runF_ex ⟨[.d (.int i)], by simp [b_check_prime, F.w1, isInt, sz, e, z]⟩
  | _ =>
    rw [if_neg (by unfold prime; exact Bool.false_ne_true)]
    exact runF_ex ⟨_, by simp [b_check_prime, F.w1, isInt]; rfl⟩
theorem ev_prime (k : Nat) (g : Hand) (x : D) : phi defs 10 (k + 2) 2 [x] g = if prime x = true then .ret (.d x) g else .ex ⟨0, [x]⟩ g := (p_check_prime_1 (k + 1) x g).trans (r_prime (fs_ok k) x)
def toldP (x : D) : D := if prime x = true then x else .lst [.str x.py.shown, .bl true]
theorem ev_told_prime (k : Nat) (g : Hand) {x : D} (rp : blt .repr [x] = some (.d (.str x.py.shown))) : phi defs 10 (k + 3) 25 [x] g = .ret (.d (toldP x)) g := by
  refine (p_law_told_prime_1 (k + 2) x g).trans ?_
  have e := ev_prime k g x
  have sz : sizeLine = 16777216 := rfl
  generalize phi defs 10 (k + 2) = Φ at *
  unfold toldP
  cases z : prime x with
  | true =>
    rw [z, if_pos rfl] at e
    exact runF_rt ⟨[.d x, .d x, .no], by simp [b_law_told_prime, e]⟩
  | false =>
    rw [z, if_neg Bool.false_ne_true] at e
    exact runF_rt ⟨[.d x, .d (.lst [.str x.py.shown, .bl true]), .no], by simp [b_law_told_prime, e, rp, sz]⟩
end K00

set_option Elab.async false
set_option linter.all false
set_option maxRecDepth 100000
set_option maxHeartbeats 4000000
/-! K00p6: what is drawn: numbers, rows. -/
namespace K00
open PySem PD
theorem ev_mixed (k : Nat) (g : Hand) {a b : Int} (a0 : -(2 ^ 90) < a) (a1 : a < 2 ^ 90) (b0 : -(2 ^ 90) < b) (b1 : b < 2 ^ 90) : phi defs 10 (k + 1) 8 [.int a, .int b] g = .ret (.d (.int (mixed a b))) g :=
  (p_law_mixed_2 k (.int a) (.int b) g).trans (mixed_ok _ _ g a0 a1 b0 b1)
theorem ev_take (k : Nat) {g : Hand} {n : Int} (hg : HandInv g) (h0 : 0 < n) (dn : divOk n = true) : ∃ r g', phi defs 10 (k + 2) 9 [.hand, .int n] g = .ret (.d (.int r)) g' ∧ HandInv g' ∧ 0 ≤ r ∧ r < n := by
  obtain ⟨r, g', e, h⟩ := take_okd (phi defs 10 (k + 1)) 10 8 (fun g a b a0 a1 b0 b1 => ev_mixed k g a0 a1 b0 b1) hg h0 dn
  exact ⟨r, g', (p_law_take_2 (k + 1) .hand (.int n) g).trans e, h⟩
/-- a number below n, drawn -/
def Tk (Φ : FEnv) : Prop := ∀ {g : Hand} {n : Int}, HandInv g → 0 < n → divOk n = true → ∃ r g', Φ 9 [.hand, .int n] g = .ret (.d (.int r)) g' ∧ HandInv g' ∧ 0 ≤ r ∧ r < n
theorem tk_ok (k : Nat) : Tk (phi defs 10 (k + 2)) := fun hg h0 dn => ev_take k hg h0 dn
theorem map_of {α : Type} {e : α → D} {P : α → Prop} : ∀ {ys : List D}, (∀ y ∈ ys, ∃ a, y = e a ∧ P a) → ∃ as : List α, ys = as.map e ∧ ∀ a ∈ as, P a
  | [], _ => ⟨[], rfl, fun a z => by cases z⟩
  | y :: ys, h => by
    obtain ⟨a, rfl, pa⟩ := h y List.mem_cons_self
    obtain ⟨as, rfl, ps⟩ := map_of (e := e) (P := P) fun y hy => h y (List.mem_cons_of_mem _ hy)
    exact ⟨a :: as, rfl, fun b hb => by
      rcases List.mem_cons.mp hb with rfl | hb
      · exact pa
      · exact ps b hb⟩
def Sm (i : Int) : Prop := i.natAbs < 2 ^ 200
theorem sm_good {i : Int} (h : Sm i) : Fine 2000 2 (.int i) := ⟨by
  unfold D.good
  have := log2_le (k := 200) h (by decide)
  exact decide_eq_true (by omega), by show 1921 ≤ 2000; omega, Nat.zero_le _⟩
def ridL : List D := [.non, .str "ab", .bl true, .edic [(0, 1)], .str "1", .bl false]
theorem rid_fine : ∀ x ∈ ridL, Fine 2000 2 x := by
  unfold ridL
  refine List.forall_mem_cons.mpr ⟨⟨by decide +kernel, by decide +kernel, by decide +kernel⟩, ?_⟩
  refine List.forall_mem_cons.mpr ⟨⟨by decide +kernel, by decide +kernel, by decide +kernel⟩, ?_⟩
  refine List.forall_mem_cons.mpr ⟨⟨by decide +kernel, by decide +kernel, by decide +kernel⟩, ?_⟩
  refine List.forall_mem_cons.mpr ⟨⟨by decide +kernel, by decide +kernel, by decide +kernel⟩, ?_⟩
  refine List.forall_mem_cons.mpr ⟨⟨by decide +kernel, by decide +kernel, by decide +kernel⟩, ?_⟩
  refine List.forall_mem_cons.mpr ⟨⟨by decide +kernel, by decide +kernel, by decide +kernel⟩, fun x z => by cases z⟩
theorem at_list {xs : List D} {r : Int} (h0 : 0 ≤ r) (h1 : r < xs.length) : ∃ x, item (.tup xs) (.int r) = some x ∧ x ∈ xs := by
  have hl : r.toNat < xs.length := by omega
  exact ⟨xs[r.toNat], item_tup h0 (List.getElem?_eq_getElem hl), List.getElem_mem hl⟩
section
variable {Φ : FEnv} {u : Nat} {g : Hand}
theorem r_rid (K : Tk Φ) (hg : HandInv g) : ∃ x g', runF Φ u 1 b_law_rid [.hand] g = .ret (.d x) g' ∧ HandInv g' ∧ Fine 2000 2 x := by
  obtain ⟨r, g', e, hg', r0, r1⟩ := K hg (n := 6) (by decide) (by decide +kernel)
  obtain ⟨x, hx, hm⟩ := at_list (xs := ridL) r0 (by show r < 6; exact r1)
  have sz : sizeLine = 16777216 := rfl
  unfold ridL at hx
  exact ⟨x, g', runF_rt ⟨[.d .hand], by simp [b_law_rid, e, hx, sz]⟩, hg', rid_fine x hm⟩
theorem r_number (K : Tk Φ) (hg : HandInv g) : ∃ i g', runF Φ u 1 b_law_number [.hand] g = .ret (.d (.int i)) g' ∧ HandInv g' ∧ Sm i := by
  obtain ⟨r, g1, e1, hg1, _, _⟩ := K hg (n := 8) (by decide) (by decide +kernel)
  have p1 : powOk 10 6 = true := by decide +kernel
  have p2 : powOk 10 34 = true := by decide +kernel
  by_cases h7 : r = 7
  · subst h7
    obtain ⟨t, g2, e2, hg2, t0, t1⟩ := K hg1 (n := 1000000) (by decide) (by decide +kernel)
    have m : mulOk (t - 500000) 10000000000000000000000000000000007 = true := mulOk_of (by omega) (by decide +kernel)
    refine ⟨(t - 500000) * 10000000000000000000000000000000007, g2, runF_rt ⟨[.d .hand], by simp [b_law_number, e1, pow_int, p1, p2, e2, mul_int, m]⟩, hg2, ?_⟩
    unfold Sm
    omega
  · obtain ⟨t, g2, e2, hg2, t0, t1⟩ := K hg1 (n := 41) (by decide) (by decide +kernel)
    refine ⟨t - 20, g2, runF_rt ⟨[.d .hand], by simp [b_law_number, e1, h7, e2]⟩, hg2, ?_⟩
    unfold Sm
    omega
/-- the drawn tables -/
structure Tab (rs : List (List Int)) : Prop where
  l1 : 1 ≤ rs.length
  l8 : rs.length ≤ 8
  w1 : ∀ r ∈ rs, 1 ≤ r.length
  w8 : ∀ r ∈ rs, r.length ≤ 8
  sm : ∀ r ∈ rs, ∀ i ∈ r, Sm i
  wd : ∀ r ∈ rs, r.length = (rs.headD []).length
def Nb (Φ : FEnv) : Prop := ∀ {g : Hand}, HandInv g → ∃ i g', Φ 16 [.hand] g = .ret (.d (.int i)) g' ∧ HandInv g' ∧ Sm i
theorem in_row (B : Nb Φ) (hg : HandInv g) {h w : Int} (w0 : 0 ≤ w) (w8 : w ≤ 8) {c3 : Cell} : ∃ (ns : List Int) (g' : Hand), evE Φ (.comp [4] (.nm 4) .rng [(.var 2)] none (.call 16 [(.var 0)])) ⟨[.d .hand, .d (.int h), .d (.int w), c3, .no], g⟩ = .ok (.f (ns.map .int)) ⟨[.d .hand, .d (.int h), .d (.int w), c3, .no], g'⟩ ∧ HandInv g' ∧ ns.length = w.toNat ∧ ∀ i ∈ ns, Sm i := by
  have ro : rngOk 0 w = true := rngOk_0 (by omega) (by omega)
  have sz : sizeLine = 16777216 := rfl
  have hl : (rngL 0 w).length = w.toNat := by unfold rngL; simp
  obtain ⟨ys, s', e, ⟨g', hg', rfl⟩, l, p⟩ := compR_inv (Φ := Φ) (vs := [4]) (t := .nm 4) (elt := .call 16 [(.var 0)]) (fun s => ∃ g, HandInv g ∧ s = ⟨[.d .hand, .d (.int h), .d (.int w), c3, .no], g⟩) (fun y => ∃ i : Int, y = .int i ∧ Sm i) id (xs := rngL 0 w) (s := ⟨[.d .hand, .d (.int h), .d (.int w), c3, .no], g⟩) ⟨g, hg, rfl⟩ (fun x _ s ⟨g, hg, hs⟩ => by
    subst hs
    obtain ⟨i, g', e, hg', si⟩ := B hg
    exact ⟨_, rfl, .d (.int i), ⟨[.d .hand, .d (.int h), .d (.int w), c3, .d x], g'⟩, by simp [e], ⟨g', hg', by simp⟩, i, rfl, si⟩) (by omega)
  rw [List.map_id] at e
  obtain ⟨ns, rfl, hp⟩ := map_of p
  rw [List.length_map] at l
  refine ⟨ns, g', ?_, hg', by omega, hp⟩
  generalize ns.map D.int = q at *
  simp [srcL_r ro, e]
theorem r_drawn (K : Tk Φ) (B : Nb Φ) (hg : HandInv g) : ∃ rs g', runF Φ u 5 b_law_rows_drawn [.hand] g = .ret (.f (rs.map L)) g' ∧ HandInv g' ∧ Tab rs := by
  have sz : sizeLine = 16777216 := rfl
  obtain ⟨r1, g1, e1, hg1, a0, a1⟩ := K hg (n := 8) (by decide) (by decide +kernel)
  have s1 : evS Φ u (.set (.nm 1) (.bin .Add (.k (.int 1)) (.call 9 [(.var 0), (.k (.int 8))]))) ⟨[.d .hand, .no, .no, .no, .no], g⟩ = .ok .nx ⟨[.d .hand, .d (.int (1 + r1)), .no, .no, .no], g1⟩ := by simp [e1]
  obtain ⟨r2, g2, e2, hg2, b0, b1⟩ := K hg1 (n := 3) (by decide) (by decide +kernel)
  obtain ⟨w, g3, s2, hg3, w0, w1⟩ : ∃ w g3, evS Φ u (.set (.nm 2) (.ife (.cmp .Eq (.call 9 [(.var 0), (.k (.int 3))]) (.k (.int 0))) (.var 1) (.bin .Add (.k (.int 1)) (.call 9 [(.var 0), (.k (.int 8))])))) ⟨[.d .hand, .d (.int (1 + r1)), .no, .no, .no], g1⟩ = .ok .nx ⟨[.d .hand, .d (.int (1 + r1)), .d (.int w), .no, .no], g3⟩ ∧ HandInv g3 ∧ 1 ≤ w ∧ w ≤ 8 := by
    by_cases z : r2 = 0
    · exact ⟨1 + r1, g2, by simp [e2, z], hg2, by omega, by omega⟩
    · obtain ⟨r3, g3, e3, hg3, c0, c1⟩ := K hg2 (n := 8) (by decide) (by decide +kernel)
      exact ⟨1 + r3, g3, by simp [e2, z, e3], hg3, by omega, by omega⟩
  obtain ⟨r4, g4, e4, hg4, d0, d1⟩ := K hg3 (n := 2) (by decide) (by decide +kernel)
  obtain ⟨h, w', g5, s3, hg5, h0, h1, v0, v1⟩ : ∃ h w' g5, evS Φ u (.ifS (.call 9 [(.var 0), (.k (.int 2))]) [.set (.nm 1) (.bin .Add (.k (.int 1)) (.call 9 [(.var 0), (.k (.int 4))])), .set (.nm 2) (.blt .min [(.k (.int 8)), (.bin .Add (.var 1) (.call 9 [(.var 0), (.k (.int 4))]))])] []) ⟨[.d .hand, .d (.int (1 + r1)), .d (.int w), .no, .no], g3⟩ = .ok .nx ⟨[.d .hand, .d (.int h), .d (.int w'), .no, .no], g5⟩ ∧ HandInv g5 ∧ 1 ≤ h ∧ h ≤ 8 ∧ 1 ≤ w' ∧ w' ≤ 8 := by
    by_cases z : r4 = 0
    · exact ⟨1 + r1, w, g4, by simp [e4, z], hg4, by omega, by omega, by omega, by omega⟩
    · obtain ⟨r5, g5, e5, hg5, c0, c1⟩ := K hg4 (n := 4) (by decide) (by decide +kernel)
      obtain ⟨r6, g6, e6, hg6, f0, f1⟩ := K hg5 (n := 4) (by decide) (by decide +kernel)
      refine ⟨1 + r5, if 1 + r5 + r6 < 8 then 1 + r5 + r6 else 8, g6, by simp [e4, z, e5, e6], hg6, by omega, by omega, ?_, ?_⟩ <;> split <;> omega
  have ro : rngOk 0 h = true := rngOk_0 (by omega) (by omega)
  have hl : (rngL 0 h).length = h.toNat := by unfold rngL; simp
  obtain ⟨ys, s', e, ⟨g', hg', rfl⟩, l, p⟩ := compR_inv (Φ := Φ) (vs := [3]) (t := .nm 3) (elt := .comp [4] (.nm 4) .rng [(.var 2)] none (.call 16 [(.var 0)])) (fun s => ∃ g, HandInv g ∧ s = ⟨[.d .hand, .d (.int h), .d (.int w'), .no, .no], g⟩) (fun y => ∃ r : List Int, y = L r ∧ (r.length = w'.toNat ∧ ∀ i ∈ r, Sm i)) id (xs := rngL 0 h) (s := ⟨[.d .hand, .d (.int h), .d (.int w'), .no, .no], g5⟩) ⟨g5, hg5, rfl⟩ (fun x _ s ⟨g, hg, hs⟩ => by
    subst hs
    obtain ⟨ns, g', e, hg', ln, sn⟩ := in_row B hg (h := h) (w := w') (by omega) v1 (c3 := .d x)
    exact ⟨_, rfl, .f (ns.map .int), ⟨[.d .hand, .d (.int h), .d (.int w'), .d x, .no], g'⟩, e, ⟨g', hg', by simp⟩, ns, rfl, ln, sn⟩) (by omega)
  rw [List.map_id] at e
  obtain ⟨rs, rfl, hp⟩ := map_of p
  rw [List.length_map] at l
  refine ⟨rs, g', ?_, hg', ⟨by omega, by omega, fun r hr => by have := (hp r hr).1; omega, fun r hr => by have := (hp r hr).1; omega, fun r hr => (hp r hr).2, fun r hr => by
    cases rs with
    | nil => cases hr
    | cons q qs => exact (hp r hr).1.trans (hp q List.mem_cons_self).1.symm⟩⟩
  generalize rs.map L = q at *
  refine runF_rt ⟨[.d .hand, .d (.int h), .d (.int w'), .no, .no], ?_⟩
  rw [b_law_rows_drawn]
  refine (evB_nxt s1).trans ((evB_nxt s2).trans ((evB_nxt s3).trans ?_))
  generalize E.comp [4] (.nm 4) .rng [(.var 2)] none (.call 16 [(.var 0)]) = el at *
  simp [srcL_r ro, e]
theorem r_row (K : Tk Φ) (hg : HandInv g) {x : D} (hs : isSeq x = true) : ∃ r g', runF Φ u 2 b_law_row [.hand, x] g = .ret r g' ∧ HandInv g' ∧ isSeq r.D = true ∧ items r.D = items x := by
  obtain ⟨t, g', e, hg', t0, t1⟩ := K hg (n := 2) (by decide) (by decide +kernel)
  have tu := tup_items hs
  have li : blt .list [x] = some (.f (items x)) := match x, hs with
    | .lst _, _ => rfl
    | .tup _, _ => rfl
  by_cases z : t = 0
  · exact ⟨.d (.tup (items x)), g', runF_rt ⟨[.d .hand, .d x], by simp [b_law_row, e, z, tu]⟩, hg', rfl, rfl⟩
  · exact ⟨.f (items x), g', runF_rt ⟨[.d .hand, .d x], by simp [b_law_row, e, z, li]⟩, hg', rfl, rfl⟩
end
theorem ev_rid (k : Nat) {g : Hand} (hg : HandInv g) : ∃ x g', phi defs 10 (k + 3) 15 [.hand] g = .ret (.d x) g' ∧ HandInv g' ∧ Fine 2000 2 x := by
  obtain ⟨x, g', e, h⟩ := r_rid (u := 10) (tk_ok k) hg
  exact ⟨x, g', (p_law_rid_1 (k + 2) .hand g).trans e, h⟩
theorem nb_ok (k : Nat) : Nb (phi defs 10 (k + 3)) := fun {g} hg => by
  obtain ⟨x, g', e, h⟩ := r_number (u := 10) (tk_ok k) hg
  exact ⟨x, g', (p_law_number_1 (k + 2) .hand g).trans e, h⟩
theorem ev_drawn (k : Nat) {g : Hand} (hg : HandInv g) : ∃ rs g', phi defs 10 (k + 4) 17 [.hand] g = .ret (.f (rs.map L)) g' ∧ HandInv g' ∧ Tab rs := by
  obtain ⟨x, g', e, h⟩ := r_drawn (u := 10) (tk_ok (k + 1)) (nb_ok k) hg
  exact ⟨x, g', (p_law_rows_drawn_1 (k + 3) .hand g).trans e, h⟩
theorem ev_row (k : Nat) {g : Hand} (hg : HandInv g) {x : D} (hs : isSeq x = true) : ∃ r g', phi defs 10 (k + 3) 10 [.hand, x] g = .ret r g' ∧ HandInv g' ∧ isSeq r.D = true ∧ items r.D = items x := by
  obtain ⟨r, g', e, h⟩ := r_row (u := 10) (tk_ok k) hg hs
  exact ⟨r, g', (p_law_row_2 (k + 2) .hand x g).trans e, h⟩
/-! a row of ints, a row of rows -/
theorem fine_row {x : D} (hs : isSeq x = true) {ns : List Int} (e : items x = ns.map .int) (hl : ns.length ≤ 40) (sm : ∀ i ∈ ns, Sm i) : Fine 100000 3 x :=
  (fine_seq hs (c := 2000) (d := 2) (n := 40) (fun y hy => by
    rw [e] at hy
    obtain ⟨i, hi, rfl⟩ := List.mem_map.mp hy
    exact sm_good (sm i hi)) (by rw [e, List.length_map]; exact hl)).mono (by omega) (by omega)
theorem fine_tab {x : D} (hs : isSeq x = true) (h : ∀ r ∈ items x, Fine 100000 3 r) (hl : (items x).length ≤ 40) : Fine 5000000 4 x :=
  (fine_seq hs h hl).mono (by omega) (by omega)
theorem r_rows2 {Φ : FEnv} {u : Nat} {g : Hand} (Rw : ∀ {g : Hand} {x : D}, HandInv g → isSeq x = true → ∃ r g', Φ 10 [.hand, x] g = .ret r g' ∧ HandInv g' ∧ isSeq r.D = true ∧ items r.D = items x) (hg : HandInv g) {rs : List (List Int)} (T : Tab rs) : ∃ r g', runF Φ u 3 b_law_rows [.hand, .lst (rs.map L)] g = .ret r g' ∧ HandInv g' ∧ Fine 5000000 4 r.D := by
  have sz : sizeLine = 16777216 := rfl
  have l8 := T.l8
  obtain ⟨ys, s', e, ⟨g1, hg1, rfl⟩, l, p⟩ := compR_inv (Φ := Φ) (vs := [2]) (t := .nm 2) (elt := .call 10 [(.var 0), (.var 2)]) (fun s => ∃ g, HandInv g ∧ s = ⟨[.d .hand, .d (.lst (rs.map L)), .no], g⟩) (Fine 100000 3) L (xs := rs) (s := ⟨[.d .hand, .d (.lst (rs.map L)), .no], g⟩) ⟨g, hg, rfl⟩ (fun x hx s ⟨g, hg, hs⟩ => by
    subst hs
    obtain ⟨r, g', e, hg', q1, q2⟩ := Rw hg (x := L x) rfl
    refine ⟨_, rfl, r, ⟨[.d .hand, .d (.lst (rs.map L)), .d (L x)], g'⟩, ?_, ⟨g', hg', by simp⟩, fine_row q1 q2 (by have := T.w8 x hx; omega) (T.sm x hx)⟩
    generalize L x = lx at *
    simp [e]) (by omega)
  obtain ⟨r, g', e2, hg', q1, q2⟩ := Rw hg1 (x := .lst ys) rfl
  refine ⟨r, g', ?_, hg', fine_tab q1 (by rw [q2]; exact p) (by rw [q2]; show ys.length ≤ 40; omega)⟩
  generalize rs.map L = q at *
  exact runF_rt ⟨[.d .hand, .d (.lst q), .no], by simp [b_law_rows, e, e2]⟩
theorem ev_rows2 (k : Nat) {g : Hand} (hg : HandInv g) {rs : List (List Int)} (T : Tab rs) : ∃ r g', phi defs 10 (k + 4) 11 [.hand, .lst (rs.map L)] g = .ret r g' ∧ HandInv g' ∧ Fine 5000000 4 r.D := by
  obtain ⟨r, g', e, h⟩ := r_rows2 (u := 10) (Φ := phi defs 10 (k + 3)) (fun hg hs => ev_row k hg hs) hg T
  exact ⟨r, g', (p_law_rows_2 (k + 3) .hand _ g).trans e, h⟩
end K00

set_option Elab.async false
set_option linter.all false
set_option maxRecDepth 100000
set_option maxHeartbeats 4000000
/-! K00p7: tables spoiled. -/
namespace K00
open PySem PD
theorem toInts_L : ∀ xs : List Int, toInts (xs.map D.int) = some xs := toInts_map
theorem toRows_L : ∀ rs : List (List Int), toRows (rs.map L) = some rs
  | [] => rfl
  | r :: rs => by
    rw [List.map_cons]
    show (toInts (r.map D.int)).bind (fun ns => (toRows (rs.map L)).map (ns :: ·)) = _
    rw [toInts_map, toRows_L rs]; rfl
theorem rowsD_L (rs : List (List Int)) : rowsD rs = rs.map L := rfl
def wayL : List D := [.bl true, .non, .str "1", .lst [.int 1], .bl false]
theorem way_fine : ∀ x ∈ wayL, Fine 2000 2 x := by
  unfold wayL
  refine List.forall_mem_cons.mpr ⟨⟨by decide +kernel, by decide +kernel, by decide +kernel⟩, ?_⟩
  refine List.forall_mem_cons.mpr ⟨⟨by decide +kernel, by decide +kernel, by decide +kernel⟩, ?_⟩
  refine List.forall_mem_cons.mpr ⟨⟨by decide +kernel, by decide +kernel, by decide +kernel⟩, ?_⟩
  refine List.forall_mem_cons.mpr ⟨⟨by decide +kernel, by decide +kernel, by decide +kernel⟩, ?_⟩
  refine List.forall_mem_cons.mpr ⟨⟨by decide +kernel, by decide +kernel, by decide +kernel⟩, fun x z => by cases z⟩
theorem sm_small {i : Int} (h : -1000 < i) (h2 : i < 1000) : Sm i := by
  unfold Sm
  omega
theorem fine_L {r : List Int} (hl : r.length ≤ 40) (sm : ∀ i ∈ r, Sm i) : Fine 100000 3 (L r) := fine_row rfl rfl hl sm
/-- a row with one thing set -/
theorem fine_set {r : List Int} {j : Nat} {x : D} (hl : r.length ≤ 40) (sm : ∀ i ∈ r, Sm i) (hx : Fine 2000 2 x) : Fine 100000 3 (.lst ((r.map D.int).set j x)) :=
  (fine_lst (c := 2000) (d := 2) (n := 40) (fun y hy => by
    rcases List.mem_or_eq_of_mem_set hy with hy | rfl
    · obtain ⟨i, hi, rfl⟩ := List.mem_map.mp hy
      exact sm_good (sm i hi)
    · exact hx) (by rw [List.length_set, List.length_map]; exact hl)).mono (by omega) (by omega)
theorem fines_set {ds : List D} {j : Nat} {x : D} (h : ∀ d ∈ ds, Fine 100000 3 d) (hx : Fine 100000 3 x) : ∀ d ∈ ds.set j x, Fine 100000 3 d := fun d hd => by
  rcases List.mem_or_eq_of_mem_set hd with hd | rfl
  · exact h d hd
  · exact hx
theorem setAt_at {ds : List D} {i : Int} {x : D} (h0 : 0 ≤ i) (h1 : i < ds.length) : setAt ds (.int i) x = some (ds.set i.toNat x) := by
  show (ixN ds.length i).map (fun j => ds.set j x) = _
  rw [ixN_int h0 h1]; rfl
theorem tab_rows {rs : List (List Int)} (T : Tab rs) : ∀ d ∈ rowsD rs, Fine 100000 3 d := fun d hd => by
  obtain ⟨r, hr, rfl⟩ := List.mem_map.mp hd
  exact fine_L (by have := T.w8 r hr; omega) (T.sm r hr)
section
variable {Φ : FEnv} {u : Nat} {g : Hand}
/-- what is left behind the draws -/
def tailS : List S := b_law_spoiled_rows.drop 4
def Rd (Φ : FEnv) : Prop := ∀ {g : Hand}, HandInv g → ∃ x g', Φ 15 [.hand] g = .ret (.d x) g' ∧ HandInv g' ∧ Fine 2000 2 x
abbrev St (rs : List (List Int)) (i j w : Int) (g : Hand) : Stt := ⟨[.d .hand, .d (.lst (rs.map L)), .own2 rs, .d (.int i), .d (.int j), .d (.int w), .no], g⟩
theorem way0 (Rr : Rd Φ) (hg : HandInv g) {rs : List (List Int)} {i j : Int} : ∃ r s' , evB Φ u tailS (St rs i j 0 g) = .ok (.rt r) s' ∧ HandInv s'.g ∧ Fine 5000000 4 r.D := by
  obtain ⟨x, g', e, hg', f⟩ := Rr hg
  exact ⟨.d x, ⟨_, g'⟩, by simp [tailS, b_law_spoiled_rows, e]; rfl, hg', f.mono (by omega) (by omega)⟩
theorem mul_lst {a : List D} {k : Int} (h : -(2 ^ 63) ≤ k ∧ k < 2 ^ 63 ∧ a.length * k.toNat ≤ sizeLine) : binop .Mult (.lst a) (.int k) = some (.f (List.replicate k.toNat a).flatten) := if_pos h
theorem nine : binop .Mult (.lst [.lst [.int 1, .int 2]]) (.int 9) = some (.f (List.replicate 9 (.lst [.int 1, .int 2]))) := by
  have sz : sizeLine = 16777216 := rfl
  rw [mul_lst (by rw [sz]; exact ⟨by decide, by decide, by decide⟩)]; rfl
theorem way1 (K : Tk Φ) (hg : HandInv g) {rs : List (List Int)} {i j : Int} : ∃ r s' , evB Φ u tailS (St rs i j 1 g) = .ok (.rt r) s' ∧ HandInv s'.g ∧ Fine 5000000 4 r.D := by
  obtain ⟨t, g', e, hg', t0, t1⟩ := K hg (n := 2) (by decide) (by decide +kernel)
  have sz : sizeLine = 16777216 := rfl
  by_cases z : t = 0
  · refine ⟨.f (List.replicate 9 (.lst [.int 1, .int 2])), ⟨_, g'⟩, by simp [tailS, b_law_spoiled_rows, e, z, sz, nine]; rfl, hg', fine_tab rfl (fun r hr => ?_) (by show (List.replicate 9 (D.lst [.int 1, .int 2])).length ≤ 40; rw [List.length_replicate]; omega)⟩
    have hr := List.eq_of_mem_replicate hr
    subst hr
    exact fine_L (r := [1, 2]) (by decide) (fun i hi => by
      rcases List.mem_cons.mp hi with rfl | hi
      · exact sm_small (by decide) (by decide)
      · rw [List.mem_singleton.mp hi]; exact sm_small (by decide) (by decide))
  · exact ⟨.f [], ⟨_, g'⟩, by simp [tailS, b_law_spoiled_rows, e, z, sz]; rfl, hg', fine_tab rfl (fun r hr => by cases hr) (by show 0 ≤ 40; omega)⟩
theorem way2 (Rr : Rd Φ) (hg : HandInv g) {rs : List (List Int)} (T : Tab rs) {i j : Int} (i0 : 0 ≤ i) (i1 : i < rs.length) : ∃ r s' , evB Φ u tailS (St rs i j 2 g) = .ok (.rt r) s' ∧ HandInv s'.g ∧ Fine 5000000 4 r.D := by
  obtain ⟨x, g', e, hg', f⟩ := Rr hg
  have sa : ∀ x, setAt (rowsD rs) (.int i) x = some ((rowsD rs).set i.toNat x) := fun x => setAt_at i0 (by rw [rowsD_L, List.length_map]; exact i1)
  have ft := fines_set (j := i.toNat) (tab_rows T) (f.mono (c' := 100000) (d' := 3) (by omega) (by omega))
  have hl : ((rowsD rs).set i.toNat x).length ≤ 40 := by
    have := T.l8
    rw [List.length_set, rowsD_L, List.length_map]; omega
  obtain ⟨ρ', he⟩ : ∃ ρ', evB Φ u tailS (St rs i j 2 g) = .ok (.rt (.f ((rowsD rs).set i.toNat x))) ⟨ρ', g'⟩ := by
    exact ⟨_, by simp [tailS, b_law_spoiled_rows, e, dem, sa]; rfl⟩
  exact ⟨_, _, he, hg', fine_tab rfl ft hl⟩
theorem get_rows {rs : List (List Int)} {i : Int} (i0 : 0 ≤ i) (i1 : i < rs.length) : ∃ r, rs[i.toNat]? = some r ∧ r ∈ rs ∧ item (.lst (rowsD rs)) (.int i) = some (L r) := by
  have hl : i.toNat < rs.length := by omega
  exact ⟨rs[i.toNat], List.getElem?_eq_getElem hl, List.getElem_mem hl, item_lst i0 (by rw [rowsD_L, List.getElem?_map, List.getElem?_eq_getElem hl]; rfl)⟩
theorem set_fine {rs : List (List Int)} (T : Tab rs) {i : Nat} {x : D} (hx : Fine 100000 3 x) : Fine 5000000 4 (.lst ((rowsD rs).set i x)) := fine_tab rfl (fines_set (tab_rows T) hx) (by
  have := T.l8
  show ((rowsD rs).set i x).length ≤ 40
  rw [List.length_set, rowsD_L, List.length_map]; omega)
theorem way3 (hg : HandInv g) {rs : List (List Int)} (T : Tab rs) {i j : Int} (i0 : 0 ≤ i) (i1 : i < rs.length) : ∃ r s' , evB Φ u tailS (St rs i j 3 g) = .ok (.rt r) s' ∧ HandInv s'.g ∧ Fine 5000000 4 r.D := by
  have sa : ∀ x, setAt (rowsD rs) (.int i) x = some ((rowsD rs).set i.toNat x) := fun x => setAt_at i0 (by rw [rowsD_L, List.length_map]; exact i1)
  obtain ⟨r, _, hr, hi⟩ := get_rows i0 i1
  have sz : sizeLine = 16777216 := rfl
  have r8 := T.w8 r hr
  have ad : binop .Add (L r) (.lst [.int 1]) = some (.f (r.map .int ++ [.int 1])) := add_lst (by rw [List.length_map]; show r.length + 1 ≤ _; omega)
  have fr : Fine 100000 3 (.lst (r.map .int ++ [.int 1])) := fine_row (ns := r ++ [1]) rfl (by simp [items]) (by simp; omega) (fun i hi => by
    rcases List.mem_append.mp hi with hi | hi
    · exact T.sm r hr i hi
    · rw [List.mem_singleton.mp hi]; exact sm_small (by decide) (by decide))
  have ft := set_fine T (i := i.toNat) fr
  generalize r.map D.int ++ [.int 1] = z at *
  generalize L r = lr at *
  obtain ⟨ρ', he⟩ : ∃ ρ', evB Φ u tailS (St rs i j 3 g) = .ok (.rt (.f ((rowsD rs).set i.toNat (.lst z)))) ⟨ρ', g⟩ := by
    exact ⟨_, by simp [tailS, b_law_spoiled_rows, dem, sa, hi, ad, sz]; rfl⟩
  exact ⟨_, _, he, hg, ft⟩
theorem mem_cut {α : Type} {xs : List α} {lo hi : Option Int} {x : α} (h : x ∈ cut xs lo hi) : x ∈ xs := List.mem_of_mem_drop (List.mem_of_mem_take h)
theorem len_cut {α : Type} (xs : List α) (lo hi : Option Int) : (cut xs lo hi).length ≤ xs.length := by
  unfold cut
  rw [List.length_take, List.length_drop]; omega
theorem way4 (hg : HandInv g) {rs : List (List Int)} (T : Tab rs) {i j : Int} (i0 : 0 ≤ i) (i1 : i < rs.length) : ∃ r s' , evB Φ u tailS (St rs i j 4 g) = .ok (.rt r) s' ∧ HandInv s'.g ∧ Fine 5000000 4 r.D := by
  have sa : ∀ x, setAt (rowsD rs) (.int i) x = some ((rowsD rs).set i.toNat x) := fun x => setAt_at i0 (by rw [rowsD_L, List.length_map]; exact i1)
  obtain ⟨r, _, hr, hi⟩ := get_rows i0 i1
  have r8 := T.w8 r hr
  have sl : slice (L r) none (some (-1)) = some (.f (cut (r.map .int) none (some (-1)))) := rfl
  have fr : Fine 100000 3 (.lst (cut (r.map .int) none (some (-1)))) := (fine_lst (c := 2000) (d := 2) (n := 40) (fun y hy => by
    obtain ⟨i, hi, rfl⟩ := List.mem_map.mp (mem_cut hy)
    exact sm_good (T.sm r hr i hi)) (by have := len_cut (r.map D.int) none (some (-1)); rw [List.length_map] at this; omega)).mono (by omega) (by omega)
  have ft := set_fine T (i := i.toNat) fr
  generalize cut (r.map D.int) none (some (-1)) = z at *
  generalize L r = lr at *
  obtain ⟨ρ', he⟩ : ∃ ρ', evB Φ u tailS (St rs i j 4 g) = .ok (.rt (.f ((rowsD rs).set i.toNat (.lst z)))) ⟨ρ', g⟩ := by
    exact ⟨_, by simp [tailS, b_law_spoiled_rows, dem, sa, hi, sl]; rfl⟩
  exact ⟨_, _, he, hg, ft⟩
def padD (r : List Int) : D := .lst (r.map .int ++ (List.replicate (9 - (r.length : Int)).toNat [D.int 0]).flatten)
theorem way5 (hg : HandInv g) {rs : List (List Int)} (T : Tab rs) {i j : Int} : ∃ r s' , evB Φ u tailS (St rs i j 5 g) = .ok (.rt r) s' ∧ HandInv s'.g ∧ Fine 5000000 4 r.D := by
  have sz : sizeLine = 16777216 := rfl
  have l8 := T.l8
  have cm : compR Φ [6] (.nm 6) none (.bin .Add (.var 6) (.bin .Mult (.lst [(.k (.int 0))]) (.bin .Sub (.k (.int 9)) (.blt .len [(.var 6)])))) (rs.map L) ⟨[.d .hand, .d (.lst (rs.map L)), .own (rowsD rs), .d (.int i), .d (.int j), .d (.int 5), .no], g⟩ = .ok (rs.map padD) ⟨[.d .hand, .d (.lst (rs.map L)), .own (rowsD rs), .d (.int i), .d (.int j), .d (.int 5), .no], g⟩ := compR_map L padD (fun r hr => by
    have r8 := T.w8 r hr
    have m : binop .Mult (.lst [.int 0]) (.int (9 - (r.length : Int))) = some (.f (List.replicate (9 - (r.length : Int)).toNat [D.int 0]).flatten) := mul_lst ⟨by omega, by omega, by show 1 * _ ≤ _; omega⟩
    have ln : blt .len [L r] = some (.d (.int (r.length : Int))) := by rw [len_lst, List.length_map]
    have fl : ∀ n : Nat, (List.replicate n [D.int 0]).flatten.length = n := fun n => by simp
    have ad : binop .Add (L r) (.lst (List.replicate (9 - (r.length : Int)).toNat [D.int 0]).flatten) = some (.f (r.map .int ++ (List.replicate (9 - (r.length : Int)).toNat [D.int 0]).flatten)) := add_lst (by rw [fl, List.length_map]; omega)
    refine ⟨_, rfl, .f (r.map .int ++ (List.replicate (9 - (r.length : Int)).toNat [D.int 0]).flatten), ⟨[.d .hand, .d (.lst (rs.map L)), .own (rowsD rs), .d (.int i), .d (.int j), .d (.int 5), .d (L r)], g⟩, ?_, rfl, by simp⟩
    generalize (List.replicate (9 - (r.length : Int)).toNat [D.int 0]).flatten = z at *
    generalize r.map D.int ++ z = y at *
    generalize L r = lr at *
    simp [m, ln, ad, sz]) (by omega)
  have ft : Fine 5000000 4 (.lst (rs.map padD)) := fine_tab rfl (fun d hd => by
    obtain ⟨r, hr, rfl⟩ := List.mem_map.mp hd
    have r8 := T.w8 r hr
    exact (fine_lst (c := 2000) (d := 2) (n := 40) (fun y hy => by
      rcases List.mem_append.mp hy with hy | hy
      · obtain ⟨i, hi, rfl⟩ := List.mem_map.mp hy
        exact sm_good (T.sm r hr i hi)
      · obtain ⟨l, hl, hy⟩ := List.mem_flatten.mp hy
        have := List.eq_of_mem_replicate hl
        subst this
        rw [List.mem_singleton.mp hy]
        exact sm_good (sm_small (by decide) (by decide))) (by simp; omega)).mono (by omega) (by omega)) (by show (rs.map padD).length ≤ 40; rw [List.length_map]; omega)
  rw [rowsD_L] at cm
  generalize rs.map padD = z at *
  obtain ⟨ρ', he⟩ : ∃ ρ', evB Φ u tailS (St rs i j 5 g) = .ok (.rt (.f z)) ⟨ρ', g⟩ := by
    exact ⟨_, by simp [tailS, b_law_spoiled_rows, dem, cm, rowsD_L]; rfl⟩
  exact ⟨_, _, he, hg, ft⟩
theorem way6 (K : Tk Φ) (hg : HandInv g) {rs : List (List Int)} (T : Tab rs) {i j w : Int} (i0 : 0 ≤ i) (i1 : i < rs.length) (j0 : 0 ≤ j) (j1 : j < (rs.headD []).length) (w6 : 6 ≤ w) (w9 : w ≤ 9) : ∃ r s' , evB Φ u tailS (St rs i j w g) = .ok (.rt r) s' ∧ HandInv s'.g ∧ Fine 5000000 4 r.D := by
  have sz : sizeLine = 16777216 := rfl
  obtain ⟨t, g1, e1, hg1, t0, t1⟩ := K hg (n := 5) (by decide) (by decide +kernel)
  obtain ⟨x, hx, hm⟩ := at_list (xs := wayL) t0 (by show t < 5; exact t1)
  have fx := way_fine x hm
  unfold wayL at hx
  obtain ⟨r, gr, hr, _⟩ := get_rows i0 i1
  have wr := T.wd r hr
  have r8 := T.w8 r hr
  have x1 : ixN rs.length i = some i.toNat := ixN_int i0 i1
  have x2 : ixN r.length j = some j.toNat := ixN_int j0 (by omega)
  have fz := set_fine T (i := i.toNat) (fine_set (j := j.toNat) (x := x) (by omega) (T.sm r hr) fx)
  have fs := fines_set (j := i.toNat) (tab_rows T) (fine_set (r := r) (j := j.toNat) (x := x) (by omega) (T.sm r hr) fx)
  have lz : ((rowsD rs).set i.toNat (.lst ((r.map .int).set j.toNat x))).length = rs.length := by rw [List.length_set, rowsD_L, List.length_map]
  have l8 := T.l8
  have l1 := T.l1
  have s6 : evS Φ u (.ifS (.cmp .Gt (.var 5) (.k (.int 5))) [.six2 2 3 4 (.ix (.tup [(.k (.bl true)), (.k (.non)), (.k (.str "1")), (.lst [(.k (.int 1))]), (.k (.bl false))]) (.call 9 [(.var 0), (.k (.int 5))]))] []) (St rs i j w g) = .ok .nx ⟨[.d .hand, .d (.lst (rs.map L)), .own ((rowsD rs).set i.toNat (.lst ((r.map .int).set j.toNat x))), .d (.int i), .d (.int j), .d (.int w), .no], g1⟩ := by
    have w5 : (5 : Int) < w := by omega
    simp [w5, e1, hx, sz, x1, gr, x2]
  have e0 : evB Φ u tailS (St rs i j w g) = evB Φ u (.ifS (.cmp .Gt (.var 5) (.k (.int 5))) [.six2 2 3 4 (.ix (.tup [(.k (.bl true)), (.k (.non)), (.k (.str "1")), (.lst [(.k (.int 1))]), (.k (.bl false))]) (.call 9 [(.var 0), (.k (.int 5))]))] [] :: b_law_spoiled_rows.drop 11) (St rs i j w g) := by
    have n0 : ¬ w = 0 := by omega
    have n1 : ¬ w = 1 := by omega
    have n2 : ¬ w = 2 := by omega
    have n3 : ¬ w = 3 := by omega
    have n4 : ¬ w = 4 := by omega
    have n5 : ¬ w = 5 := by omega
    unfold tailS
    refine (evB_nxt (s1 := St rs i j w g) (by simp [n0])).trans ?_
    refine (evB_nxt (s1 := St rs i j w g) (by simp [n1])).trans ?_
    refine (evB_nxt (s1 := St rs i j w g) (by simp [n2])).trans ?_
    refine (evB_nxt (s1 := St rs i j w g) (by simp [n3])).trans ?_
    refine (evB_nxt (s1 := St rs i j w g) (by simp [n4])).trans ?_
    refine (evB_nxt (s1 := St rs i j w g) (by simp [n5])).trans ?_
    rfl
  replace e0 := e0.trans (evB_nxt s6)
  generalize (rowsD rs).set i.toNat (.lst ((r.map D.int).set j.toNat x)) = z at *
  by_cases n9 : w = 9
  · obtain ⟨t2, g2, e2, hg2, t20, t21⟩ := K hg1 (n := (rs.length : Int)) (by omega) (divOk_of (by omega) (by omega))
    have sa : ∀ x, setAt z (.int t2) x = some (z.set t2.toNat x) := fun x => setAt_at t20 (by rw [lz]; exact t21)
    have ft : Fine 5000000 4 (.lst (z.set t2.toNat (.lst [.int 3]))) := fine_tab rfl (fines_set fs (fine_L (r := [3]) (by decide) (fun i hi => by
      rw [List.mem_singleton.mp hi]; exact sm_small (by decide) (by decide)))) (by show (z.set _ _).length ≤ 40; rw [List.length_set, lz]; omega)
    obtain ⟨ρ', he⟩ : ∃ ρ', evB Φ u (b_law_spoiled_rows.drop 11) ⟨[.d .hand, .d (.lst (rs.map L)), .own z, .d (.int i), .d (.int j), .d (.int w), .no], g1⟩ = .ok (.rt (.f (z.set t2.toNat (.lst [.int 3])))) ⟨ρ', g2⟩ := by
      subst n9
      exact ⟨_, by simp [b_law_spoiled_rows, dem, len2, lz, e2, sa, sz]; rfl⟩
    exact ⟨_, _, e0.trans he, hg2, ft⟩
  · obtain ⟨ρ', he⟩ : ∃ ρ', evB Φ u (b_law_spoiled_rows.drop 11) ⟨[.d .hand, .d (.lst (rs.map L)), .own z, .d (.int i), .d (.int j), .d (.int w), .no], g1⟩ = .ok (.rt (.f z)) ⟨ρ', g1⟩ := by
      exact ⟨_, by simp [b_law_spoiled_rows, dem, n9]; rfl⟩
    exact ⟨_, _, e0.trans he, hg1, fz⟩
theorem r_spoiled (K : Tk Φ) (Rr : Rd Φ) (hg : HandInv g) {rs : List (List Int)} (T : Tab rs) : ∃ r g', runF Φ u 7 b_law_spoiled_rows [.hand, .lst (rs.map L)] g = .ret r g' ∧ HandInv g' ∧ Fine 5000000 4 r.D := by
  have sz : sizeLine = 16777216 := rfl
  have l8 := T.l8
  have l1 := T.l1
  have tr := toRows_L rs
  obtain ⟨r0, rest, er⟩ : ∃ r0 rest, rs = r0 :: rest := by
    cases rs with
    | nil => simp at l1
    | cons a b => exact ⟨a, b, rfl⟩
  have w1 := T.w1 r0 (by rw [er]; simp)
  have w8 := T.w8 r0 (by rw [er]; simp)
  have h0 : rs[0]? = some r0 := by rw [er]; rfl
  have hh : rs.headD [] = r0 := by rw [er]; rfl
  obtain ⟨i, g1, e1, hg1, i0, i1⟩ := K hg (n := (rs.length : Int)) (by omega) (divOk_of (by omega) (by omega))
  obtain ⟨j, g2, e2, hg2, j0, j1⟩ := K hg1 (n := (r0.length : Int)) (by omega) (divOk_of (by omega) (by omega))
  obtain ⟨w, g3, e3, hg3, w0, w10⟩ := K hg2 (n := 10) (by decide) (by decide +kernel)
  obtain ⟨r, ⟨ρ', g'⟩, he, hg', f⟩ : ∃ r s' , evB Φ u tailS (St rs i j w g3) = .ok (.rt r) s' ∧ HandInv s'.g ∧ Fine 5000000 4 r.D := by
    by_cases w6 : 6 ≤ w
    · exact way6 K hg3 T i0 i1 j0 (by rw [hh]; exact j1) w6 (by omega)
    · rcases (by omega : w = 0 ∨ w = 1 ∨ w = 2 ∨ w = 3 ∨ w = 4 ∨ w = 5) with h | h | h | h | h | h <;> subst h
      · exact way0 Rr hg3
      · exact way1 K hg3
      · exact way2 Rr hg3 T i0 i1
      · exact way3 hg3 T i0 i1
      · exact way4 hg3 T i0 i1
      · exact way5 hg3 T
  refine ⟨r, g', runF_rt ⟨ρ', ?_⟩, hg', f⟩
  have eb : b_law_spoiled_rows = .new2 2 1 6 :: .set (.nm 3) (.call 9 [(.var 0), (.len2 2 none)]) :: .set (.nm 4) (.call 9 [(.var 0), (.len2 2 (some 0))]) :: .set (.nm 5) (.call 9 [(.var 0), (.k (.int 10))]) :: tailS := rfl
  rw [eb]
  refine (evB_nxt (s1 := ⟨[.d .hand, .d (.lst (rs.map L)), .own2 rs, .no, .no, .no, .no], g⟩) ?_).trans ?_
  · have lz : rs.length ≤ sizeLine := by omega
    simp [tr, isO2, lz]
  refine (evB_nxt (s1 := ⟨[.d .hand, .d (.lst (rs.map L)), .own2 rs, .d (.int i), .no, .no, .no], g1⟩) (by simp [len2, e1])).trans ?_
  refine (evB_nxt (s1 := ⟨[.d .hand, .d (.lst (rs.map L)), .own2 rs, .d (.int i), .d (.int j), .no, .no], g2⟩) (by simp [len2, h0, e2])).trans ?_
  refine (evB_nxt (s1 := ⟨[.d .hand, .d (.lst (rs.map L)), .own2 rs, .d (.int i), .d (.int j), .d (.int w), .no], g3⟩) (by simp [e3])).trans ?_
  exact he
end
theorem rd_ok (k : Nat) : Rd (phi defs 10 (k + 3)) := fun hg => ev_rid k hg
theorem ev_spoiled (k : Nat) {g : Hand} (hg : HandInv g) {rs : List (List Int)} (T : Tab rs) : ∃ r g', phi defs 10 (k + 4) 18 [.hand, .lst (rs.map L)] g = .ret r g' ∧ HandInv g' ∧ Fine 5000000 4 r.D := by
  obtain ⟨r, g', e, h⟩ := r_spoiled (u := 10) (tk_ok (k + 1)) (rd_ok k) hg T
  exact ⟨r, g', (p_law_spoiled_rows_2 (k + 3) .hand _ g).trans e, h⟩
end K00

set_option Elab.async false
set_option linter.all false
set_option maxRecDepth 100000
set_option maxHeartbeats 4000000
/-! K00p8: parts drawn. -/
namespace K00
open PySem PD
def manyL : List D := [.int 0, .int 1, .int 2, .int 3, .int 4, .int 5, .int 3, .int 2, .int 4, .int 1, .int 24, .int 25, .int 6, .int 3, .int 26, .int 2]
theorem many_int : ∀ x ∈ manyL, ∃ m : Int, x = .int m ∧ 0 ≤ m ∧ m ≤ 26 := by
  unfold manyL
  intro x hx
  simp only [List.mem_cons, List.not_mem_nil, or_false] at hx
  rcases hx with h | h | h | h | h | h | h | h | h | h | h | h | h | h | h | h <;> exact ⟨_, h, by decide, by decide⟩
def partL : List D := [.bl true, .non, .str "1", .int (-1), .int 0, .lst [.int 1]]
theorem part_fine : ∀ x ∈ partL, Fine 2000 2 x := by
  unfold partL
  refine List.forall_mem_cons.mpr ⟨⟨by decide +kernel, by decide +kernel, by decide +kernel⟩, ?_⟩
  refine List.forall_mem_cons.mpr ⟨⟨by decide +kernel, by decide +kernel, by decide +kernel⟩, ?_⟩
  refine List.forall_mem_cons.mpr ⟨⟨by decide +kernel, by decide +kernel, by decide +kernel⟩, ?_⟩
  refine List.forall_mem_cons.mpr ⟨⟨by decide +kernel, by decide +kernel, by decide +kernel⟩, ?_⟩
  refine List.forall_mem_cons.mpr ⟨⟨by decide +kernel, by decide +kernel, by decide +kernel⟩, ?_⟩
  refine List.forall_mem_cons.mpr ⟨⟨by decide +kernel, by decide +kernel, by decide +kernel⟩, fun x z => by cases z⟩
section
variable {Φ : FEnv} {u : Nat} {g : Hand}
abbrev Sp (l m t : Int) (c4 c5 c6 : Cell) (g : Hand) : Stt := ⟨[.d .hand, .d (.int l), .d (.int m), .d (.int t), c4, c5, c6], g⟩
def Md (i : Int) : Prop := 0 ≤ i ∧ i ≤ 10 ^ 41
theorem md_sm {i : Int} (h : Md i) : Sm i := by
  unfold Md at h
  unfold Sm
  omega
theorem parts_comp (K : Tk Φ) (hg : HandInv g) {l m t : Int} (l0 : 0 ≤ l) (l1 : l ≤ 1) (m0 : 0 ≤ m) (m1 : m ≤ 26) (t0 : 0 < t) (t1 : t ≤ 10 ^ 40) (dt : divOk t = true) : ∃ (ns : List Int) (g' : Hand), evS Φ u (.set (.nm 4) (.rvs (.blt .sorted [(.comp [5] (.nm 5) .rng [(.var 2)] none (.bin .Add (.var 1) (.call 9 [(.var 0), (.var 3)])))]))) (Sp l m t .no .no .no g) = .ok .nx (Sp l m t (.own (ns.map .int)) .no .no g') ∧ HandInv g' ∧ ns.length ≤ 26 ∧ ∀ i ∈ ns, Md i := by
  have ro : rngOk 0 m = true := rngOk_0 (by omega) (by omega)
  have sz : sizeLine = 16777216 := rfl
  have hl : (rngL 0 m).length = m.toNat := by unfold rngL; simp
  obtain ⟨ys, s', e, ⟨g', hg', rfl⟩, ly, p⟩ := compR_inv (Φ := Φ) (vs := [5]) (t := .nm 5) (elt := .bin .Add (.var 1) (.call 9 [(.var 0), (.var 3)])) (fun s => ∃ g, HandInv g ∧ s = Sp l m t .no .no .no g) (fun y => ∃ i : Int, y = .int i ∧ Md i) id (xs := rngL 0 m) (s := Sp l m t .no .no .no g) ⟨g, hg, rfl⟩ (fun x _ s ⟨g, hg, hs⟩ => by
    subst hs
    obtain ⟨i, g', e, hg', i0, i1⟩ := K hg t0 dt
    refine ⟨_, rfl, .d (.int (l + i)), Sp l m t .no (.d x) .no g', by simp [e], ⟨g', hg', by simp⟩, l + i, rfl, ?_⟩
    unfold Md
    omega) (by omega)
  rw [List.map_id] at e
  obtain ⟨ns, rfl, hp⟩ := map_of p
  rw [List.length_map] at ly
  have so : blt .sorted [.lst (ns.map .int)] = some (.f ((sortI ns).map .int)) := sorted_L ns
  have rv : revD (.lst ((sortI ns).map .int)) = some (.f ((sortI ns).reverse.map .int)) := by
    show some (R.f ((sortI ns).map D.int).reverse) = _
    rw [List.map_reverse]
  refine ⟨(sortI ns).reverse, g', ?_, hg', by rw [List.length_reverse, len_sortI]; omega, fun i hi => hp i (mem_sortI.mp (List.mem_reverse.mp hi))⟩
  generalize (sortI ns).reverse.map D.int = z at *
  generalize (sortI ns).map D.int = y at *
  generalize ns.map D.int = x at *
  simp [srcL_r ro, e, so, rv]
theorem parts_set (K : Tk Φ) (hg : HandInv g) {l m t : Int} {ns : List Int} (ln : ns.length ≤ 26) (hn : ∀ i ∈ ns, Md i) : ∃ (ds : List D) (c5 c6 : Cell) (g' : Hand),
    evS Φ u (.ifS (.var 4) [.ifS (.call 9 [(.var 0), (.k (.int 2))]) [.set (.nm 5) (.call 9 [(.var 0), (.blt .len [(.var 4)])]), .set (.nm 6) (.call 9 [(.var 0), (.k (.int 6))]), .ifS (.cmp .Lt (.var 6) (.k (.int 3))) [.six 4 (.var 5) (.ix (.tup [(.k (.bl true)), (.k (.non)), (.k (.str "1")), (.neg (.k (.int 1))), (.k (.int 0)), (.lst [(.k (.int 1))])]) (.call 9 [(.var 0), (.k (.int 6))]))] [.six 4 (.var 5) (.bin .Add (.bin .Add (.ix (.var 4) (.var 5)) (.k (.int 1))) (.call 9 [(.var 0), (.k (.int 3))]))]] []] []) (Sp l m t (.own (ns.map .int)) .no .no g) = .ok .nx (Sp l m t (.own ds) c5 c6 g') ∧ HandInv g' ∧ ds.length ≤ 26 ∧ ∀ d ∈ ds, Fine 2000 2 d := by
  have sz : sizeLine = 16777216 := rfl
  have f0 : ∀ d ∈ ns.map D.int, Fine 2000 2 d := fun d hd => by
    obtain ⟨i, hi, rfl⟩ := List.mem_map.mp hd
    exact sm_good (md_sm (hn i hi))
  by_cases z : ns = []
  · subst z
    exact ⟨[], .no, .no, g, by simp, hg, by simp, fun d z => by cases z⟩
  · have hp := List.length_pos_iff.mpr z
    have tz : (ns.map D.int).isEmpty = false := by
      cases ns with
      | nil => exact absurd rfl z
      | cons a b => rfl
    obtain ⟨a, g1, e1, hg1, a0, a1⟩ := K hg (n := 2) (by decide) (by decide +kernel)
    by_cases za : a = 0
    · refine ⟨ns.map .int, .no, .no, g1, ?_, hg1, by rw [List.length_map]; exact ln, f0⟩
      generalize ns.map D.int = q at *
      simp [tz, e1, za]
    · obtain ⟨k, g2, e2, hg2, k0, k1⟩ := K hg1 (n := (ns.length : Int)) (by omega) (divOk_of (by omega) (by omega))
      obtain ⟨w, g3, e3, hg3, w0, w1⟩ := K hg2 (n := 6) (by decide) (by decide +kernel)
      have hl : k.toNat < ns.length := by omega
      have ll : (ns.map D.int).length = ns.length := List.length_map _
      have sa : ∀ x, setAt (ns.map D.int) (.int k) x = some ((ns.map D.int).set k.toNat x) := fun x => setAt_at k0 (by rw [List.length_map]; exact k1)
      have gi : item (.lst (ns.map D.int)) (.int k) = some (.int ns[k.toNat]) := item_lst k0 (by rw [List.getElem?_map, List.getElem?_eq_getElem hl]; rfl)
      have hm := hn _ (List.getElem_mem hl)
      generalize ns[k.toNat] = old at *
      have fset : ∀ x, Fine 2000 2 x → ∀ d ∈ (ns.map D.int).set k.toNat x, Fine 2000 2 d := fun x hx d hd => by
        rcases List.mem_or_eq_of_mem_set hd with hd | rfl
        · exact f0 d hd
        · exact hx
      have lset : ∀ x, ((ns.map D.int).set k.toNat x).length ≤ 26 := fun x => by rw [List.length_set, ll]; exact ln
      by_cases zw : w < 3
      · obtain ⟨r, g4, e4, hg4, r0, r1⟩ := K hg3 (n := 6) (by decide) (by decide +kernel)
        obtain ⟨x, hx, hm⟩ := at_list (xs := partL) r0 (by show r < 6; exact r1)
        unfold partL at hx
        refine ⟨(ns.map D.int).set k.toNat x, .d (.int k), .d (.int w), g4, ?_, hg4, lset x, fset x (part_fine x hm)⟩
        generalize ns.map D.int = q at *
        simp [tz, e1, za, ll, e2, e3, zw, e4, hx, sa, sz]
      · obtain ⟨r, g4, e4, hg4, r0, r1⟩ := K hg3 (n := 3) (by decide) (by decide +kernel)
        refine ⟨(ns.map D.int).set k.toNat (.int (old + 1 + r)), .d (.int k), .d (.int w), g4, ?_, hg4, lset _, fset _ (sm_good (by unfold Md at hm; unfold Sm; omega))⟩
        generalize ns.map D.int = q at *
        simp [tz, e1, za, ll, e2, e3, zw, e4, gi, sa, sz]
theorem r_parts (K : Tk Φ) (Rr : Rd Φ) (hg : HandInv g) {l : Int} (l0 : 0 ≤ l) (l1 : l ≤ 1) : ∃ r g', runF Φ u 7 b_law_parts_drawn [.hand, .int l] g = .ret r g' ∧ HandInv g' ∧ Fine 100000 3 r.D ∧ (items r.D).length ≤ 1000 := by
  have sz : sizeLine = 16777216 := rfl
  obtain ⟨a, g1, e1, hg1, a0, a1⟩ := K hg (n := 16) (by decide) (by decide +kernel)
  obtain ⟨x, hx, hm⟩ := at_list (xs := manyL) a0 (by show a < 16; exact a1)
  obtain ⟨m, rfl, m0, m1⟩ := many_int x hm
  unfold manyL at hx
  obtain ⟨b, g2, e2, hg2, _, _⟩ := K hg1 (n := 8) (by decide) (by decide +kernel)
  have pw : powOk 10 40 = true := by decide +kernel
  obtain ⟨t, s2, t0, t1, dt⟩ : ∃ t : Int, evS Φ u (.set (.nm 3) (.ife (.cmp .Eq (.call 9 [(.var 0), (.k (.int 8))]) (.k (.int 7))) (.bin .Pow (.k (.int 10)) (.k (.int 40))) (.k (.int 7)))) ⟨[.d .hand, .d (.int l), .d (.int m), .no, .no, .no, .no], g1⟩ = .ok .nx (Sp l m t .no .no .no g2) ∧ 0 < t ∧ t ≤ 10 ^ 40 ∧ divOk t = true := by
    by_cases z : b = 7
    · exact ⟨10000000000000000000000000000000000000000, by simp [e2, z, pow_int, pw], by decide, by decide, by decide +kernel⟩
    · exact ⟨7, by simp [e2, z], by decide, by decide, by decide +kernel⟩
  obtain ⟨ns, g3, s3, hg3, ln, hn⟩ := parts_comp (u := u) K hg2 l0 l1 m0 m1 t0 t1 dt
  obtain ⟨ds, c5, c6, g4, s4, hg4, ld, fd⟩ := parts_set (u := u) K hg3 (l := l) (m := m) (t := t) ln hn
  obtain ⟨c, g5, e5, hg5, _, _⟩ := K hg4 (n := 12) (by decide) (by decide +kernel)
  have s1 : evS Φ u (.set (.nm 2) (.ix (.tup [(.k (.int 0)), (.k (.int 1)), (.k (.int 2)), (.k (.int 3)), (.k (.int 4)), (.k (.int 5)), (.k (.int 3)), (.k (.int 2)), (.k (.int 4)), (.k (.int 1)), (.k (.int 24)), (.k (.int 25)), (.k (.int 6)), (.k (.int 3)), (.k (.int 26)), (.k (.int 2))]) (.call 9 [(.var 0), (.k (.int 16))]))) ⟨[.d .hand, .d (.int l), .no, .no, .no, .no, .no], g⟩ = .ok .nx ⟨[.d .hand, .d (.int l), .d (.int m), .no, .no, .no, .no], g1⟩ := by
    simp [e1, hx, sz]
  by_cases z : c = 0
  · obtain ⟨x, g6, e6, hg6, f⟩ := Rr hg5
    refine ⟨.d x, g6, runF_rt ⟨[.d .hand, .d (.int l), .d (.int m), .d (.int t), .own ds, c5, c6], ?_⟩, hg6, f.mono (by omega) (by omega), ?_⟩
    · rw [b_law_parts_drawn]
      exact (evB_nxt s1).trans ((evB_nxt s2).trans ((evB_nxt s3).trans ((evB_nxt s4).trans (by simp [e5, z, e6]))))
    · have fc := f.c
      show (items x).length ≤ 1000
      cases x with
      | lst xs =>
        have : ∀ xs : List D, 2 * xs.length ≤ D.costs xs := fun xs => by
          induction xs with
          | nil => exact Nat.zero_le _
          | cons x xs ih =>
            show 2 * (xs.length + 1) ≤ x.cost + 2 + D.costs xs
            omega
        have h1 := this xs
        have h2 : D.costs xs + 4 ≤ 2000 := fc
        show xs.length ≤ 1000
        omega
      | tup xs =>
        have : ∀ xs : List D, 2 * xs.length ≤ D.costs xs := fun xs => by
          induction xs with
          | nil => exact Nat.zero_le _
          | cons x xs ih =>
            show 2 * (xs.length + 1) ≤ x.cost + 2 + D.costs xs
            omega
        have h1 := this xs
        have h2 : D.costs xs + 4 ≤ 2000 := fc
        show xs.length ≤ 1000
        omega
      | _ => exact Nat.zero_le _
  · refine ⟨.d (.lst ds), g5, runF_rt ⟨[.d .hand, .d (.int l), .d (.int m), .d (.int t), .d (.lst ds), c5, c6], ?_⟩, hg5, (fine_lst fd (n := 40) (by omega)).mono (by omega) (by omega), by show ds.length ≤ 1000; omega⟩
    rw [b_law_parts_drawn]
    exact (evB_nxt s1).trans ((evB_nxt s2).trans ((evB_nxt s3).trans ((evB_nxt s4).trans (by simp [e5, z]))))
end
theorem ev_parts (k : Nat) {g : Hand} (hg : HandInv g) {l : Int} (l0 : 0 ≤ l) (l1 : l ≤ 1) : ∃ r g', phi defs 10 (k + 4) 21 [.hand, .int l] g = .ret r g' ∧ HandInv g' ∧ Fine 100000 3 r.D ∧ (items r.D).length ≤ 1000 := by
  obtain ⟨r, g', e, h⟩ := r_parts (u := 10) (tk_ok (k + 1)) (rd_ok k) hg l0 l1
  exact ⟨r, g', (p_law_parts_drawn_2 (k + 3) .hand _ g).trans e, h⟩
end K00

set_option Elab.async false
set_option linter.all false
set_option maxRecDepth 100000
set_option maxHeartbeats 4000000
/-! K00p: the law answers True. -/
namespace K00
open PySem PD
def bT : List S := [
  .set (.nm 3) (.call 17 [(.var 1)]),
  .set (.nm 4) (.ife (.call 9 [(.var 1), (.k (.int 2))]) (.call 11 [(.var 1), (.var 3)]) (.call 18 [(.var 1), (.var 3)])),
  .set (.nm 5) (.blt .repr [(.var 4)]),
  .set (.nm 6) (.ix (.tup [(.k (.str "any")), (.k (.str "long")), (.k (.str "square"))]) (.call 9 [(.var 1), (.k (.int 3))])),
  .set (.nm 7) (.call 20 [(.var 4), (.var 6), (.and (.cmp .Eq (.var 6) (.k (.str "any"))) (.cmp .Eq (.call 9 [(.var 1), (.k (.int 2))]) (.k (.int 0))))]),
  .ifS (.or (.not (.call 26 [(.var 7), (.var 4), (.call 19 [(.var 4), (.var 6)])])) (.cmp .NotEq (.blt .repr [(.var 4)]) (.var 5))) [.ret (.k (.bl false))] []]
def bS : List S := [
  .set (.nm 4) (.call 21 [(.var 1), (.k (.int 0))]),
  .ifS (.call 12 [(.var 4)]) [.set (.nm 4) (.call 10 [(.var 1), (.var 4)])] [],
  .set (.nm 5) (.blt .repr [(.var 4)]),
  .set (.nm 8) (.ife (.call 9 [(.var 1), (.k (.int 2))]) (.k (.non)) (.call 9 [(.var 1), (.k (.int 6))])),
  .set (.nm 9) (.ix (.tup [(.k (.int 4)), (.k (.int 24)), (.k (.int 4)), (.k (.int 1)), (.k (.int 6)), (.k (.int 25))]) (.call 9 [(.var 1), (.k (.int 6))])),
  .set (.nm 7) (.call 23 [(.var 4), (.var 8), (.var 9)]),
  .ifS (.or (.not (.call 26 [(.var 7), (.var 4), (.call 22 [(.var 4), (.k (.int 0)), (.var 8), (.var 9)])])) (.cmp .NotEq (.blt .repr [(.var 4)]) (.var 5))) [.ret (.k (.bl false))] []]
def bK : List S := [
  .set (.nm 4) (.call 21 [(.var 1), (.k (.int 1))]),
  .set (.nm 5) (.blt .repr [(.var 4)]),
  .set (.nm 9) (.ix (.tup [(.k (.int 24)), (.k (.int 4)), (.k (.int 8)), (.k (.int 24))]) (.call 9 [(.var 1), (.k (.int 4))])),
  .set (.nm 7) (.call 24 [(.var 4), (.var 9)]),
  .ifS (.or (.not (.call 26 [(.var 7), (.var 4), (.call 22 [(.var 4), (.k (.int 1)), (.k (.non)), (.var 9)])])) (.cmp .NotEq (.blt .repr [(.var 4)]) (.var 5))) [.ret (.k (.bl false))] []]
def bP : List S := [
  .set (.nm 4) (.ix (.tup [(.k (.int 2)), (.k (.int 3)), (.k (.int 5)), (.k (.int 1)), (.k (.int 4)), (.k (.int 7)), (.k (.int 0)), (.neg (.k (.int 2))), (.k (.int 2)), (.k (.bl true)), (.k (.non)), (.k (.str "2")), (.lst [(.k (.int 3))]), (.k (.int 6)), (.bin .Pow (.k (.int 10)) (.k (.int 20))), (.k (.int 9))]) (.call 9 [(.var 1), (.k (.int 16))])),
  .set (.nm 7) (.call 25 [(.var 4)]),
  .set (.nm 10) (.and (.call 14 [(.var 4)]) (.cmp .In (.var 4) (.tup [(.k (.int 2)), (.k (.int 3)), (.k (.int 5))]))),
  .ifS (.cmp .NotEq (.blt .repr [(.var 7)]) (.blt .repr [(.ife (.var 10) (.var 4) (.lst [(.blt .repr [(.var 4)]), (.k (.bl true))]))])) [.ret (.k (.bl false))] []]
theorem b_eq : b_law = [.forS (.nm 2) .rng [(.k (.int 4))] (bT ++ (bS ++ (bK ++ bP))), .ret (.k (.bl true))] := rfl
theorem evB_app {Φ : FEnv} {u : Nat} : ∀ {a b : List S} {s s1 : Stt}, evB Φ u a s = .ok .nx s1 → evB Φ u (a ++ b) s = evB Φ u b s1
  | [], b, s, s1, h => by
    rw [evB_nil] at h
    cases h; rfl
  | c :: a, b, s, s1, h => by
    rw [List.cons_append, evB_cons]
    rw [evB_cons] at h
    cases e : evS Φ u c s with
    | bad => rw [e] at h; cases h
    | ex x s2 => rw [e] at h; cases h
    | ok f s2 =>
      rw [e] at h
      cases f with
      | nx => exact evB_app (a := a) h
      | bk => cases h
      | ct => cases h
      | rt r => cases h
/-- a cell with x in it -/
def Pk (c : Cell) (x : D) : Prop := c = .d x ∨ ∃ xs, c = .own xs ∧ x = .lst xs
def Cl : R → Cell
  | .d x => .d x
  | .f xs => .own xs
theorem pk_cl (r : R) : Pk (Cl r) r.D := by
  cases r with
  | d x => exact .inl rfl
  | f xs => exact .inr ⟨xs, rfl, rfl⟩
theorem fine_as {c d : Nat} {a b : D} (ha : isSeq a = true) (hb : isSeq b = true) (e : items b = items a) (h : Fine c d a) : Fine c d b := by
  have key : ∀ {x : D}, isSeq x = true → (x.good = D.goods (items x)) ∧ x.cost = D.costs (items x) + 4 ∧ x.dep = D.deps (items x) + 1 := fun {x} hx => match x, hx with
    | .lst xs, _ => ⟨by unfold D.good; rfl, rfl, rfl⟩
    | .tup xs, _ => ⟨by unfold D.good; rfl, rfl, rfl⟩
  obtain ⟨a1, a2, a3⟩ := key ha
  obtain ⟨b1, b2, b3⟩ := key hb
  rw [e, ← a1] at b1
  rw [e, ← a2] at b2
  rw [e, ← a3] at b3
  exact ⟨by rw [b1]; exact h.g, by rw [b2]; exact h.c, by rw [b3]; exact h.d⟩
theorem set4 {Φ : FEnv} {u : Nat} {g g' : Hand} {e : E} {r : R} {c2 c3 c4 c5 c6 c7 c8 c9 c10 c2' c3' c5' c6' c7' c8' c9' c10' : Cell} (h : evE Φ e ⟨[.no, .d .hand, c2, c3, c4, c5, c6, c7, c8, c9, c10], g⟩ = .ok r ⟨[.no, .d .hand, c2', c3', c4, c5', c6', c7', c8', c9', c10'], g'⟩) :
    evS Φ u (.set (.nm 4) e) ⟨[.no, .d .hand, c2, c3, c4, c5, c6, c7, c8, c9, c10], g⟩ = .ok .nx ⟨[.no, .d .hand, c2', c3', Cl r, c5', c6', c7', c8', c9', c10'], g'⟩ := by
  rw [evS_set, h]
  cases r <;> simp [Cl]
theorem rep5 {Φ : FEnv} {u : Nat} {g : Hand} {x : D} {z : Str} {c2 c3 c4 c5 c6 c7 c8 c9 c10 : Cell} (hc : Pk c4 x) (rp : blt .repr [x] = some (.d (.str z))) :
    evS Φ u (.set (.nm 5) (.blt .repr [(.var 4)])) ⟨[.no, .d .hand, c2, c3, c4, c5, c6, c7, c8, c9, c10], g⟩ = .ok .nx ⟨[.no, .d .hand, c2, c3, c4, .d (.str z), c6, c7, c8, c9, c10], g⟩ := by
  rcases hc with rfl | ⟨xs, rfl, rfl⟩ <;> simp [rp]
def wordL : List D := [.str "any", .str "long", .str "square"]
theorem word_str : ∀ x ∈ wordL, ∃ w : Str, x = .str w := by
  unfold wordL
  intro x hx
  simp only [List.mem_cons, List.not_mem_nil, or_false] at hx
  rcases hx with h | h | h <;> exact ⟨_, h⟩
theorem part_T {g : Hand} (hg : HandInv g) {c2 c3 c4 c5 c6 c7 c8 c9 c10 : Cell} : ∃ c3' c4' c5' c6' c7' g', evB (phi defs 10 20) 10 bT ⟨[.no, .d .hand, c2, c3, c4, c5, c6, c7, c8, c9, c10], g⟩ = .ok .nx ⟨[.no, .d .hand, c2, c3', c4', c5', c6', c7', c8, c9, c10], g'⟩ ∧ HandInv g' := by
  have sz : sizeLine = 16777216 := rfl
  obtain ⟨rs, g1, e1, hg1, T⟩ := ev_drawn 16 hg
  obtain ⟨a, g2, e2, hg2, _, _⟩ := ev_take 18 hg1 (n := 2) (by decide) (by decide +kernel)
  obtain ⟨r, g3, e3, hg3, fr⟩ : ∃ r g3, evE (phi defs 10 20) (.ife (.call 9 [(.var 1), (.k (.int 2))]) (.call 11 [(.var 1), (.var 3)]) (.call 18 [(.var 1), (.var 3)])) ⟨[.no, .d .hand, c2, .own (rs.map L), c4, c5, c6, c7, c8, c9, c10], g1⟩ = .ok r ⟨[.no, .d .hand, c2, .d (.lst (rs.map L)), c4, c5, c6, c7, c8, c9, c10], g3⟩ ∧ HandInv g3 ∧ Fine 5000000 4 r.D := by
    obtain ⟨r1, g3, e3, hg3, f3⟩ := ev_rows2 16 hg2 T
    obtain ⟨r2, g4, e4, hg4, f4⟩ := ev_spoiled 16 hg2 T
    have e2 : phi defs 10 20 9 [.hand, .int 2] g1 = .ret (.d (.int a)) g2 := e2
    have e3 : phi defs 10 20 11 [.hand, .lst (rs.map L)] g2 = .ret r1 g3 := e3
    have e4 : phi defs 10 20 18 [.hand, .lst (rs.map L)] g2 = .ret r2 g4 := e4
    generalize phi defs 10 20 = Φ at *
    generalize rs.map L = q at *
    by_cases z : a = 0
    · exact ⟨r2, g4, by simp [e2, z, e4], hg4, f4⟩
    · exact ⟨r1, g3, by simp [e2, z, e3], hg3, f3⟩
  have rp := fr.rp (by omega) (by omega)
  have hc := pk_cl r
  have nh := fr.nh
  obtain ⟨b, g4, e4, hg4, b0, b1⟩ := ev_take 18 hg3 (n := 3) (by decide) (by decide +kernel)
  obtain ⟨y, hy, hm⟩ := at_list (xs := wordL) b0 (by show b < 3; exact b1)
  obtain ⟨w, rfl⟩ := word_str y hm
  unfold wordL at hy
  obtain ⟨d, g5, e5, hg5, _, _⟩ := ev_take 18 hg4 (n := 2) (by decide) (by decide +kernel)
  have td : ∀ (g : Hand) (b : Bool), (b = true → w = "any") → phi defs 10 20 20 [r.D, .str w, .bl b] g = .ret (.d (toldD (tableDue r.D w) (T2 r.D))) g := fun g b hb => ev_told_table 16 g hb nh
  have du : ∀ g : Hand, phi defs 10 20 19 [r.D, .str w] g = .ret (.d (dueD (tableDue r.D w))) g := fun g => ev_table_due 18 g nh
  have ri : ∀ g : Hand, phi defs 10 20 26 [toldD (tableDue r.D w) (T2 r.D), r.D, dueD (tableDue r.D w)] g = .ret (.d (.bl true)) g := fun g => ev_right_table 15 g fr (by omega) (by omega)
  have e1 : phi defs 10 20 17 [.hand] g = .ret (.f (rs.map L)) g1 := e1
  have e4 : phi defs 10 20 9 [.hand, .int 3] g3 = .ret (.d (.int b)) g4 := e4
  have e5 : phi defs 10 20 9 [.hand, .int 2] g4 = .ret (.d (.int d)) g5 := e5
  generalize phi defs 10 20 = Φ at *
  generalize toldD (tableDue r.D w) (T2 r.D) = tl at *
  generalize dueD (tableDue r.D w) = dd at *
  generalize (r.D).py.shown = z at *
  generalize rs.map L = q at *
  generalize ecl : Cl r = c at *
  have s1 : evS Φ 10 (.set (.nm 3) (.call 17 [(.var 1)])) ⟨[.no, .d .hand, c2, c3, c4, c5, c6, c7, c8, c9, c10], g⟩ = .ok .nx ⟨[.no, .d .hand, c2, .own q, c4, c5, c6, c7, c8, c9, c10], g1⟩ := by simp [e1]
  have s2 := set4 (u := 10) e3
  rw [ecl] at s2
  have s3 := rep5 (Φ := Φ) (u := 10) (g := g3) (c2 := c2) (c3 := .d (.lst q)) (c5 := c5) (c6 := c6) (c7 := c7) (c8 := c8) (c9 := c9) (c10 := c10) hc rp
  generalize r.D = x at *
  have s4 : evS Φ 10 (.set (.nm 6) (.ix (.tup [(.k (.str "any")), (.k (.str "long")), (.k (.str "square"))]) (.call 9 [(.var 1), (.k (.int 3))]))) ⟨[.no, .d .hand, c2, .d (.lst q), c, .d (.str z), c6, c7, c8, c9, c10], g3⟩ = .ok .nx ⟨[.no, .d .hand, c2, .d (.lst q), c, .d (.str z), .d (.str w), c7, c8, c9, c10], g4⟩ := by simp [e4, hy, sz]
  obtain ⟨g6, hg6, s5⟩ : ∃ g6, HandInv g6 ∧ evS Φ 10 (.set (.nm 7) (.call 20 [(.var 4), (.var 6), (.and (.cmp .Eq (.var 6) (.k (.str "any"))) (.cmp .Eq (.call 9 [(.var 1), (.k (.int 2))]) (.k (.int 0))))])) ⟨[.no, .d .hand, c2, .d (.lst q), c, .d (.str z), .d (.str w), c7, c8, c9, c10], g4⟩ = .ok .nx ⟨[.no, .d .hand, c2, .d (.lst q), .d x, .d (.str z), .d (.str w), .d tl, c8, c9, c10], g6⟩ := by
    by_cases za : w = "any"
    · have t1 := td g5 (decide (d = 0)) (fun _ => za)
      refine ⟨g5, hg5, ?_⟩
      rcases hc with rfl | ⟨xs, rfl, rfl⟩ <;> simp [za, e5] <;> rw [za] at t1 <;> simp [t1]
    · have t1 := td g4 false (fun z => by cases z)
      refine ⟨g4, hg4, ?_⟩
      rcases hc with rfl | ⟨xs, rfl, rfl⟩ <;> simp [za, t1]
  refine ⟨.d (.lst q), .d x, .d (.str z), .d (.str w), .d tl, g6, ?_, hg6⟩
  unfold bT
  refine (evB_nxt s1).trans ((evB_nxt s2).trans ((evB_nxt s3).trans ((evB_nxt s4).trans ((evB_nxt s5).trans ((evB_nxt (s1 := ⟨[.no, .d .hand, c2, .d (.lst q), .d x, .d (.str z), .d (.str w), .d tl, c8, c9, c10], g6⟩) ?_).trans (evB_nil _ _ _))))))
  simp [du, ri, rp]
def mostL : List D := [.int 4, .int 24, .int 4, .int 1, .int 6, .int 25]
theorem most_int : ∀ x ∈ mostL, ∃ m : Int, x = .int m := by
  unfold mostL
  intro x hx
  simp only [List.mem_cons, List.not_mem_nil, or_false] at hx
  rcases hx with h | h | h | h | h | h <;> exact ⟨_, h⟩
def most2L : List D := [.int 24, .int 4, .int 8, .int 24]
theorem most2_int : ∀ x ∈ most2L, ∃ m : Int, x = .int m := by
  unfold most2L
  intro x hx
  simp only [List.mem_cons, List.not_mem_nil, or_false] at hx
  rcases hx with h | h | h | h <;> exact ⟨_, h⟩
theorem part_S {g : Hand} (hg : HandInv g) {c2 c3 c4 c5 c6 c7 c8 c9 c10 : Cell} : ∃ c4' c5' c7' c8' c9' g', evB (phi defs 10 20) 10 bS ⟨[.no, .d .hand, c2, c3, c4, c5, c6, c7, c8, c9, c10], g⟩ = .ok .nx ⟨[.no, .d .hand, c2, c3, c4', c5', c6, c7', c8', c9', c10], g'⟩ ∧ HandInv g' := by
  have sz : sizeLine = 16777216 := rfl
  obtain ⟨r0, g1, e1, hg1, f0, l0⟩ := ev_parts 16 hg (l := 0) (by decide) (by decide)
  have e1 : phi defs 10 20 21 [.hand, .int 0] g = .ret r0 g1 := e1
  have s1 : evS (phi defs 10 20) 10 (.set (.nm 4) (.call 21 [(.var 1), (.k (.int 0))])) ⟨[.no, .d .hand, c2, c3, c4, c5, c6, c7, c8, c9, c10], g⟩ = .ok .nx ⟨[.no, .d .hand, c2, c3, Cl r0, c5, c6, c7, c8, c9, c10], g1⟩ := by
    refine set4 ?_
    generalize phi defs 10 20 = Φ at *
    simp [e1]
  have hc0 := pk_cl r0
  obtain ⟨x, c, g2, s2, hg2, hc, fx, lx⟩ : ∃ x c g2, evS (phi defs 10 20) 10 (.ifS (.call 12 [(.var 4)]) [.set (.nm 4) (.call 10 [(.var 1), (.var 4)])] []) ⟨[.no, .d .hand, c2, c3, Cl r0, c5, c6, c7, c8, c9, c10], g1⟩ = .ok .nx ⟨[.no, .d .hand, c2, c3, c, c5, c6, c7, c8, c9, c10], g2⟩ ∧ HandInv g2 ∧ Pk c x ∧ Fine 100000 3 x ∧ (items x).length ≤ 1000 := by
    have q : phi defs 10 20 12 [r0.D] g1 = .ret (.d (.bl (isSeq r0.D))) g1 := ev_lseq 19 g1 f0.ne
    cases hs : isSeq r0.D with
    | false =>
      rw [hs] at q
      refine ⟨r0.D, .d r0.D, g1, ?_, hg1, .inl rfl, f0, l0⟩
      generalize phi defs 10 20 = Φ at *
      generalize Cl r0 = cc at *
      generalize r0.D = x at *
      rcases hc0 with rfl | ⟨xs, rfl, rfl⟩ <;> simp [q]
    | true =>
      rw [hs] at q
      obtain ⟨r, g2, e2, hg2, h1, h2⟩ := ev_row 17 hg1 hs
      have e2 : phi defs 10 20 10 [.hand, r0.D] g1 = .ret r g2 := e2
      refine ⟨r.D, Cl r, g2, ?_, hg2, pk_cl r, fine_as hs h1 h2 f0, by rw [h2]; exact l0⟩
      generalize phi defs 10 20 = Φ at *
      generalize Cl r0 = cc at *
      generalize r0.D = x at *
      have s := set4 (Φ := Φ) (u := 10) (g := g1) (g' := g2) (e := .call 10 [(.var 1), (.var 4)]) (r := r) (c4 := .d x) (c2 := c2) (c3 := c3) (c5 := c5) (c6 := c6) (c7 := c7) (c8 := c8) (c9 := c9) (c10 := c10) (c2' := c2) (c3' := c3) (c5' := c5) (c6' := c6) (c7' := c7) (c8' := c8) (c9' := c9) (c10' := c10) (by simp [e2])
      have s' : evB Φ 10 [.set (.nm 4) (.call 10 [(.var 1), (.var 4)])] ⟨[.no, .d .hand, c2, c3, .d x, c5, c6, c7, c8, c9, c10], g1⟩ = .ok .nx ⟨[.no, .d .hand, c2, c3, Cl r, c5, c6, c7, c8, c9, c10], g2⟩ := (evB_nxt s).trans (evB_nil _ _ _)
      generalize [S.set (.nm 4) (.call 10 [(.var 1), (.var 4)])] = bd at *
      rcases hc0 with rfl | ⟨xs, rfl, rfl⟩ <;> simp [q, s']
  have rp := fx.rp (by omega) (by omega)
  obtain ⟨a, g3, e3, hg3, a0, a1⟩ := ev_take 18 hg2 (n := 2) (by decide) (by decide +kernel)
  have e3 : phi defs 10 20 9 [.hand, .int 2] g2 = .ret (.d (.int a)) g3 := e3
  have s3 := rep5 (Φ := phi defs 10 20) (u := 10) (g := g2) (c2 := c2) (c3 := c3) (c5 := c5) (c6 := c6) (c7 := c7) (c8 := c8) (c9 := c9) (c10 := c10) hc rp
  generalize x.py.shown = z at *
  obtain ⟨len, g4, s4, hg4⟩ : ∃ len g4, evS (phi defs 10 20) 10 (.set (.nm 8) (.ife (.call 9 [(.var 1), (.k (.int 2))]) (.k (.non)) (.call 9 [(.var 1), (.k (.int 6))]))) ⟨[.no, .d .hand, c2, c3, c, .d (.str z), c6, c7, c8, c9, c10], g2⟩ = .ok .nx ⟨[.no, .d .hand, c2, c3, c, .d (.str z), c6, c7, .d (lenD len), c9, c10], g4⟩ ∧ HandInv g4 := by
    obtain ⟨b, g4, e4, hg4, b0, b1⟩ := ev_take 18 hg3 (n := 6) (by decide) (by decide +kernel)
    have e4 : phi defs 10 20 9 [.hand, .int 6] g3 = .ret (.d (.int b)) g4 := e4
    generalize phi defs 10 20 = Φ at *
    by_cases za : a = 0
    · exact ⟨some b, g4, by simp [e3, za, e4, lenD], hg4⟩
    · exact ⟨none, g3, by simp [e3, za, lenD], hg3⟩
  obtain ⟨b, g5, e5, hg5, b0, b1⟩ := ev_take 18 hg4 (n := 6) (by decide) (by decide +kernel)
  obtain ⟨y, hy, hm⟩ := at_list (xs := mostL) b0 (by show b < 6; exact b1)
  obtain ⟨m, rfl⟩ := most_int y hm
  unfold mostL at hy
  have e5 : phi defs 10 20 9 [.hand, .int 6] g4 = .ret (.d (.int b)) g5 := e5
  have td : phi defs 10 20 23 [x, lenD len, .int m] g5 = .ret (.d (toldD (partsDue 0 len m x) (tupD x))) g5 := ev_told_shape 16 g5 fx.ne lx
  have du : phi defs 10 20 22 [x, .int 0, lenD len, .int m] g5 = .ret (.d (dueD (partsDue 0 len m x))) g5 := ev_parts_due 18 g5 fx.ne lx
  have ri : phi defs 10 20 26 [toldD (partsDue 0 len m x) (tupD x), x, dueD (partsDue 0 len m x)] g5 = .ret (.d (.bl true)) g5 := ev_right_parts 16 g5 fx lx (by omega) (by omega)
  generalize phi defs 10 20 = Φ at *
  generalize toldD (partsDue 0 len m x) (tupD x) = tl at *
  generalize dueD (partsDue 0 len m x) = dd at *
  generalize lenD len = ln at *
  generalize Cl r0 = cc at *
  have s5 : evS Φ 10 (.set (.nm 9) (.ix (.tup [(.k (.int 4)), (.k (.int 24)), (.k (.int 4)), (.k (.int 1)), (.k (.int 6)), (.k (.int 25))]) (.call 9 [(.var 1), (.k (.int 6))]))) ⟨[.no, .d .hand, c2, c3, c, .d (.str z), c6, c7, .d ln, c9, c10], g4⟩ = .ok .nx ⟨[.no, .d .hand, c2, c3, c, .d (.str z), c6, c7, .d ln, .d (.int m), c10], g5⟩ := by simp [e5, hy, sz]
  have s6 : evS Φ 10 (.set (.nm 7) (.call 23 [(.var 4), (.var 8), (.var 9)])) ⟨[.no, .d .hand, c2, c3, c, .d (.str z), c6, c7, .d ln, .d (.int m), c10], g5⟩ = .ok .nx ⟨[.no, .d .hand, c2, c3, .d x, .d (.str z), c6, .d tl, .d ln, .d (.int m), c10], g5⟩ := by
    rcases hc with rfl | ⟨xs, rfl, rfl⟩ <;> simp [td]
  refine ⟨.d x, .d (.str z), .d tl, .d ln, .d (.int m), g5, ?_, hg5⟩
  unfold bS
  refine (evB_nxt s1).trans ((evB_nxt s2).trans ((evB_nxt s3).trans ((evB_nxt s4).trans ((evB_nxt s5).trans ((evB_nxt s6).trans ((evB_nxt (s1 := ⟨[.no, .d .hand, c2, c3, .d x, .d (.str z), c6, .d tl, .d ln, .d (.int m), c10], g5⟩) ?_).trans (evB_nil _ _ _)))))))
  simp [du, ri, rp]
theorem part_K {g : Hand} (hg : HandInv g) {c2 c3 c4 c5 c6 c7 c8 c9 c10 : Cell} : ∃ c4' c5' c7' c9' g', evB (phi defs 10 20) 10 bK ⟨[.no, .d .hand, c2, c3, c4, c5, c6, c7, c8, c9, c10], g⟩ = .ok .nx ⟨[.no, .d .hand, c2, c3, c4', c5', c6, c7', c8, c9', c10], g'⟩ ∧ HandInv g' := by
  have sz : sizeLine = 16777216 := rfl
  obtain ⟨r0, g1, e1, hg1, fx, lx⟩ := ev_parts 16 hg (l := 1) (by decide) (by decide)
  have e1 : phi defs 10 20 21 [.hand, .int 1] g = .ret r0 g1 := e1
  have s1 : evS (phi defs 10 20) 10 (.set (.nm 4) (.call 21 [(.var 1), (.k (.int 1))])) ⟨[.no, .d .hand, c2, c3, c4, c5, c6, c7, c8, c9, c10], g⟩ = .ok .nx ⟨[.no, .d .hand, c2, c3, Cl r0, c5, c6, c7, c8, c9, c10], g1⟩ := by
    refine set4 ?_
    generalize phi defs 10 20 = Φ at *
    simp [e1]
  have hc := pk_cl r0
  generalize Cl r0 = c at *
  generalize r0.D = x at *
  have rp := fx.rp (by omega) (by omega)
  have s3 := rep5 (Φ := phi defs 10 20) (u := 10) (g := g1) (c2 := c2) (c3 := c3) (c5 := c5) (c6 := c6) (c7 := c7) (c8 := c8) (c9 := c9) (c10 := c10) hc rp
  generalize x.py.shown = z at *
  obtain ⟨b, g5, e5, hg5, b0, b1⟩ := ev_take 18 hg1 (n := 4) (by decide) (by decide +kernel)
  obtain ⟨y, hy, hm⟩ := at_list (xs := most2L) b0 (by show b < 4; exact b1)
  obtain ⟨m, rfl⟩ := most2_int y hm
  unfold most2L at hy
  have e5 : phi defs 10 20 9 [.hand, .int 4] g1 = .ret (.d (.int b)) g5 := e5
  have td : phi defs 10 20 24 [x, .int m] g5 = .ret (.d (toldD (partsDue 1 none m x) (tupD x))) g5 := ev_told_kind 16 g5 fx.ne lx
  have du : phi defs 10 20 22 [x, .int 1, .non, .int m] g5 = .ret (.d (dueD (partsDue 1 none m x))) g5 := ev_parts_due (len := none) 18 g5 fx.ne lx
  have ri : phi defs 10 20 26 [toldD (partsDue 1 none m x) (tupD x), x, dueD (partsDue 1 none m x)] g5 = .ret (.d (.bl true)) g5 := ev_right_parts 16 g5 fx lx (by omega) (by omega)
  generalize phi defs 10 20 = Φ at *
  generalize toldD (partsDue 1 none m x) (tupD x) = tl at *
  generalize dueD (partsDue 1 none m x) = dd at *
  have s5 : evS Φ 10 (.set (.nm 9) (.ix (.tup [(.k (.int 24)), (.k (.int 4)), (.k (.int 8)), (.k (.int 24))]) (.call 9 [(.var 1), (.k (.int 4))]))) ⟨[.no, .d .hand, c2, c3, c, .d (.str z), c6, c7, c8, c9, c10], g1⟩ = .ok .nx ⟨[.no, .d .hand, c2, c3, c, .d (.str z), c6, c7, c8, .d (.int m), c10], g5⟩ := by simp [e5, hy, sz]
  have s6 : evS Φ 10 (.set (.nm 7) (.call 24 [(.var 4), (.var 9)])) ⟨[.no, .d .hand, c2, c3, c, .d (.str z), c6, c7, c8, .d (.int m), c10], g5⟩ = .ok .nx ⟨[.no, .d .hand, c2, c3, .d x, .d (.str z), c6, .d tl, c8, .d (.int m), c10], g5⟩ := by
    rcases hc with rfl | ⟨xs, rfl, rfl⟩ <;> simp [td]
  refine ⟨.d x, .d (.str z), .d tl, .d (.int m), g5, ?_, hg5⟩
  unfold bK
  refine (evB_nxt s1).trans ((evB_nxt s3).trans ((evB_nxt s5).trans ((evB_nxt s6).trans ((evB_nxt (s1 := ⟨[.no, .d .hand, c2, c3, .d x, .d (.str z), c6, .d tl, c8, .d (.int m), c10], g5⟩) ?_).trans (evB_nil _ _ _)))))
  simp [du, ri, rp]
def primeL : List D := [.int 2, .int 3, .int 5, .int 1, .int 4, .int 7, .int 0, .int (-2), .int 2, .bl true, .non, .str "2", .lst [.int 3], .int 6, .int 100000000000000000000, .int 9]
theorem prime_fine : ∀ x ∈ primeL, Fine 3000 2 x ∧ (D.str x.py.shown).good = true := by
  have key : (primeL.all fun x => x.good && decide (x.cost ≤ 3000) && decide (x.dep ≤ 2) && (D.str x.py.shown).good) = true := by decide +kernel
  intro x hx
  have := List.all_eq_true.mp key x hx
  simp only [Bool.and_eq_true, decide_eq_true_eq] at this
  exact ⟨⟨this.1.1.1, this.1.1.2, this.1.2⟩, this.2⟩
theorem cmp_in (a b : D) : cmpop .In a b = inD a b := by cases a <;> cases b <;> rfl
theorem p_set {Φ : FEnv} {g g1 : Hand} {x : D} {b : Int} (e1 : Φ 9 [.hand, .int 16] g = .ret (.d (.int b)) g1) (hx : item (.tup primeL) (.int b) = some x) {c2 c3 c4 c5 c6 c7 c8 c9 c10 : Cell} :
    evS Φ 10 (.set (.nm 4) (.ix (.tup [(.k (.int 2)), (.k (.int 3)), (.k (.int 5)), (.k (.int 1)), (.k (.int 4)), (.k (.int 7)), (.k (.int 0)), (.neg (.k (.int 2))), (.k (.int 2)), (.k (.bl true)), (.k (.non)), (.k (.str "2")), (.lst [(.k (.int 3))]), (.k (.int 6)), (.bin .Pow (.k (.int 10)) (.k (.int 20))), (.k (.int 9))]) (.call 9 [(.var 1), (.k (.int 16))]))) ⟨[.no, .d .hand, c2, c3, c4, c5, c6, c7, c8, c9, c10], g⟩ = .ok .nx ⟨[.no, .d .hand, c2, c3, .d x, c5, c6, c7, c8, c9, c10], g1⟩ := by
  have sz : sizeLine = 16777216 := rfl
  have pw : powOk 10 20 = true := by decide +kernel
  unfold primeL at hx
  simp [e1, sz, pow_int, pw, hx]
theorem p_good {Φ : FEnv} {g1 : Hand} {x t : D} (li : Φ 14 [x] g1 = .ret (.d (.bl (isInt x))) g1) {c2 c3 c5 c6 c8 c9 c10 : Cell} :
    evS Φ 10 (.set (.nm 10) (.and (.call 14 [(.var 4)]) (.cmp .In (.var 4) (.tup [(.k (.int 2)), (.k (.int 3)), (.k (.int 5))])))) ⟨[.no, .d .hand, c2, c3, .d x, c5, c6, .d t, c8, c9, c10], g1⟩ = .ok .nx ⟨[.no, .d .hand, c2, c3, .d x, c5, c6, .d t, c8, c9, .d (.bl (prime x))], g1⟩ := by
  have sz : sizeLine = 16777216 := rfl
  have np : isInt x = false → prime x = false := fun h => by
    cases x with
    | int i => cases h
    | _ => rfl
  cases hi : isInt x with
  | true =>
    rw [hi] at li
    have ip : inD x (.tup [.int 2, .int 3, .int 5]) = some (prime x) := match x, hi with
      | .int i, _ => in_prime i
    simp [li, sz, cmp_in, ip]
  | false =>
    rw [hi] at li
    rw [np hi]
    simp [li]
theorem p_end {Φ : FEnv} {g1 : Hand} {x : D} {z z2 : Str} {p : Bool} (rp : blt .repr [x] = some (.d (.str z))) (rp2 : blt .repr [.lst [.str z, .bl true]] = some (.d (.str z2))) {c2 c3 c5 c6 c8 c9 : Cell} :
    evS Φ 10 (.ifS (.cmp .NotEq (.blt .repr [(.var 7)]) (.blt .repr [(.ife (.var 10) (.var 4) (.lst [(.blt .repr [(.var 4)]), (.k (.bl true))]))])) [.ret (.k (.bl false))] []) ⟨[.no, .d .hand, c2, c3, .d x, c5, c6, .d (if p = true then x else .lst [.str z, .bl true]), c8, c9, .d (.bl p)], g1⟩ = .ok .nx ⟨[.no, .d .hand, c2, c3, .d x, c5, c6, .d (if p = true then x else .lst [.str z, .bl true]), c8, c9, .d (.bl p)], g1⟩ := by
  have sz : sizeLine = 16777216 := rfl
  cases p with
  | true => simp [rp]
  | false => simp [rp, rp2, sz]
theorem part_P {g : Hand} (hg : HandInv g) {c2 c3 c4 c5 c6 c7 c8 c9 c10 : Cell} : ∃ c4' c7' c10' g', evB (phi defs 10 20) 10 bP ⟨[.no, .d .hand, c2, c3, c4, c5, c6, c7, c8, c9, c10], g⟩ = .ok .nx ⟨[.no, .d .hand, c2, c3, c4', c5, c6, c7', c8, c9, c10'], g'⟩ ∧ HandInv g' := by
  obtain ⟨b, g1, e1, hg1, b0, b1⟩ := ev_take 18 hg (n := 16) (by decide) (by decide +kernel)
  obtain ⟨x, hx, hm⟩ := at_list (xs := primeL) b0 (by show b < 16; exact b1)
  obtain ⟨fx, gx⟩ := prime_fine x hm
  have rp := fx.rp (by omega) (by omega)
  have rp2 := (fine_word gx).rp (by omega) (by omega)
  have e1 : phi defs 10 20 9 [.hand, .int 16] g = .ret (.d (.int b)) g1 := e1
  have td : phi defs 10 20 25 [x] g1 = .ret (.d (toldP x)) g1 := ev_told_prime 17 g1 rp
  have li : phi defs 10 20 14 [x] g1 = .ret (.d (.bl (isInt x))) g1 := ev_lint 19 g1 x
  generalize phi defs 10 20 = Φ at *
  have s1 := p_set e1 hx (c2 := c2) (c3 := c3) (c4 := c4) (c5 := c5) (c6 := c6) (c7 := c7) (c8 := c8) (c9 := c9) (c10 := c10)
  have s2 : evS Φ 10 (.set (.nm 7) (.call 25 [(.var 4)])) ⟨[.no, .d .hand, c2, c3, .d x, c5, c6, c7, c8, c9, c10], g1⟩ = .ok .nx ⟨[.no, .d .hand, c2, c3, .d x, c5, c6, .d (toldP x), c8, c9, c10], g1⟩ := by
    generalize toldP x = t at *
    simp [td]
  have s3 := p_good li (t := toldP x) (c2 := c2) (c3 := c3) (c5 := c5) (c6 := c6) (c8 := c8) (c9 := c9) (c10 := c10)
  have s4 := p_end (Φ := Φ) (g1 := g1) (p := prime x) rp rp2 (c2 := c2) (c3 := c3) (c5 := c5) (c6 := c6) (c8 := c8) (c9 := c9)
  exact ⟨.d x, .d (toldP x), .d (.bl (prime x)), g1, (evB_nxt s1).trans ((evB_nxt s2).trans ((evB_nxt s3).trans ((evB_nxt s4).trans (evB_nil _ _ _)))), hg1⟩
theorem pure_law (ns : List Int) (h : ns.length ≤ 63) : ∃ s', evB (phi defs 10 20) 10 b_law ⟨ρ0 N_law.length, hand0 ns⟩ = .ok (.rt (.d (.bl true))) s' := by
  have ro : rngOk 0 4 = true := rngOk_0 (by decide) (by decide)
  obtain ⟨s', e, ⟨g, c2, c3, c4, c5, c6, c7, c8, c9, c10, rfl, hg⟩⟩ := forL_inv (f := evB (phi defs 10 20) 10 (bT ++ (bS ++ (bK ++ bP)))) (t := .nm 2) (fun _ s => ∃ g c2 c3 c4 c5 c6 c7 c8 c9 c10, s = ⟨[.no, .d .hand, c2, c3, c4, c5, c6, c7, c8, c9, c10], g⟩ ∧ HandInv g) (rngL 0 4) 0 ⟨ρ0 N_law.length, hand0 ns⟩ ⟨hand0 ns, .no, .no, .no, .no, .no, .no, .no, .no, .no, rfl, hand0_inv h⟩ fun i x s _ ⟨g, c2, c3, c4, c5, c6, c7, c8, c9, c10, hs, hg⟩ => by
    subst hs
    obtain ⟨d3, d4, d5, d6, d7, g1, e1, hg1⟩ := part_T hg (c2 := .d x) (c3 := c3) (c4 := c4) (c5 := c5) (c6 := c6) (c7 := c7) (c8 := c8) (c9 := c9) (c10 := c10)
    obtain ⟨f4, f5, f7, f8, f9, g2, e2, hg2⟩ := part_S hg1 (c2 := .d x) (c3 := d3) (c4 := d4) (c5 := d5) (c6 := d6) (c7 := d7) (c8 := c8) (c9 := c9) (c10 := c10)
    obtain ⟨h4, h5, h7, h9, g3, e3, hg3⟩ := part_K hg2 (c2 := .d x) (c3 := d3) (c4 := f4) (c5 := f5) (c6 := d6) (c7 := f7) (c8 := f8) (c9 := f9) (c10 := c10)
    obtain ⟨k4, k7, k10, g4, e4, hg4⟩ := part_P hg3 (c2 := .d x) (c3 := d3) (c4 := h4) (c5 := h5) (c6 := d6) (c7 := h7) (c8 := f8) (c9 := h9) (c10 := c10)
    exact ⟨_, rfl, _, .inl ((evB_app e1).trans ((evB_app e2).trans ((evB_app e3).trans e4))), g4, _, _, _, _, _, _, _, _, _, rfl, hg4⟩
  have s1 : evS (phi defs 10 20) 10 (.forS (.nm 2) .rng [(.k (.int 4))] (bT ++ (bS ++ (bK ++ bP)))) ⟨ρ0 N_law.length, hand0 ns⟩ = .ok .nx ⟨[.no, .d .hand, c2, c3, c4, c5, c6, c7, c8, c9, c10], g⟩ := by
    rw [evS_forS]
    generalize phi defs 10 20 = Φ at *
    generalize evB Φ 10 (bT ++ (bS ++ (bK ++ bP))) = f at *
    simp [srcL_r ro, e]
  rw [b_eq]
  exact ⟨_, (evB_nxt s1).trans (by simp; rfl)⟩
end K00

set_option Elab.async false
set_option linter.all false
set_option maxRecDepth 100000
set_option maxHeartbeats 4000000
/-! the head of threeshapes_k00_tables_shapes_and_kinds. Printed by gen.py. -/
namespace K00
open PySem PySem.Spec PyProof.Rows L2 PD
theorem f_law_hand : FnScope handN ["_law_script"] (defScope s_law_hand) := ⟨rfl, rfl, rfl, by decide +kernel, rfl, by decide +kernel, by decide +kernel⟩
theorem all_mk {l : PySem.W.OpenLaw} {w : World} {K : Fr} {h : Heap} {mg : Str → Option Value} {fa : Addr} (X : K.In h) (G : h.Ns mainGlobals mg) (hfa : mg "law" = some (.ref fa))
    {B_TableError : Addr}
    {C_BadPrime : Addr}
    {C_BadTable : Addr}
    {C_BadShape : Addr}
    {C_BadKind : Addr}
    {C_TableError : Addr}
    {N_BadPrime fI_BadPrime : Addr} {nm_BadPrime q_BadPrime : Str} {bs_BadPrime : List Value} {sn_BadPrime : List Str} {sub_BadPrime : List Value} {ab_BadPrime : Bool} {col_BadPrime : Option Bool} {dd_BadPrime : Option Addr} {k0_BadPrime k1_BadPrime k2_BadPrime k3_BadPrime k5_BadPrime : Option Value} {oci_BadPrime kVi_BadPrime dci_BadPrime pmi_BadPrime cdi_BadPrime cti_BadPrime : Value} {odi_BadPrime ani_BadPrime : Option Addr} {sli_BadPrime : Array (Option Value)}
    {N_BadTable fI_BadTable : Addr} {nm_BadTable q_BadTable : Str} {bs_BadTable : List Value} {sn_BadTable : List Str} {sub_BadTable : List Value} {ab_BadTable : Bool} {col_BadTable : Option Bool} {dd_BadTable : Option Addr} {k0_BadTable k1_BadTable k2_BadTable k3_BadTable k5_BadTable : Option Value} {oci_BadTable kVi_BadTable dci_BadTable pmi_BadTable cdi_BadTable cti_BadTable : Value} {odi_BadTable ani_BadTable : Option Addr} {sli_BadTable : Array (Option Value)}
    {N_BadShape fI_BadShape : Addr} {nm_BadShape q_BadShape : Str} {bs_BadShape : List Value} {sn_BadShape : List Str} {sub_BadShape : List Value} {ab_BadShape : Bool} {col_BadShape : Option Bool} {dd_BadShape : Option Addr} {k0_BadShape k1_BadShape k2_BadShape k3_BadShape k5_BadShape : Option Value} {oci_BadShape kVi_BadShape dci_BadShape pmi_BadShape cdi_BadShape cti_BadShape : Value} {odi_BadShape ani_BadShape : Option Addr} {sli_BadShape : Array (Option Value)}
    {N_BadKind fI_BadKind : Addr} {nm_BadKind q_BadKind : Str} {bs_BadKind : List Value} {sn_BadKind : List Str} {sub_BadKind : List Value} {ab_BadKind : Bool} {col_BadKind : Option Bool} {dd_BadKind : Option Addr} {k0_BadKind k1_BadKind k2_BadKind k3_BadKind k5_BadKind : Option Value} {oci_BadKind kVi_BadKind dci_BadKind pmi_BadKind cdi_BadKind cti_BadKind : Value} {odi_BadKind ani_BadKind : Option Addr} {sli_BadKind : Array (Option Value)}
    {f0 : Addr} {od0 an0 : Option Addr} {sl0 : Array (Option Value)} {oc0 kV0 dc0 pm0 cd0 ct0 : Value}
    {T0 : Addr} {tc0 : Value} {td0 : Option Addr} {tn0 : Nat} {ts0 : Array (Option Value)}
    {f1 : Addr} {od1 an1 : Option Addr} {sl1 : Array (Option Value)} {oc1 kV1 dc1 pm1 cd1 ct1 : Value}
    {f2 : Addr} {od2 an2 : Option Addr} {sl2 : Array (Option Value)} {oc2 kV2 dc2 pm2 cd2 ct2 : Value}
    {f3 : Addr} {od3 an3 : Option Addr} {sl3 : Array (Option Value)} {oc3 kV3 dc3 pm3 cd3 ct3 : Value}
    {f4 : Addr} {od4 an4 : Option Addr} {sl4 : Array (Option Value)} {oc4 kV4 dc4 pm4 cd4 ct4 : Value}
    {T4 : Addr} {tc4 : Value} {td4 : Option Addr} {tn4 : Nat} {ts4 : Array (Option Value)}
    {tk4_0 : Tok}
    {f5 : Addr} {od5 an5 : Option Addr} {sl5 : Array (Option Value)} {oc5 kV5 dc5 pm5 cd5 ct5 : Value}
    {f6 : Addr} {od6 an6 : Option Addr} {sl6 : Array (Option Value)} {oc6 kV6 dc6 pm6 cd6 ct6 : Value}
    {T6 : Addr} {tc6 : Value} {td6 : Option Addr} {tn6 : Nat} {ts6 : Array (Option Value)}
    {tk6_1 : Tok}
    {f7 : Addr} {od7 an7 : Option Addr} {sl7 : Array (Option Value)} {oc7 kV7 dc7 pm7 cd7 ct7 : Value}
    {T7 : Addr} {tc7 : Value} {td7 : Option Addr} {tn7 : Nat} {ts7 : Array (Option Value)}
    {tk7_0 : Tok}
    {f8 : Addr} {od8 an8 : Option Addr} {sl8 : Array (Option Value)} {oc8 kV8 dc8 pm8 cd8 ct8 : Value}
    {f9 : Addr} {od9 an9 : Option Addr} {sl9 : Array (Option Value)} {oc9 kV9 dc9 pm9 cd9 ct9 : Value}
    {f10 : Addr} {od10 an10 : Option Addr} {sl10 : Array (Option Value)} {oc10 kV10 dc10 pm10 cd10 ct10 : Value}
    {f11 : Addr} {od11 an11 : Option Addr} {sl11 : Array (Option Value)} {oc11 kV11 dc11 pm11 cd11 ct11 : Value}
    {f12 : Addr} {od12 an12 : Option Addr} {sl12 : Array (Option Value)} {oc12 kV12 dc12 pm12 cd12 ct12 : Value}
    {f13 : Addr} {od13 an13 : Option Addr} {sl13 : Array (Option Value)} {oc13 kV13 dc13 pm13 cd13 ct13 : Value}
    {f14 : Addr} {od14 an14 : Option Addr} {sl14 : Array (Option Value)} {oc14 kV14 dc14 pm14 cd14 ct14 : Value}
    {f15 : Addr} {od15 an15 : Option Addr} {sl15 : Array (Option Value)} {oc15 kV15 dc15 pm15 cd15 ct15 : Value}
    {f16 : Addr} {od16 an16 : Option Addr} {sl16 : Array (Option Value)} {oc16 kV16 dc16 pm16 cd16 ct16 : Value}
    {f17 : Addr} {od17 an17 : Option Addr} {sl17 : Array (Option Value)} {oc17 kV17 dc17 pm17 cd17 ct17 : Value}
    {f18 : Addr} {od18 an18 : Option Addr} {sl18 : Array (Option Value)} {oc18 kV18 dc18 pm18 cd18 ct18 : Value}
    {f19 : Addr} {od19 an19 : Option Addr} {sl19 : Array (Option Value)} {oc19 kV19 dc19 pm19 cd19 ct19 : Value}
    {f20 : Addr} {od20 an20 : Option Addr} {sl20 : Array (Option Value)} {oc20 kV20 dc20 pm20 cd20 ct20 : Value}
    {f21 : Addr} {od21 an21 : Option Addr} {sl21 : Array (Option Value)} {oc21 kV21 dc21 pm21 cd21 ct21 : Value}
    {f22 : Addr} {od22 an22 : Option Addr} {sl22 : Array (Option Value)} {oc22 kV22 dc22 pm22 cd22 ct22 : Value}
    {f23 : Addr} {od23 an23 : Option Addr} {sl23 : Array (Option Value)} {oc23 kV23 dc23 pm23 cd23 ct23 : Value}
    {f24 : Addr} {od24 an24 : Option Addr} {sl24 : Array (Option Value)} {oc24 kV24 dc24 pm24 cd24 ct24 : Value}
    {f25 : Addr} {od25 an25 : Option Addr} {sl25 : Array (Option Value)} {oc25 kV25 dc25 pm25 cd25 ct25 : Value}
    {f26 : Addr} {od26 an26 : Option Addr} {sl26 : Array (Option Value)} {oc26 kV26 dc26 pm26 cd26 ct26 : Value}
    {f27 : Addr} {od27 an27 : Option Addr} {sl27 : Array (Option Value)} {oc27 kV27 dc27 pm27 cd27 ct27 : Value}
    {f28 : Addr} {od28 an28 : Option Addr} {sl28 : Array (Option Value)} {oc28 kV28 dc28 pm28 cd28 ct28 : Value}
    (a0 : PySem.W.nsIn K mainGlobals "is_whole" = some (some (.ref f0)))
    (l0 : K.lookup f0 = some ⟨oc0, od0, .func (PySem.W.fnOf "is_whole" "is_whole" (defArgs s_is_whole) (defBody s_is_whole) (defScope s_is_whole) (.ref T0) kV0 dc0 pm0 an0 cd0 ct0), sl0⟩)
    (c0 : PySem.W.codeIn K cd0 "is_whole" = true)
    (k0 : PySem.W.keepIn K (.ref f0) = true)
    (t0 : K.lookup T0 = some ⟨tc0, td0, .seq (([.none, .none] : List Value)).toArray tn0, ts0⟩)
    (a1 : PySem.W.nsIn K mainGlobals "is_sequence" = some (some (.ref f1)))
    (l1 : K.lookup f1 = some ⟨oc1, od1, .func (PySem.W.fnOf "is_sequence" "is_sequence" (defArgs s_is_sequence) (defBody s_is_sequence) (defScope s_is_sequence) .none kV1 dc1 pm1 an1 cd1 ct1), sl1⟩)
    (c1 : PySem.W.codeIn K cd1 "is_sequence" = true)
    (k1 : PySem.W.keepIn K (.ref f1) = true)
    (a2 : PySem.W.nsIn K mainGlobals "check_prime" = some (some (.ref f2)))
    (l2 : K.lookup f2 = some ⟨oc2, od2, .func (PySem.W.fnOf "check_prime" "check_prime" (defArgs s_check_prime) (defBody s_check_prime) (defScope s_check_prime) .none kV2 dc2 pm2 an2 cd2 ct2), sl2⟩)
    (c2 : PySem.W.codeIn K cd2 "check_prime" = true)
    (k2 : PySem.W.keepIn K (.ref f2) = true)
    (a3 : PySem.W.nsIn K mainGlobals "check_rows" = some (some (.ref f3)))
    (l3 : K.lookup f3 = some ⟨oc3, od3, .func (PySem.W.fnOf "check_rows" "check_rows" (defArgs s_check_rows) (defBody s_check_rows) (defScope s_check_rows) .none kV3 dc3 pm3 an3 cd3 ct3), sl3⟩)
    (c3 : PySem.W.codeIn K cd3 "check_rows" = true)
    (k3 : PySem.W.keepIn K (.ref f3) = true)
    (a4 : PySem.W.nsIn K mainGlobals "check_table" = some (some (.ref f4)))
    (l4 : K.lookup f4 = some ⟨oc4, od4, .func (PySem.W.fnOf "check_table" "check_table" (defArgs s_check_table) (defBody s_check_table) (defScope s_check_table) (.ref T4) kV4 dc4 pm4 an4 cd4 ct4), sl4⟩)
    (c4 : PySem.W.codeIn K cd4 "check_table" = true)
    (k4 : PySem.W.keepIn K (.ref f4) = true)
    (t4 : K.lookup T4 = some ⟨tc4, td4, .seq (([.str "any" tk4_0] : List Value)).toArray tn4, ts4⟩)
    (a5 : PySem.W.nsIn K mainGlobals "parts_fault" = some (some (.ref f5)))
    (l5 : K.lookup f5 = some ⟨oc5, od5, .func (PySem.W.fnOf "parts_fault" "parts_fault" (defArgs s_parts_fault) (defBody s_parts_fault) (defScope s_parts_fault) .none kV5 dc5 pm5 an5 cd5 ct5), sl5⟩)
    (c5 : PySem.W.codeIn K cd5 "parts_fault" = true)
    (k5 : PySem.W.keepIn K (.ref f5) = true)
    (a6 : PySem.W.nsIn K mainGlobals "check_shape" = some (some (.ref f6)))
    (l6 : K.lookup f6 = some ⟨oc6, od6, .func (PySem.W.fnOf "check_shape" "check_shape" (defArgs s_check_shape) (defBody s_check_shape) (defScope s_check_shape) (.ref T6) kV6 dc6 pm6 an6 cd6 ct6), sl6⟩)
    (c6 : PySem.W.codeIn K cd6 "check_shape" = true)
    (k6 : PySem.W.keepIn K (.ref f6) = true)
    (t6 : K.lookup T6 = some ⟨tc6, td6, .seq (([.none, .int (4) tk6_1] : List Value)).toArray tn6, ts6⟩)
    (a7 : PySem.W.nsIn K mainGlobals "check_kind" = some (some (.ref f7)))
    (l7 : K.lookup f7 = some ⟨oc7, od7, .func (PySem.W.fnOf "check_kind" "check_kind" (defArgs s_check_kind) (defBody s_check_kind) (defScope s_check_kind) (.ref T7) kV7 dc7 pm7 an7 cd7 ct7), sl7⟩)
    (c7 : PySem.W.codeIn K cd7 "check_kind" = true)
    (k7 : PySem.W.keepIn K (.ref f7) = true)
    (t7 : K.lookup T7 = some ⟨tc7, td7, .seq (([.int (24) tk7_0] : List Value)).toArray tn7, ts7⟩)
    (a8 : PySem.W.nsIn K mainGlobals "_law_mixed" = some (some (.ref f8)))
    (l8 : K.lookup f8 = some ⟨oc8, od8, .func (PySem.W.fnOf "_law_mixed" "_law_mixed" (defArgs s_law_mixed) (defBody s_law_mixed) (defScope s_law_mixed) .none kV8 dc8 pm8 an8 cd8 ct8), sl8⟩)
    (c8 : PySem.W.codeIn K cd8 "_law_mixed" = true)
    (k8 : PySem.W.keepIn K (.ref f8) = true)
    (a9 : PySem.W.nsIn K mainGlobals "_law_take" = some (some (.ref f9)))
    (l9 : K.lookup f9 = some ⟨oc9, od9, .func (PySem.W.fnOf "_law_take" "_law_take" (defArgs s_law_take) (defBody s_law_take) (defScope s_law_take) .none kV9 dc9 pm9 an9 cd9 ct9), sl9⟩)
    (c9 : PySem.W.codeIn K cd9 "_law_take" = true)
    (k9 : PySem.W.keepIn K (.ref f9) = true)
    (a10 : PySem.W.nsIn K mainGlobals "_law_row" = some (some (.ref f10)))
    (l10 : K.lookup f10 = some ⟨oc10, od10, .func (PySem.W.fnOf "_law_row" "_law_row" (defArgs s_law_row) (defBody s_law_row) (defScope s_law_row) .none kV10 dc10 pm10 an10 cd10 ct10), sl10⟩)
    (c10 : PySem.W.codeIn K cd10 "_law_row" = true)
    (k10 : PySem.W.keepIn K (.ref f10) = true)
    (a11 : PySem.W.nsIn K mainGlobals "_law_rows" = some (some (.ref f11)))
    (l11 : K.lookup f11 = some ⟨oc11, od11, .func (PySem.W.fnOf "_law_rows" "_law_rows" (defArgs s_law_rows) (defBody s_law_rows) (defScope s_law_rows) .none kV11 dc11 pm11 an11 cd11 ct11), sl11⟩)
    (c11 : PySem.W.codeIn K cd11 "_law_rows" = true)
    (k11 : PySem.W.keepIn K (.ref f11) = true)
    (a12 : PySem.W.nsIn K mainGlobals "_law_seq" = some (some (.ref f12)))
    (l12 : K.lookup f12 = some ⟨oc12, od12, .func (PySem.W.fnOf "_law_seq" "_law_seq" (defArgs s_law_seq) (defBody s_law_seq) (defScope s_law_seq) .none kV12 dc12 pm12 an12 cd12 ct12), sl12⟩)
    (c12 : PySem.W.codeIn K cd12 "_law_seq" = true)
    (k12 : PySem.W.keepIn K (.ref f12) = true)
    (a13 : PySem.W.nsIn K mainGlobals "_law_deep" = some (some (.ref f13)))
    (l13 : K.lookup f13 = some ⟨oc13, od13, .func (PySem.W.fnOf "_law_deep" "_law_deep" (defArgs s_law_deep) (defBody s_law_deep) (defScope s_law_deep) .none kV13 dc13 pm13 an13 cd13 ct13), sl13⟩)
    (c13 : PySem.W.codeIn K cd13 "_law_deep" = true)
    (k13 : PySem.W.keepIn K (.ref f13) = true)
    (a14 : PySem.W.nsIn K mainGlobals "_law_int" = some (some (.ref f14)))
    (l14 : K.lookup f14 = some ⟨oc14, od14, .func (PySem.W.fnOf "_law_int" "_law_int" (defArgs s_law_int) (defBody s_law_int) (defScope s_law_int) .none kV14 dc14 pm14 an14 cd14 ct14), sl14⟩)
    (c14 : PySem.W.codeIn K cd14 "_law_int" = true)
    (k14 : PySem.W.keepIn K (.ref f14) = true)
    (a15 : PySem.W.nsIn K mainGlobals "_law_rid" = some (some (.ref f15)))
    (l15 : K.lookup f15 = some ⟨oc15, od15, .func (PySem.W.fnOf "_law_rid" "_law_rid" (defArgs s_law_rid) (defBody s_law_rid) (defScope s_law_rid) .none kV15 dc15 pm15 an15 cd15 ct15), sl15⟩)
    (c15 : PySem.W.codeIn K cd15 "_law_rid" = true)
    (k15 : PySem.W.keepIn K (.ref f15) = true)
    (a16 : PySem.W.nsIn K mainGlobals "_law_number" = some (some (.ref f16)))
    (l16 : K.lookup f16 = some ⟨oc16, od16, .func (PySem.W.fnOf "_law_number" "_law_number" (defArgs s_law_number) (defBody s_law_number) (defScope s_law_number) .none kV16 dc16 pm16 an16 cd16 ct16), sl16⟩)
    (c16 : PySem.W.codeIn K cd16 "_law_number" = true)
    (k16 : PySem.W.keepIn K (.ref f16) = true)
    (a17 : PySem.W.nsIn K mainGlobals "_law_rows_drawn" = some (some (.ref f17)))
    (l17 : K.lookup f17 = some ⟨oc17, od17, .func (PySem.W.fnOf "_law_rows_drawn" "_law_rows_drawn" (defArgs s_law_rows_drawn) (defBody s_law_rows_drawn) (defScope s_law_rows_drawn) .none kV17 dc17 pm17 an17 cd17 ct17), sl17⟩)
    (c17 : PySem.W.codeIn K cd17 "_law_rows_drawn" = true)
    (k17 : PySem.W.keepIn K (.ref f17) = true)
    (a18 : PySem.W.nsIn K mainGlobals "_law_spoiled_rows" = some (some (.ref f18)))
    (l18 : K.lookup f18 = some ⟨oc18, od18, .func (PySem.W.fnOf "_law_spoiled_rows" "_law_spoiled_rows" (defArgs s_law_spoiled_rows) (defBody s_law_spoiled_rows) (defScope s_law_spoiled_rows) .none kV18 dc18 pm18 an18 cd18 ct18), sl18⟩)
    (c18 : PySem.W.codeIn K cd18 "_law_spoiled_rows" = true)
    (k18 : PySem.W.keepIn K (.ref f18) = true)
    (a19 : PySem.W.nsIn K mainGlobals "_law_table_due" = some (some (.ref f19)))
    (l19 : K.lookup f19 = some ⟨oc19, od19, .func (PySem.W.fnOf "_law_table_due" "_law_table_due" (defArgs s_law_table_due) (defBody s_law_table_due) (defScope s_law_table_due) .none kV19 dc19 pm19 an19 cd19 ct19), sl19⟩)
    (c19 : PySem.W.codeIn K cd19 "_law_table_due" = true)
    (k19 : PySem.W.keepIn K (.ref f19) = true)
    (a20 : PySem.W.nsIn K mainGlobals "_law_told_table" = some (some (.ref f20)))
    (l20 : K.lookup f20 = some ⟨oc20, od20, .func (PySem.W.fnOf "_law_told_table" "_law_told_table" (defArgs s_law_told_table) (defBody s_law_told_table) (defScope s_law_told_table) .none kV20 dc20 pm20 an20 cd20 ct20), sl20⟩)
    (c20 : PySem.W.codeIn K cd20 "_law_told_table" = true)
    (k20 : PySem.W.keepIn K (.ref f20) = true)
    (a21 : PySem.W.nsIn K mainGlobals "_law_parts_drawn" = some (some (.ref f21)))
    (l21 : K.lookup f21 = some ⟨oc21, od21, .func (PySem.W.fnOf "_law_parts_drawn" "_law_parts_drawn" (defArgs s_law_parts_drawn) (defBody s_law_parts_drawn) (defScope s_law_parts_drawn) .none kV21 dc21 pm21 an21 cd21 ct21), sl21⟩)
    (c21 : PySem.W.codeIn K cd21 "_law_parts_drawn" = true)
    (k21 : PySem.W.keepIn K (.ref f21) = true)
    (a22 : PySem.W.nsIn K mainGlobals "_law_parts_due" = some (some (.ref f22)))
    (l22 : K.lookup f22 = some ⟨oc22, od22, .func (PySem.W.fnOf "_law_parts_due" "_law_parts_due" (defArgs s_law_parts_due) (defBody s_law_parts_due) (defScope s_law_parts_due) .none kV22 dc22 pm22 an22 cd22 ct22), sl22⟩)
    (c22 : PySem.W.codeIn K cd22 "_law_parts_due" = true)
    (k22 : PySem.W.keepIn K (.ref f22) = true)
    (a23 : PySem.W.nsIn K mainGlobals "_law_told_shape" = some (some (.ref f23)))
    (l23 : K.lookup f23 = some ⟨oc23, od23, .func (PySem.W.fnOf "_law_told_shape" "_law_told_shape" (defArgs s_law_told_shape) (defBody s_law_told_shape) (defScope s_law_told_shape) .none kV23 dc23 pm23 an23 cd23 ct23), sl23⟩)
    (c23 : PySem.W.codeIn K cd23 "_law_told_shape" = true)
    (k23 : PySem.W.keepIn K (.ref f23) = true)
    (a24 : PySem.W.nsIn K mainGlobals "_law_told_kind" = some (some (.ref f24)))
    (l24 : K.lookup f24 = some ⟨oc24, od24, .func (PySem.W.fnOf "_law_told_kind" "_law_told_kind" (defArgs s_law_told_kind) (defBody s_law_told_kind) (defScope s_law_told_kind) .none kV24 dc24 pm24 an24 cd24 ct24), sl24⟩)
    (c24 : PySem.W.codeIn K cd24 "_law_told_kind" = true)
    (k24 : PySem.W.keepIn K (.ref f24) = true)
    (a25 : PySem.W.nsIn K mainGlobals "_law_told_prime" = some (some (.ref f25)))
    (l25 : K.lookup f25 = some ⟨oc25, od25, .func (PySem.W.fnOf "_law_told_prime" "_law_told_prime" (defArgs s_law_told_prime) (defBody s_law_told_prime) (defScope s_law_told_prime) .none kV25 dc25 pm25 an25 cd25 ct25), sl25⟩)
    (c25 : PySem.W.codeIn K cd25 "_law_told_prime" = true)
    (k25 : PySem.W.keepIn K (.ref f25) = true)
    (a26 : PySem.W.nsIn K mainGlobals "_law_right" = some (some (.ref f26)))
    (l26 : K.lookup f26 = some ⟨oc26, od26, .func (PySem.W.fnOf "_law_right" "_law_right" (defArgs s_law_right) (defBody s_law_right) (defScope s_law_right) .none kV26 dc26 pm26 an26 cd26 ct26), sl26⟩)
    (c26 : PySem.W.codeIn K cd26 "_law_right" = true)
    (k26 : PySem.W.keepIn K (.ref f26) = true)
    (a27 : PySem.W.nsIn K mainGlobals "_law_hand" = some (some (.ref f27)))
    (l27 : K.lookup f27 = some ⟨oc27, od27, .func (PySem.W.fnOf "_law_hand" "_law_hand" (defArgs s_law_hand) (defBody s_law_hand) (defScope s_law_hand) .none kV27 dc27 pm27 an27 cd27 ct27), sl27⟩)
    (c27 : PySem.W.codeIn K cd27 "_law_hand" = true)
    (k27 : PySem.W.keepIn K (.ref f27) = true)
    (a28 : PySem.W.nsIn K mainGlobals "law" = some (some (.ref f28)))
    (l28 : K.lookup f28 = some ⟨oc28, od28, .func (PySem.W.fnOf "law" "law" (defArgs s_law) (defBody s_law) (defScope s_law) .none kV28 dc28 pm28 an28 cd28 ct28), sl28⟩)
    (c28 : PySem.W.codeIn K cd28 "law" = true)
    (k28 : PySem.W.keepIn K (.ref f28) = true)
    (z_isinstance : PySem.W.nsIn K mainGlobals "isinstance" = some none)
    (z_bool : PySem.W.nsIn K mainGlobals "bool" = some none)
    (z_int : PySem.W.nsIn K mainGlobals "int" = some none)
    (z_list : PySem.W.nsIn K mainGlobals "list" = some none)
    (z_tuple : PySem.W.nsIn K mainGlobals "tuple" = some none)
    (z_len : PySem.W.nsIn K mainGlobals "len" = some none)
    (z_range : PySem.W.nsIn K mainGlobals "range" = some none)
    (z_min : PySem.W.nsIn K mainGlobals "min" = some none)
    (z_sorted : PySem.W.nsIn K mainGlobals "sorted" = some none)
    (z_repr : PySem.W.nsIn K mainGlobals "repr" = some none)
    (z_ValueError : PySem.W.nsIn K mainGlobals "ValueError" = some none)
    (z_abs : PySem.W.nsIn K mainGlobals "abs" = some none)
    (sg : PySem.W.specialIn K (.builtin "object.__class__") "__get__" = some (some (.builtin "getset_descriptor.__get__")))
    (tk : PySem.W.takesIn K (.builtin "object.__class__") = some true)
    (aC_BadPrime : PySem.W.nsIn K mainGlobals "BadPrime" = some (some (.ref C_BadPrime)))
    (eC_BadPrime : PySem.W.subIn K (.ref C_BadPrime) (.type "BaseException") = some true)
    (tC_BadPrime : PySem.W.typeIn K (.ref C_BadPrime) = some (.type "type"))
    (aC_BadTable : PySem.W.nsIn K mainGlobals "BadTable" = some (some (.ref C_BadTable)))
    (eC_BadTable : PySem.W.subIn K (.ref C_BadTable) (.type "BaseException") = some true)
    (tC_BadTable : PySem.W.typeIn K (.ref C_BadTable) = some (.type "type"))
    (aC_BadShape : PySem.W.nsIn K mainGlobals "BadShape" = some (some (.ref C_BadShape)))
    (eC_BadShape : PySem.W.subIn K (.ref C_BadShape) (.type "BaseException") = some true)
    (tC_BadShape : PySem.W.typeIn K (.ref C_BadShape) = some (.type "type"))
    (aC_BadKind : PySem.W.nsIn K mainGlobals "BadKind" = some (some (.ref C_BadKind)))
    (eC_BadKind : PySem.W.subIn K (.ref C_BadKind) (.type "BaseException") = some true)
    (tC_BadKind : PySem.W.typeIn K (.ref C_BadKind) = some (.type "type"))
    (aC_TableError : PySem.W.nsIn K mainGlobals "TableError" = some (some (.ref C_TableError)))
    (eC_TableError : PySem.W.subIn K (.ref C_TableError) (.type "BaseException") = some true)
    (tC_TableError : PySem.W.typeIn K (.ref C_TableError) = some (.type "type"))
    (ga_BadPrime : PySem.W.findIn K (.ref C_BadPrime) "__getattribute__" = some (some (.builtin "BaseException.__getattribute__")))
    (gg_BadPrime : PySem.W.findIn K (.ref C_BadPrime) "__getattr__" = some none)
    (hC_BadPrime : PySem.W.hasDictIn K C_BadPrime = true)
    (kC_BadPrime : PySem.W.keepIn K (.ref C_BadPrime) = true)
    (cl_BadPrime : PySem.W.findIn K (.ref C_BadPrime) "__class__" = some (some (.builtin "object.__class__")))
    (mo_BadPrime : PySem.W.mroIn K C_BadPrime (.type "object") = some true)
    (vE_BadPrime : PySem.W.subIn K (.ref C_BadPrime) (.type "ValueError") = some true)
    (xL_BadPrime : K.lookup C_BadPrime = some (excClassObj nm_BadPrime q_BadPrime C_BadPrime N_BadPrime bs_BadPrime [.ref B_TableError, .type "ValueError", .type "Exception", .type "BaseException", .type "object"] true sn_BadPrime sub_BadPrime ab_BadPrime col_BadPrime dd_BadPrime k0_BadPrime k1_BadPrime k2_BadPrime k3_BadPrime k5_BadPrime "ValueError.__new__"))
    (sa_BadPrime : PySem.W.findIn K (.ref C_BadPrime) "__setattr__" = some (some (.builtin "object.__setattr__")))
    (no0_BadPrime : PySem.W.findIn K (.ref C_BadPrime) "prime" = some none)
    (iC_BadPrime : PySem.W.findIn K (.ref C_BadPrime) "__init__" = some (some (.ref fI_BadPrime)))
    (tI_BadPrime : PySem.W.typeIn K (.ref fI_BadPrime) = some (.type "function"))
    (lI_BadPrime : K.lookup fI_BadPrime = some ⟨oci_BadPrime, odi_BadPrime, .func (PySem.W.fnOf "__init__" "BadPrime.__init__" (defArgs s_BadPrime) (defBody s_BadPrime) (defScope s_BadPrime) .none kVi_BadPrime dci_BadPrime pmi_BadPrime ani_BadPrime cdi_BadPrime cti_BadPrime), sli_BadPrime⟩)
    (cI_BadPrime : PySem.W.codeIn K cdi_BadPrime "BadPrime.__init__" = true)
    (ga_BadTable : PySem.W.findIn K (.ref C_BadTable) "__getattribute__" = some (some (.builtin "BaseException.__getattribute__")))
    (gg_BadTable : PySem.W.findIn K (.ref C_BadTable) "__getattr__" = some none)
    (hC_BadTable : PySem.W.hasDictIn K C_BadTable = true)
    (kC_BadTable : PySem.W.keepIn K (.ref C_BadTable) = true)
    (cl_BadTable : PySem.W.findIn K (.ref C_BadTable) "__class__" = some (some (.builtin "object.__class__")))
    (mo_BadTable : PySem.W.mroIn K C_BadTable (.type "object") = some true)
    (vE_BadTable : PySem.W.subIn K (.ref C_BadTable) (.type "ValueError") = some true)
    (xL_BadTable : K.lookup C_BadTable = some (excClassObj nm_BadTable q_BadTable C_BadTable N_BadTable bs_BadTable [.ref B_TableError, .type "ValueError", .type "Exception", .type "BaseException", .type "object"] true sn_BadTable sub_BadTable ab_BadTable col_BadTable dd_BadTable k0_BadTable k1_BadTable k2_BadTable k3_BadTable k5_BadTable "ValueError.__new__"))
    (sa_BadTable : PySem.W.findIn K (.ref C_BadTable) "__setattr__" = some (some (.builtin "object.__setattr__")))
    (no0_BadTable : PySem.W.findIn K (.ref C_BadTable) "what" = some none)
    (iC_BadTable : PySem.W.findIn K (.ref C_BadTable) "__init__" = some (some (.ref fI_BadTable)))
    (tI_BadTable : PySem.W.typeIn K (.ref fI_BadTable) = some (.type "function"))
    (lI_BadTable : K.lookup fI_BadTable = some ⟨oci_BadTable, odi_BadTable, .func (PySem.W.fnOf "__init__" "BadTable.__init__" (defArgs s_BadTable) (defBody s_BadTable) (defScope s_BadTable) .none kVi_BadTable dci_BadTable pmi_BadTable ani_BadTable cdi_BadTable cti_BadTable), sli_BadTable⟩)
    (cI_BadTable : PySem.W.codeIn K cdi_BadTable "BadTable.__init__" = true)
    (ga_BadShape : PySem.W.findIn K (.ref C_BadShape) "__getattribute__" = some (some (.builtin "BaseException.__getattribute__")))
    (gg_BadShape : PySem.W.findIn K (.ref C_BadShape) "__getattr__" = some none)
    (hC_BadShape : PySem.W.hasDictIn K C_BadShape = true)
    (kC_BadShape : PySem.W.keepIn K (.ref C_BadShape) = true)
    (cl_BadShape : PySem.W.findIn K (.ref C_BadShape) "__class__" = some (some (.builtin "object.__class__")))
    (mo_BadShape : PySem.W.mroIn K C_BadShape (.type "object") = some true)
    (vE_BadShape : PySem.W.subIn K (.ref C_BadShape) (.type "ValueError") = some true)
    (xL_BadShape : K.lookup C_BadShape = some (excClassObj nm_BadShape q_BadShape C_BadShape N_BadShape bs_BadShape [.ref B_TableError, .type "ValueError", .type "Exception", .type "BaseException", .type "object"] true sn_BadShape sub_BadShape ab_BadShape col_BadShape dd_BadShape k0_BadShape k1_BadShape k2_BadShape k3_BadShape k5_BadShape "ValueError.__new__"))
    (sa_BadShape : PySem.W.findIn K (.ref C_BadShape) "__setattr__" = some (some (.builtin "object.__setattr__")))
    (no0_BadShape : PySem.W.findIn K (.ref C_BadShape) "what" = some none)
    (iC_BadShape : PySem.W.findIn K (.ref C_BadShape) "__init__" = some (some (.ref fI_BadShape)))
    (tI_BadShape : PySem.W.typeIn K (.ref fI_BadShape) = some (.type "function"))
    (lI_BadShape : K.lookup fI_BadShape = some ⟨oci_BadShape, odi_BadShape, .func (PySem.W.fnOf "__init__" "BadShape.__init__" (defArgs s_BadShape) (defBody s_BadShape) (defScope s_BadShape) .none kVi_BadShape dci_BadShape pmi_BadShape ani_BadShape cdi_BadShape cti_BadShape), sli_BadShape⟩)
    (cI_BadShape : PySem.W.codeIn K cdi_BadShape "BadShape.__init__" = true)
    (ga_BadKind : PySem.W.findIn K (.ref C_BadKind) "__getattribute__" = some (some (.builtin "BaseException.__getattribute__")))
    (gg_BadKind : PySem.W.findIn K (.ref C_BadKind) "__getattr__" = some none)
    (hC_BadKind : PySem.W.hasDictIn K C_BadKind = true)
    (kC_BadKind : PySem.W.keepIn K (.ref C_BadKind) = true)
    (cl_BadKind : PySem.W.findIn K (.ref C_BadKind) "__class__" = some (some (.builtin "object.__class__")))
    (mo_BadKind : PySem.W.mroIn K C_BadKind (.type "object") = some true)
    (vE_BadKind : PySem.W.subIn K (.ref C_BadKind) (.type "ValueError") = some true)
    (xL_BadKind : K.lookup C_BadKind = some (excClassObj nm_BadKind q_BadKind C_BadKind N_BadKind bs_BadKind [.ref B_TableError, .type "ValueError", .type "Exception", .type "BaseException", .type "object"] true sn_BadKind sub_BadKind ab_BadKind col_BadKind dd_BadKind k0_BadKind k1_BadKind k2_BadKind k3_BadKind k5_BadKind "ValueError.__new__"))
    (sa_BadKind : PySem.W.findIn K (.ref C_BadKind) "__setattr__" = some (some (.builtin "object.__setattr__")))
    (no0_BadKind : PySem.W.findIn K (.ref C_BadKind) "what" = some none)
    (iC_BadKind : PySem.W.findIn K (.ref C_BadKind) "__init__" = some (some (.ref fI_BadKind)))
    (tI_BadKind : PySem.W.typeIn K (.ref fI_BadKind) = some (.type "function"))
    (lI_BadKind : K.lookup fI_BadKind = some ⟨oci_BadKind, odi_BadKind, .func (PySem.W.fnOf "__init__" "BadKind.__init__" (defArgs s_BadKind) (defBody s_BadKind) (defScope s_BadKind) .none kVi_BadKind dci_BadKind pmi_BadKind ani_BadKind cdi_BadKind cti_BadKind), sli_BadKind⟩)
    (cI_BadKind : PySem.W.codeIn K cdi_BadKind "BadKind.__init__" = true)
    (is_BadTable : PySem.W.isClsIn K C_BadTable = true)
    (ss_BadTable : PySem.W.subIn K (.ref C_BadTable) (.ref C_BadTable) = some true)
    (su_BadPrime_BadTable : PySem.W.subIn K (.ref C_BadPrime) (.ref C_BadTable) = some false)
    (su_BadTable_BadTable : PySem.W.subIn K (.ref C_BadTable) (.ref C_BadTable) = some true)
    (su_BadShape_BadTable : PySem.W.subIn K (.ref C_BadShape) (.ref C_BadTable) = some false)
    (su_BadKind_BadTable : PySem.W.subIn K (.ref C_BadKind) (.ref C_BadTable) = some false)
    (is_TableError : PySem.W.isClsIn K C_TableError = true)
    (ss_TableError : PySem.W.subIn K (.ref C_TableError) (.ref C_TableError) = some true)
    (su_BadPrime_TableError : PySem.W.subIn K (.ref C_BadPrime) (.ref C_TableError) = some true)
    (su_BadTable_TableError : PySem.W.subIn K (.ref C_BadTable) (.ref C_TableError) = some true)
    (su_BadShape_TableError : PySem.W.subIn K (.ref C_BadShape) (.ref C_TableError) = some true)
    (su_BadKind_TableError : PySem.W.subIn K (.ref C_BadKind) (.ref C_TableError) = some true)
    (is_BadShape : PySem.W.isClsIn K C_BadShape = true)
    (ss_BadShape : PySem.W.subIn K (.ref C_BadShape) (.ref C_BadShape) = some true)
    (su_BadPrime_BadShape : PySem.W.subIn K (.ref C_BadPrime) (.ref C_BadShape) = some false)
    (su_BadTable_BadShape : PySem.W.subIn K (.ref C_BadTable) (.ref C_BadShape) = some false)
    (su_BadShape_BadShape : PySem.W.subIn K (.ref C_BadShape) (.ref C_BadShape) = some true)
    (su_BadKind_BadShape : PySem.W.subIn K (.ref C_BadKind) (.ref C_BadShape) = some false)
    (is_BadKind : PySem.W.isClsIn K C_BadKind = true)
    (ss_BadKind : PySem.W.subIn K (.ref C_BadKind) (.ref C_BadKind) = some true)
    (su_BadPrime_BadKind : PySem.W.subIn K (.ref C_BadPrime) (.ref C_BadKind) = some false)
    (su_BadTable_BadKind : PySem.W.subIn K (.ref C_BadTable) (.ref C_BadKind) = some false)
    (su_BadShape_BadKind : PySem.W.subIn K (.ref C_BadShape) (.ref C_BadKind) = some false)
    (su_BadKind_BadKind : PySem.W.subIn K (.ref C_BadKind) (.ref C_BadKind) = some true)
    (is_BadPrime : PySem.W.isClsIn K C_BadPrime = true)
    (ss_BadPrime : PySem.W.subIn K (.ref C_BadPrime) (.ref C_BadPrime) = some true)
    (su_BadPrime_BadPrime : PySem.W.subIn K (.ref C_BadPrime) (.ref C_BadPrime) = some true)
    (su_BadTable_BadPrime : PySem.W.subIn K (.ref C_BadTable) (.ref C_BadPrime) = some false)
    (su_BadShape_BadPrime : PySem.W.subIn K (.ref C_BadShape) (.ref C_BadPrime) = some false)
    (su_BadKind_BadPrime : PySem.W.subIn K (.ref C_BadKind) (.ref C_BadPrime) = some false) :
    ∃ fd : FuncData, (∀ (s : Shared) (v : Value), BindsTo s fd ⟨[v], []⟩ [("_law_script", v)]) ∧ ∀ base : Heap, K.In base → base.Ns mainGlobals mg → FnG l.prog w K mg base 23 fa fd ["_law_script"] (spLaw K) := by
  have e := hfa.symm.trans (PySem.W.mg_of X G a28)
  cases e
  have tab : Table K mg defs sy := by
    refine ⟨?_, ?_, ?_⟩
    · refine List.forall_mem_cons.mpr ⟨mkDefD (d := d_is_whole) (its := ([.none, .none] : List Value)) X G a0 l0 c0 k0 f_is_whole t0 rfl (.cons rfl (.cons rfl (.nil))) rfl (by simp [d_is_whole]) (by decide) (fun j hj => match j, hj with | 0, _ => (fun us hl => match us, hl with | [_], _ => ⟨_, rfl, rfl⟩) | 1, _ => (fun us hl => match us, hl with | [_, _], _ => ⟨_, rfl, rfl⟩) | 2, _ => (fun us hl => match us, hl with | [_, _, _], _ => ⟨_, rfl, rfl⟩) | n + 3, hj => absurd hj (by show ¬ (n + 3 ≤ 2); omega)), ?_⟩
      refine List.forall_mem_cons.mpr ⟨mkDef (d := d_is_sequence) X G a1 l1 c1 k1 f_is_sequence rfl (fun us hl => match us, hl with | [_], _ => rfl), ?_⟩
      refine List.forall_mem_cons.mpr ⟨mkDef (d := d_check_prime) X G a2 l2 c2 k2 f_check_prime rfl (fun us hl => match us, hl with | [_], _ => rfl), ?_⟩
      refine List.forall_mem_cons.mpr ⟨mkDef (d := d_check_rows) X G a3 l3 c3 k3 f_check_rows rfl (fun us hl => match us, hl with | [_], _ => rfl), ?_⟩
      refine List.forall_mem_cons.mpr ⟨mkDefD (d := d_check_table) (its := ([.str "any" tk4_0] : List Value)) X G a4 l4 c4 k4 f_check_table t4 rfl (.cons ⟨_, rfl⟩ (.nil)) rfl (by simp [d_check_table]) (by decide) (fun j hj => match j, hj with | 0, _ => (fun us hl => match us, hl with | [_], _ => ⟨_, rfl, rfl⟩) | 1, _ => (fun us hl => match us, hl with | [_, _], _ => ⟨_, rfl, rfl⟩) | n + 2, hj => absurd hj (by show ¬ (n + 2 ≤ 1); omega)), ?_⟩
      refine List.forall_mem_cons.mpr ⟨mkDef (d := d_parts_fault) X G a5 l5 c5 k5 f_parts_fault rfl (fun us hl => match us, hl with | [_, _], _ => rfl), ?_⟩
      refine List.forall_mem_cons.mpr ⟨mkDefD (d := d_check_shape) (its := ([.none, .int (4) tk6_1] : List Value)) X G a6 l6 c6 k6 f_check_shape t6 rfl (.cons rfl (.cons ⟨_, rfl⟩ (.nil))) rfl (by simp [d_check_shape]) (by decide) (fun j hj => match j, hj with | 0, _ => (fun us hl => match us, hl with | [_], _ => ⟨_, rfl, rfl⟩) | 1, _ => (fun us hl => match us, hl with | [_, _], _ => ⟨_, rfl, rfl⟩) | 2, _ => (fun us hl => match us, hl with | [_, _, _], _ => ⟨_, rfl, rfl⟩) | n + 3, hj => absurd hj (by show ¬ (n + 3 ≤ 2); omega)), ?_⟩
      refine List.forall_mem_cons.mpr ⟨mkDefD (d := d_check_kind) (its := ([.int (24) tk7_0] : List Value)) X G a7 l7 c7 k7 f_check_kind t7 rfl (.cons ⟨_, rfl⟩ (.nil)) rfl (by simp [d_check_kind]) (by decide) (fun j hj => match j, hj with | 0, _ => (fun us hl => match us, hl with | [_], _ => ⟨_, rfl, rfl⟩) | 1, _ => (fun us hl => match us, hl with | [_, _], _ => ⟨_, rfl, rfl⟩) | n + 2, hj => absurd hj (by show ¬ (n + 2 ≤ 1); omega)), ?_⟩
      refine List.forall_mem_cons.mpr ⟨mkDef (d := d_law_mixed) X G a8 l8 c8 k8 f_law_mixed rfl (fun us hl => match us, hl with | [_, _], _ => rfl), ?_⟩
      refine List.forall_mem_cons.mpr ⟨mkDef (d := d_law_take) X G a9 l9 c9 k9 f_law_take rfl (fun us hl => match us, hl with | [_, _], _ => rfl), ?_⟩
      refine List.forall_mem_cons.mpr ⟨mkDef (d := d_law_row) X G a10 l10 c10 k10 f_law_row rfl (fun us hl => match us, hl with | [_, _], _ => rfl), ?_⟩
      refine List.forall_mem_cons.mpr ⟨mkDef (d := d_law_rows) X G a11 l11 c11 k11 f_law_rows rfl (fun us hl => match us, hl with | [_, _], _ => rfl), ?_⟩
      refine List.forall_mem_cons.mpr ⟨mkDef (d := d_law_seq) X G a12 l12 c12 k12 f_law_seq rfl (fun us hl => match us, hl with | [_], _ => rfl), ?_⟩
      refine List.forall_mem_cons.mpr ⟨mkDef (d := d_law_deep) X G a13 l13 c13 k13 f_law_deep rfl (fun us hl => match us, hl with | [_], _ => rfl), ?_⟩
      refine List.forall_mem_cons.mpr ⟨mkDef (d := d_law_int) X G a14 l14 c14 k14 f_law_int rfl (fun us hl => match us, hl with | [_], _ => rfl), ?_⟩
      refine List.forall_mem_cons.mpr ⟨mkDef (d := d_law_rid) X G a15 l15 c15 k15 f_law_rid rfl (fun us hl => match us, hl with | [_], _ => rfl), ?_⟩
      refine List.forall_mem_cons.mpr ⟨mkDef (d := d_law_number) X G a16 l16 c16 k16 f_law_number rfl (fun us hl => match us, hl with | [_], _ => rfl), ?_⟩
      refine List.forall_mem_cons.mpr ⟨mkDef (d := d_law_rows_drawn) X G a17 l17 c17 k17 f_law_rows_drawn rfl (fun us hl => match us, hl with | [_], _ => rfl), ?_⟩
      refine List.forall_mem_cons.mpr ⟨mkDef (d := d_law_spoiled_rows) X G a18 l18 c18 k18 f_law_spoiled_rows rfl (fun us hl => match us, hl with | [_, _], _ => rfl), ?_⟩
      refine List.forall_mem_cons.mpr ⟨mkDef (d := d_law_table_due) X G a19 l19 c19 k19 f_law_table_due rfl (fun us hl => match us, hl with | [_, _], _ => rfl), ?_⟩
      refine List.forall_mem_cons.mpr ⟨mkDef (d := d_law_told_table) X G a20 l20 c20 k20 f_law_told_table rfl (fun us hl => match us, hl with | [_, _, _], _ => rfl), ?_⟩
      refine List.forall_mem_cons.mpr ⟨mkDef (d := d_law_parts_drawn) X G a21 l21 c21 k21 f_law_parts_drawn rfl (fun us hl => match us, hl with | [_, _], _ => rfl), ?_⟩
      refine List.forall_mem_cons.mpr ⟨mkDef (d := d_law_parts_due) X G a22 l22 c22 k22 f_law_parts_due rfl (fun us hl => match us, hl with | [_, _, _, _], _ => rfl), ?_⟩
      refine List.forall_mem_cons.mpr ⟨mkDef (d := d_law_told_shape) X G a23 l23 c23 k23 f_law_told_shape rfl (fun us hl => match us, hl with | [_, _, _], _ => rfl), ?_⟩
      refine List.forall_mem_cons.mpr ⟨mkDef (d := d_law_told_kind) X G a24 l24 c24 k24 f_law_told_kind rfl (fun us hl => match us, hl with | [_, _], _ => rfl), ?_⟩
      refine List.forall_mem_cons.mpr ⟨mkDef (d := d_law_told_prime) X G a25 l25 c25 k25 f_law_told_prime rfl (fun us hl => match us, hl with | [_], _ => rfl), ?_⟩
      refine List.forall_mem_cons.mpr ⟨mkDef (d := d_law_right) X G a26 l26 c26 k26 f_law_right rfl (fun us hl => match us, hl with | [_, _, _], _ => rfl), ?_⟩
      exact fun _ z => by cases z
    · refine List.forall_mem_cons.mpr ⟨⟨[], 40, 40, by rw [nm_eq]; exact c_is_whole⟩, ?_⟩
      refine List.forall_mem_cons.mpr ⟨⟨[], 40, 40, by rw [nm_eq]; exact c_is_sequence⟩, ?_⟩
      refine List.forall_mem_cons.mpr ⟨⟨[], 40, 40, by rw [nm_eq]; exact c_check_prime⟩, ?_⟩
      refine List.forall_mem_cons.mpr ⟨⟨[], 40, 40, by rw [nm_eq]; exact c_check_rows⟩, ?_⟩
      refine List.forall_mem_cons.mpr ⟨⟨[], 40, 40, by rw [nm_eq]; exact c_check_table⟩, ?_⟩
      refine List.forall_mem_cons.mpr ⟨⟨[], 40, 40, by rw [nm_eq]; exact c_parts_fault⟩, ?_⟩
      refine List.forall_mem_cons.mpr ⟨⟨[], 40, 40, by rw [nm_eq]; exact c_check_shape⟩, ?_⟩
      refine List.forall_mem_cons.mpr ⟨⟨[], 40, 40, by rw [nm_eq]; exact c_check_kind⟩, ?_⟩
      refine List.forall_mem_cons.mpr ⟨⟨[], 40, 40, by rw [nm_eq]; exact c_law_mixed⟩, ?_⟩
      refine List.forall_mem_cons.mpr ⟨⟨[], 40, 40, by rw [nm_eq]; exact c_law_take⟩, ?_⟩
      refine List.forall_mem_cons.mpr ⟨⟨[], 40, 40, by rw [nm_eq]; exact c_law_row⟩, ?_⟩
      refine List.forall_mem_cons.mpr ⟨⟨[], 40, 40, by rw [nm_eq]; exact c_law_rows⟩, ?_⟩
      refine List.forall_mem_cons.mpr ⟨⟨[], 40, 40, by rw [nm_eq]; exact c_law_seq⟩, ?_⟩
      refine List.forall_mem_cons.mpr ⟨⟨[], 40, 40, by rw [nm_eq]; exact c_law_deep⟩, ?_⟩
      refine List.forall_mem_cons.mpr ⟨⟨[], 40, 40, by rw [nm_eq]; exact c_law_int⟩, ?_⟩
      refine List.forall_mem_cons.mpr ⟨⟨[], 40, 40, by rw [nm_eq]; exact c_law_rid⟩, ?_⟩
      refine List.forall_mem_cons.mpr ⟨⟨[], 40, 40, by rw [nm_eq]; exact c_law_number⟩, ?_⟩
      refine List.forall_mem_cons.mpr ⟨⟨[], 40, 40, by rw [nm_eq]; exact c_law_rows_drawn⟩, ?_⟩
      refine List.forall_mem_cons.mpr ⟨⟨["_law_told"], 40, 40, by rw [nm_eq]; exact c_law_spoiled_rows⟩, ?_⟩
      refine List.forall_mem_cons.mpr ⟨⟨[], 40, 40, by rw [nm_eq]; exact c_law_table_due⟩, ?_⟩
      refine List.forall_mem_cons.mpr ⟨⟨[], 40, 40, by rw [nm_eq]; exact c_law_told_table⟩, ?_⟩
      refine List.forall_mem_cons.mpr ⟨⟨[], 40, 40, by rw [nm_eq]; exact c_law_parts_drawn⟩, ?_⟩
      refine List.forall_mem_cons.mpr ⟨⟨[], 40, 40, by rw [nm_eq]; exact c_law_parts_due⟩, ?_⟩
      refine List.forall_mem_cons.mpr ⟨⟨[], 40, 40, by rw [nm_eq]; exact c_law_told_shape⟩, ?_⟩
      refine List.forall_mem_cons.mpr ⟨⟨[], 40, 40, by rw [nm_eq]; exact c_law_told_kind⟩, ?_⟩
      refine List.forall_mem_cons.mpr ⟨⟨[], 40, 40, by rw [nm_eq]; exact c_law_told_prime⟩, ?_⟩
      refine List.forall_mem_cons.mpr ⟨⟨[], 40, 40, by rw [nm_eq]; exact c_law_right⟩, ?_⟩
      exact fun _ z => by cases z
    · refine List.forall_mem_cons.mpr ⟨PySem.W.mg_none_of X G z_isinstance, ?_⟩
      refine List.forall_mem_cons.mpr ⟨PySem.W.mg_none_of X G z_bool, ?_⟩
      refine List.forall_mem_cons.mpr ⟨PySem.W.mg_none_of X G z_int, ?_⟩
      refine List.forall_mem_cons.mpr ⟨PySem.W.mg_none_of X G z_list, ?_⟩
      refine List.forall_mem_cons.mpr ⟨PySem.W.mg_none_of X G z_tuple, ?_⟩
      refine List.forall_mem_cons.mpr ⟨PySem.W.mg_none_of X G z_len, ?_⟩
      refine List.forall_mem_cons.mpr ⟨PySem.W.mg_none_of X G z_range, ?_⟩
      refine List.forall_mem_cons.mpr ⟨PySem.W.mg_none_of X G z_min, ?_⟩
      refine List.forall_mem_cons.mpr ⟨PySem.W.mg_none_of X G z_sorted, ?_⟩
      refine List.forall_mem_cons.mpr ⟨PySem.W.mg_none_of X G z_repr, ?_⟩
      refine List.forall_mem_cons.mpr ⟨PySem.W.mg_none_of X G z_ValueError, ?_⟩
      exact fun _ z => by cases z
  have S : ∀ base : Heap, SyAt l.prog w K mg base sy (fun i => ([C_BadPrime, C_BadTable, C_BadShape, C_BadKind] : List Addr).getD i 0) := fun base => by
    refine ⟨all2.mpr ?_, ?_, ?_⟩
    · refine List.forall_mem_cons.mpr ⟨mkCls1 (st0 := s_BadPrime) X G sg tk aC_BadPrime xL_BadPrime rfl sa_BadPrime ga_BadPrime gg_BadPrime eC_BadPrime tC_BadPrime hC_BadPrime kC_BadPrime cl_BadPrime mo_BadPrime vE_BadPrime (List.forall_mem_cons.mpr ⟨no0_BadPrime, (fun _ z => by cases z)⟩) iC_BadPrime tI_BadPrime lI_BadPrime cI_BadPrime f_BadPrime (by decide +kernel) .one (by decide +kernel) (fun us hl => match us, hl with | [_, _], _ => rfl), ?_⟩
      refine List.forall_mem_cons.mpr ⟨mkCls1 (st0 := s_BadTable) X G sg tk aC_BadTable xL_BadTable rfl sa_BadTable ga_BadTable gg_BadTable eC_BadTable tC_BadTable hC_BadTable kC_BadTable cl_BadTable mo_BadTable vE_BadTable (List.forall_mem_cons.mpr ⟨no0_BadTable, (fun _ z => by cases z)⟩) iC_BadTable tI_BadTable lI_BadTable cI_BadTable f_BadTable (by decide +kernel) .one (by decide +kernel) (fun us hl => match us, hl with | [_, _], _ => rfl), ?_⟩
      refine List.forall_mem_cons.mpr ⟨mkCls1 (st0 := s_BadShape) X G sg tk aC_BadShape xL_BadShape rfl sa_BadShape ga_BadShape gg_BadShape eC_BadShape tC_BadShape hC_BadShape kC_BadShape cl_BadShape mo_BadShape vE_BadShape (List.forall_mem_cons.mpr ⟨no0_BadShape, (fun _ z => by cases z)⟩) iC_BadShape tI_BadShape lI_BadShape cI_BadShape f_BadShape (by decide +kernel) .one (by decide +kernel) (fun us hl => match us, hl with | [_, _], _ => rfl), ?_⟩
      refine List.forall_mem_cons.mpr ⟨mkCls1 (st0 := s_BadKind) X G sg tk aC_BadKind xL_BadKind rfl sa_BadKind ga_BadKind gg_BadKind eC_BadKind tC_BadKind hC_BadKind kC_BadKind cl_BadKind mo_BadKind vE_BadKind (List.forall_mem_cons.mpr ⟨no0_BadKind, (fun _ z => by cases z)⟩) iC_BadKind tI_BadKind lI_BadKind cI_BadKind f_BadKind (by decide +kernel) .one (by decide +kernel) (fun us hl => match us, hl with | [_, _], _ => rfl), ?_⟩
      exact fun _ z => by cases z
    · refine List.forall_mem_cons.mpr ⟨⟨C_BadTable, PySem.W.mg_of X G aC_BadTable, all2.mpr (List.forall_mem_cons.mpr ⟨kit_rr eC_BadTable is_BadTable tC_BadTable ss_BadTable su_BadPrime_BadTable, (List.forall_mem_cons.mpr ⟨kit_rr eC_BadTable is_BadTable tC_BadTable ss_BadTable su_BadTable_BadTable, (List.forall_mem_cons.mpr ⟨kit_rr eC_BadTable is_BadTable tC_BadTable ss_BadTable su_BadShape_BadTable, (List.forall_mem_cons.mpr ⟨kit_rr eC_BadTable is_BadTable tC_BadTable ss_BadTable su_BadKind_BadTable, (fun _ z => by cases z)⟩)⟩)⟩)⟩)⟩, ?_⟩
      refine List.forall_mem_cons.mpr ⟨⟨C_TableError, PySem.W.mg_of X G aC_TableError, all2.mpr (List.forall_mem_cons.mpr ⟨kit_rr eC_TableError is_TableError tC_TableError ss_TableError su_BadPrime_TableError, (List.forall_mem_cons.mpr ⟨kit_rr eC_TableError is_TableError tC_TableError ss_TableError su_BadTable_TableError, (List.forall_mem_cons.mpr ⟨kit_rr eC_TableError is_TableError tC_TableError ss_TableError su_BadShape_TableError, (List.forall_mem_cons.mpr ⟨kit_rr eC_TableError is_TableError tC_TableError ss_TableError su_BadKind_TableError, (fun _ z => by cases z)⟩)⟩)⟩)⟩)⟩, ?_⟩
      refine List.forall_mem_cons.mpr ⟨⟨C_BadShape, PySem.W.mg_of X G aC_BadShape, all2.mpr (List.forall_mem_cons.mpr ⟨kit_rr eC_BadShape is_BadShape tC_BadShape ss_BadShape su_BadPrime_BadShape, (List.forall_mem_cons.mpr ⟨kit_rr eC_BadShape is_BadShape tC_BadShape ss_BadShape su_BadTable_BadShape, (List.forall_mem_cons.mpr ⟨kit_rr eC_BadShape is_BadShape tC_BadShape ss_BadShape su_BadShape_BadShape, (List.forall_mem_cons.mpr ⟨kit_rr eC_BadShape is_BadShape tC_BadShape ss_BadShape su_BadKind_BadShape, (fun _ z => by cases z)⟩)⟩)⟩)⟩)⟩, ?_⟩
      refine List.forall_mem_cons.mpr ⟨⟨C_BadKind, PySem.W.mg_of X G aC_BadKind, all2.mpr (List.forall_mem_cons.mpr ⟨kit_rr eC_BadKind is_BadKind tC_BadKind ss_BadKind su_BadPrime_BadKind, (List.forall_mem_cons.mpr ⟨kit_rr eC_BadKind is_BadKind tC_BadKind ss_BadKind su_BadTable_BadKind, (List.forall_mem_cons.mpr ⟨kit_rr eC_BadKind is_BadKind tC_BadKind ss_BadKind su_BadShape_BadKind, (List.forall_mem_cons.mpr ⟨kit_rr eC_BadKind is_BadKind tC_BadKind ss_BadKind su_BadKind_BadKind, (fun _ z => by cases z)⟩)⟩)⟩)⟩)⟩, ?_⟩
      refine List.forall_mem_cons.mpr ⟨⟨C_BadPrime, PySem.W.mg_of X G aC_BadPrime, all2.mpr (List.forall_mem_cons.mpr ⟨kit_rr eC_BadPrime is_BadPrime tC_BadPrime ss_BadPrime su_BadPrime_BadPrime, (List.forall_mem_cons.mpr ⟨kit_rr eC_BadPrime is_BadPrime tC_BadPrime ss_BadPrime su_BadTable_BadPrime, (List.forall_mem_cons.mpr ⟨kit_rr eC_BadPrime is_BadPrime tC_BadPrime ss_BadPrime su_BadShape_BadPrime, (List.forall_mem_cons.mpr ⟨kit_rr eC_BadPrime is_BadPrime tC_BadPrime ss_BadPrime su_BadKind_BadPrime, (fun _ z => by cases z)⟩)⟩)⟩)⟩)⟩, ?_⟩
      exact fun _ z => by cases z
    · exact fun _ z => by cases z
  refine ⟨PySem.W.fnOf "law" "law" (defArgs s_law) (defBody s_law) (defScope s_law) .none kV28 dc28 pm28 an28 cd28 ct28, fun s v => .of_eq rfl, fun base _ _ => ?_⟩
  have hand := ok_hand (P := l.prog) (w := w) (mg := mg) (base := base) l27 c27 f_law_hand (.mk rfl) rfl rfl rfl rfl rfl rfl rfl (PySem.W.mg_none_of X G z_len) (PySem.W.mg_none_of X G z_int) (PySem.W.mg_none_of X G z_abs)
  exact law_ok (T := tbOf K defs sy (fun i => ([C_BadPrime, C_BadTable, C_BadShape, C_BadKind] : List Addr).getD i 0) 10 20) (u := 10) (B := b_law) l28 c28 f_law hand (PySem.W.mg_of X G a27) k27 (.all fun us hl => match us, hl with | [_], _ => rfl) .mk rfl rfl rfl rfl rfl
    (glb_of tab (S base) (tower tab (S base) 20)) ⟨[], 40, 40, by show compB (nmOf defs sy) _ _ (compE (nmOf defs sy) _ _ _) _ _ _ = _; rw [nm_eq]; exact c_law⟩ (by show 1 ≤ 22; decide) pure_law
end K00
open PySem PySem.W PyProof.Rows in
set_option maxRecDepth 100000 in
set_option maxHeartbeats 0 in
theorem PySem.Challenge.cw_threeshapes_k00_tables_shapes_and_kinds_holds : PySem.Challenge.rw_threeshapes_k00_tables_shapes_and_kinds.Holds := by
  w_on; o_law; k_head; (case hw => w_witness2)
  k_fill
  refine PD.walkG (l := PySem.Challenge.rw_threeshapes_k00_tables_shapes_and_kinds) (k := 23) rfl rfl ⟨rfl, by decide, by decide⟩ (fun w h Y => PySem.W.kIn_of Y) ?F
  case F =>
    intro w mg fa h KX G hmg
    refine' K00.all_mk KX G hmg ?a0 ?l0 ?c0 ?k0 ?t0 ?a1 ?l1 ?c1 ?k1 ?a2 ?l2 ?c2 ?k2 ?a3 ?l3 ?c3 ?k3 ?a4 ?l4 ?c4 ?k4 ?t4 ?a5 ?l5 ?c5 ?k5 ?a6 ?l6 ?c6 ?k6 ?t6 ?a7 ?l7 ?c7 ?k7 ?t7 ?a8 ?l8 ?c8 ?k8 ?a9 ?l9 ?c9 ?k9 ?a10 ?l10 ?c10 ?k10 ?a11 ?l11 ?c11 ?k11 ?a12 ?l12 ?c12 ?k12 ?a13 ?l13 ?c13 ?k13 ?a14 ?l14 ?c14 ?k14 ?a15 ?l15 ?c15 ?k15 ?a16 ?l16 ?c16 ?k16 ?a17 ?l17 ?c17 ?k17 ?a18 ?l18 ?c18 ?k18 ?a19 ?l19 ?c19 ?k19 ?a20 ?l20 ?c20 ?k20 ?a21 ?l21 ?c21 ?k21 ?a22 ?l22 ?c22 ?k22 ?a23 ?l23 ?c23 ?k23 ?a24 ?l24 ?c24 ?k24 ?a25 ?l25 ?c25 ?k25 ?a26 ?l26 ?c26 ?k26 ?a27 ?l27 ?c27 ?k27 ?a28 ?l28 ?c28 ?k28 ?z_isinstance ?z_bool ?z_int ?z_list ?z_tuple ?z_len ?z_range ?z_min ?z_sorted ?z_repr ?z_ValueError ?z_abs ?sg ?tk ?aC_BadPrime ?eC_BadPrime ?tC_BadPrime ?aC_BadTable ?eC_BadTable ?tC_BadTable ?aC_BadShape ?eC_BadShape ?tC_BadShape ?aC_BadKind ?eC_BadKind ?tC_BadKind ?aC_TableError ?eC_TableError ?tC_TableError ?ga_BadPrime ?gg_BadPrime ?hC_BadPrime ?kC_BadPrime ?cl_BadPrime ?mo_BadPrime ?vE_BadPrime ?xL_BadPrime ?sa_BadPrime ?no0_BadPrime ?iC_BadPrime ?tI_BadPrime ?lI_BadPrime ?cI_BadPrime ?ga_BadTable ?gg_BadTable ?hC_BadTable ?kC_BadTable ?cl_BadTable ?mo_BadTable ?vE_BadTable ?xL_BadTable ?sa_BadTable ?no0_BadTable ?iC_BadTable ?tI_BadTable ?lI_BadTable ?cI_BadTable ?ga_BadShape ?gg_BadShape ?hC_BadShape ?kC_BadShape ?cl_BadShape ?mo_BadShape ?vE_BadShape ?xL_BadShape ?sa_BadShape ?no0_BadShape ?iC_BadShape ?tI_BadShape ?lI_BadShape ?cI_BadShape ?ga_BadKind ?gg_BadKind ?hC_BadKind ?kC_BadKind ?cl_BadKind ?mo_BadKind ?vE_BadKind ?xL_BadKind ?sa_BadKind ?no0_BadKind ?iC_BadKind ?tI_BadKind ?lI_BadKind ?cI_BadKind ?is_BadTable ?ss_BadTable ?su_BadPrime_BadTable ?su_BadTable_BadTable ?su_BadShape_BadTable ?su_BadKind_BadTable ?is_TableError ?ss_TableError ?su_BadPrime_TableError ?su_BadTable_TableError ?su_BadShape_TableError ?su_BadKind_TableError ?is_BadShape ?ss_BadShape ?su_BadPrime_BadShape ?su_BadTable_BadShape ?su_BadShape_BadShape ?su_BadKind_BadShape ?is_BadKind ?ss_BadKind ?su_BadPrime_BadKind ?su_BadTable_BadKind ?su_BadShape_BadKind ?su_BadKind_BadKind ?is_BadPrime ?ss_BadPrime ?su_BadPrime_BadPrime ?su_BadTable_BadPrime ?su_BadShape_BadPrime ?su_BadKind_BadPrime
    (case a0 => k_is)
    (case l0 => k_is)
    (case c0 => k_is)
    (case k0 => k_is)
    (case t0 => k_is)
    (case a1 => k_is)
    (case l1 => k_is)
    (case c1 => k_is)
    (case k1 => k_is)
    (case a2 => k_is)
    (case l2 => k_is)
    (case c2 => k_is)
    (case k2 => k_is)
    (case a3 => k_is)
    (case l3 => k_is)
    (case c3 => k_is)
    (case k3 => k_is)
    (case a4 => k_is)
    (case l4 => k_is)
    (case c4 => k_is)
    (case k4 => k_is)
    (case t4 => k_is)
    (case a5 => k_is)
    (case l5 => k_is)
    (case c5 => k_is)
    (case k5 => k_is)
    (case a6 => k_is)
    (case l6 => k_is)
    (case c6 => k_is)
    (case k6 => k_is)
    (case t6 => k_is)
    (case a7 => k_is)
    (case l7 => k_is)
    (case c7 => k_is)
    (case k7 => k_is)
    (case t7 => k_is)
    (case a8 => k_is)
    (case l8 => k_is)
    (case c8 => k_is)
    (case k8 => k_is)
    (case a9 => k_is)
    (case l9 => k_is)
    (case c9 => k_is)
    (case k9 => k_is)
    (case a10 => k_is)
    (case l10 => k_is)
    (case c10 => k_is)
    (case k10 => k_is)
    (case a11 => k_is)
    (case l11 => k_is)
    (case c11 => k_is)
    (case k11 => k_is)
    (case a12 => k_is)
    (case l12 => k_is)
    (case c12 => k_is)
    (case k12 => k_is)
    (case a13 => k_is)
    (case l13 => k_is)
    (case c13 => k_is)
    (case k13 => k_is)
    (case a14 => k_is)
    (case l14 => k_is)
    (case c14 => k_is)
    (case k14 => k_is)
    (case a15 => k_is)
    (case l15 => k_is)
    (case c15 => k_is)
    (case k15 => k_is)
    (case a16 => k_is)
    (case l16 => k_is)
    (case c16 => k_is)
    (case k16 => k_is)
    (case a17 => k_is)
    (case l17 => k_is)
    (case c17 => k_is)
    (case k17 => k_is)
    (case a18 => k_is)
    (case l18 => k_is)
    (case c18 => k_is)
    (case k18 => k_is)
    (case a19 => k_is)
    (case l19 => k_is)
    (case c19 => k_is)
    (case k19 => k_is)
    (case a20 => k_is)
    (case l20 => k_is)
    (case c20 => k_is)
    (case k20 => k_is)
    (case a21 => k_is)
    (case l21 => k_is)
    (case c21 => k_is)
    (case k21 => k_is)
    (case a22 => k_is)
    (case l22 => k_is)
    (case c22 => k_is)
    (case k22 => k_is)
    (case a23 => k_is)
    (case l23 => k_is)
    (case c23 => k_is)
    (case k23 => k_is)
    (case a24 => k_is)
    (case l24 => k_is)
    (case c24 => k_is)
    (case k24 => k_is)
    (case a25 => k_is)
    (case l25 => k_is)
    (case c25 => k_is)
    (case k25 => k_is)
    (case a26 => k_is)
    (case l26 => k_is)
    (case c26 => k_is)
    (case k26 => k_is)
    (case a27 => k_is)
    (case l27 => k_is)
    (case c27 => k_is)
    (case k27 => k_is)
    (case a28 => k_is)
    (case l28 => k_is)
    (case c28 => k_is)
    (case k28 => k_is)
    (case z_isinstance => k_is)
    (case z_bool => k_is)
    (case z_int => k_is)
    (case z_list => k_is)
    (case z_tuple => k_is)
    (case z_len => k_is)
    (case z_range => k_is)
    (case z_min => k_is)
    (case z_sorted => k_is)
    (case z_repr => k_is)
    (case z_ValueError => k_is)
    (case z_abs => k_is)
    (case sg => k_is)
    (case tk => k_is)
    (case aC_BadPrime => k_is)
    (case eC_BadPrime => k_is)
    (case tC_BadPrime => k_is)
    (case aC_BadTable => k_is)
    (case eC_BadTable => k_is)
    (case tC_BadTable => k_is)
    (case aC_BadShape => k_is)
    (case eC_BadShape => k_is)
    (case tC_BadShape => k_is)
    (case aC_BadKind => k_is)
    (case eC_BadKind => k_is)
    (case tC_BadKind => k_is)
    (case aC_TableError => k_is)
    (case eC_TableError => k_is)
    (case tC_TableError => k_is)
    (case ga_BadPrime => k_is)
    (case gg_BadPrime => k_is)
    (case hC_BadPrime => k_is)
    (case kC_BadPrime => k_is)
    (case cl_BadPrime => k_is)
    (case mo_BadPrime => k_is)
    (case vE_BadPrime => k_is)
    (case xL_BadPrime => k_is)
    (case sa_BadPrime => k_is)
    (case no0_BadPrime => k_is)
    (case iC_BadPrime => k_is)
    (case tI_BadPrime => k_is)
    (case lI_BadPrime => k_is)
    (case cI_BadPrime => k_is)
    (case ga_BadTable => k_is)
    (case gg_BadTable => k_is)
    (case hC_BadTable => k_is)
    (case kC_BadTable => k_is)
    (case cl_BadTable => k_is)
    (case mo_BadTable => k_is)
    (case vE_BadTable => k_is)
    (case xL_BadTable => k_is)
    (case sa_BadTable => k_is)
    (case no0_BadTable => k_is)
    (case iC_BadTable => k_is)
    (case tI_BadTable => k_is)
    (case lI_BadTable => k_is)
    (case cI_BadTable => k_is)
    (case ga_BadShape => k_is)
    (case gg_BadShape => k_is)
    (case hC_BadShape => k_is)
    (case kC_BadShape => k_is)
    (case cl_BadShape => k_is)
    (case mo_BadShape => k_is)
    (case vE_BadShape => k_is)
    (case xL_BadShape => k_is)
    (case sa_BadShape => k_is)
    (case no0_BadShape => k_is)
    (case iC_BadShape => k_is)
    (case tI_BadShape => k_is)
    (case lI_BadShape => k_is)
    (case cI_BadShape => k_is)
    (case ga_BadKind => k_is)
    (case gg_BadKind => k_is)
    (case hC_BadKind => k_is)
    (case kC_BadKind => k_is)
    (case cl_BadKind => k_is)
    (case mo_BadKind => k_is)
    (case vE_BadKind => k_is)
    (case xL_BadKind => k_is)
    (case sa_BadKind => k_is)
    (case no0_BadKind => k_is)
    (case iC_BadKind => k_is)
    (case tI_BadKind => k_is)
    (case lI_BadKind => k_is)
    (case cI_BadKind => k_is)
    (case is_BadTable => k_is)
    (case ss_BadTable => k_is)
    (case su_BadPrime_BadTable => k_is)
    (case su_BadTable_BadTable => k_is)
    (case su_BadShape_BadTable => k_is)
    (case su_BadKind_BadTable => k_is)
    (case is_TableError => k_is)
    (case ss_TableError => k_is)
    (case su_BadPrime_TableError => k_is)
    (case su_BadTable_TableError => k_is)
    (case su_BadShape_TableError => k_is)
    (case su_BadKind_TableError => k_is)
    (case is_BadShape => k_is)
    (case ss_BadShape => k_is)
    (case su_BadPrime_BadShape => k_is)
    (case su_BadTable_BadShape => k_is)
    (case su_BadShape_BadShape => k_is)
    (case su_BadKind_BadShape => k_is)
    (case is_BadKind => k_is)
    (case ss_BadKind => k_is)
    (case su_BadPrime_BadKind => k_is)
    (case su_BadTable_BadKind => k_is)
    (case su_BadShape_BadKind => k_is)
    (case su_BadKind_BadKind => k_is)
    (case is_BadPrime => k_is)
    (case ss_BadPrime => k_is)
    (case su_BadPrime_BadPrime => k_is)
    (case su_BadTable_BadPrime => k_is)
    (case su_BadShape_BadPrime => k_is)
    (case su_BadKind_BadPrime => k_is)
#print axioms PySem.Challenge.cw_threeshapes_k00_tables_shapes_and_kinds_holds
