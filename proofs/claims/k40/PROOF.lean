import PyProof.Rows.All
import Wide.All
import OpenK.AllK
import Wide.FinOn
import PyProof.P3Statements
import PyProof.EqLayable
import PyProof.ReprReads
import HandS.ForMost
import HandS.Exc
import HandS.ExcOwn
import HandS.WordsExc
import HandS.Wide
import HandS.Style
import HandS.SortInts
import HandS.IsInst
import HandS.TupAny
import HandS.Flow
import HandS.CallSlots
import HandS.Rev
import HandS.Zip
import KE.KTupSum
import HandS.Defaults
import PySem.Challenge.RW_threeshapes_k40_whole_woven_shapes_gone
set_option linter.all false
/-! PyD: plain data D, a small language E, S of expressions and statements by slots, its evaluator; no heap. -/
namespace PD
open PySem

/-- plain data of the program: hand is the law's hand, edic an empty dict that nobody changes -/
inductive D where
  | non | bl (b : Bool) | int (i : Int) | str (x : Str) | lst (xs : List D) | tup (xs : List D) | hand | edic
  deriving Inhabited

mutual
def D.py : D → PyData
  | .non => .none
  | .bl b => .bool b
  | .int i => .int i
  | .str x => .str x
  | .lst xs => .list (D.pys xs)
  | .tup xs => .tuple (D.pys xs)
  | .hand => .dict []
  | .edic => .dict []
def D.pys : List D → List PyData
  | [] => []
  | x :: xs => D.py x :: D.pys xs
end

/-- a value handed on: plain, or a list just made that nobody else holds -/
inductive R where
  | d (x : D) | f (xs : List D)
  deriving Inhabited
def R.D : R → PD.D
  | .d x => x
  | .f xs => .lst xs

/-- the law's hand -/
structure Hand where
  cells : List Int
  ix : Int
  rest : Int
  total : Int

inductive Cell where
  | no | d (x : D) | own (xs : List D)
  deriving Inhabited
structure Stt where
  ρ : List Cell
  g : Hand
/-- an error of an own class, with its fields -/
structure Exc where
  c : Nat
  fs : List D
inductive Res (α : Type) where
  | ok (a : α) (s : Stt) | ex (e : Exc) (s : Stt) | bad
def Res.bind {α β : Type} (x : Res α) (f : α → Stt → Res β) : Res β :=
  match x with
  | .ok a s => f a s
  | .ex e s => .ex e s
  | .bad => .bad
@[simp] theorem Res.bind_ok {α β : Type} (a : α) (s : Stt) (f : α → Stt → Res β) : (Res.ok a s).bind f = f a s := of_eq_true (eq_self _)
@[simp] theorem Res.bind_ex {α β : Type} (e : Exc) (s : Stt) (f : α → Stt → Res β) : (Res.ex e s : Res α).bind f = .ex e s := of_eq_true (eq_self _)
@[simp] theorem Res.bind_bad {α β : Type} (f : α → Stt → Res β) : (Res.bad : Res α).bind f = .bad := of_eq_true (eq_self _)
def Res.of {α : Type} (x : Option α) (s : Stt) : Res α :=
  match x with
  | some a => .ok a s
  | none => .bad
@[simp] theorem Res.of_some {α : Type} (a : α) (s : Stt) : Res.of (some a) s = .ok a s := of_eq_true (eq_self _)
@[simp] theorem Res.of_none {α : Type} (s : Stt) : Res.of (none : Option α) s = .bad := of_eq_true (eq_self _)
def Stt.put (s : Stt) (i : Nat) (c : Cell) : Stt := ⟨s.ρ.set i c, s.g⟩
def Stt.forget (s : Stt) : List Nat → Stt
  | [] => s
  | i :: is => (s.forget is).put i .no
/-- what a call of a def does -/
inductive FR where
  | ret (r : R) (g : Hand) | ex (e : Exc) (g : Hand) | bad
abbrev FEnv := Nat → List D → Hand → FR

/-! ### operations -/
def mulOk (i j : Int) : Bool := decide (i.natAbs.log2 + j.natAbs.log2 < 1000000)
def divOk (j : Int) : Bool := decide (0 < j) && decide (j.natAbs.log2 < 9000)
def powOk (i j : Int) : Bool := decide (0 ≤ j) && decide (j ≤ 1000000) && decide (i.natAbs < 2 ^ 64)
def binop (op : Operator) (x y : D) : Option R :=
  match op, x, y with
  | .Add, .int i, .int j => some (.d (.int (i + j)))
  | .Add, .str a, .str b => if a.length + b.length ≤ sizeLine then some (.d (.str (a ++ b))) else none
  | .Add, .tup a, .tup b => if a.length + b.length ≤ sizeLine then some (.d (.tup (a ++ b))) else none
  | .Add, .lst a, .lst b => if a.length + b.length ≤ sizeLine then some (.f (a ++ b)) else none
  | .Sub, .int i, .int j => some (.d (.int (i - j)))
  | .Mult, .int i, .int j => if mulOk i j then some (.d (.int (i * j))) else none
  | .Mult, .lst a, .int k => if -(2 ^ 63) ≤ k ∧ k < 2 ^ 63 ∧ a.length * k.toNat ≤ sizeLine then some (.f (List.replicate k.toNat a).flatten) else none
  | .FloorDiv, .int i, .int j => if divOk j then some (.d (.int (i / j))) else none
  | .Mod, .int i, .int j => if 0 < j then some (.d (.int (i % j))) else none
  | .Pow, .int i, .int j => if powOk i j then some (.d (.int (i ^ j.toNat))) else none
  | _, _, _ => none
def flat : D → Bool
  | .non => true
  | .bl _ => true
  | .int _ => true
  | .str _ => true
  | _ => false
/-- == of flat values -/
def eqF : D → D → Bool
  | .non, .non => true
  | .bl a, .bl b => a == b
  | .bl a, .int b => (if a then 1 else 0) == b
  | .int a, .bl b => a == (if b then 1 else 0)
  | .int a, .int b => a == b
  | .str a, .str b => a == b
  | _, _ => false
def eqD (x y : D) : Option Bool := if SeqAt.shaped x.py && SeqAt.shaped y.py then some (PyData.eqv x.py y.py) else none
def isNon : D → Bool
  | .non => true
  | _ => false
def inD (x : D) (y : D) : Option Bool :=
  match y with
  | .tup ys => if flat x && ys.all flat then some (ys.any fun y => eqF y x) else none
  | .lst ys => if flat x && ys.all flat then some (ys.any fun y => eqF y x) else none
  | _ => none
def cmpop (op : CmpOp) (x y : D) : Option Bool :=
  match op, x, y with
  | .Lt, .int i, .int j => some (decide (i < j))
  | .LtE, .int i, .int j => some (decide (i ≤ j))
  | .Gt, .int i, .int j => some (decide (j < i))
  | .GtE, .int i, .int j => some (decide (j ≤ i))
  | .Eq, x, y => eqD x y
  | .NotEq, x, y => (eqD x y).map (!·)
  | .Is, x, .non => some (isNon x)
  | .IsNot, x, .non => some (!isNon x)
  | .In, x, y => inD x y
  | .NotIn, x, y => (inD x y).map (!·)
  | _, _, _ => none
def truth : D → Option Bool
  | .non => some false
  | .bl b => some b
  | .int i => some (i != 0)
  | .str x => if x.length ≤ sizeLine then some ((x.length : Int) != 0) else none
  | .lst xs => some (!xs.isEmpty)
  | .tup xs => some (!xs.isEmpty)
  | _ => none
/-- the place of an index -/
def ixN (n : Nat) (i : Int) : Option Nat := if 0 ≤ i then (if i < n then some i.toNat else none) else if -(n : Int) ≤ i then some (i + n).toNat else none
def item (x i : D) : Option D :=
  match x, i with
  | .lst xs, .int i => (ixN xs.length i).bind fun j => xs[j]?
  | .tup xs, .int i => (ixN xs.length i).bind fun j => xs[j]?
  | _, _ => none
/-- the items of the law's hand -/
def handAt (g : Hand) (i : Int) : Option D := if i = 0 then some (.lst (g.cells.map .int)) else if i = 1 then some (.int g.ix) else if i = 2 then some (.int g.rest) else if i = 3 then some (.int g.total) else none
def itemS (g : Hand) (x i : D) : Option D :=
  match x with
  | .hand => (match i with
    | .int i => handAt g i
    | _ => none)
  | x => item x i
/-- an item of the hand is written -/
def handSet (g : Hand) (i : Int) (v : Int) : Option Hand := if i = 1 then some { g with ix := v } else if i = 2 then some { g with rest := v } else if i = 3 then some { g with total := v } else none
def sIx (n d : Nat) : Option Int → Nat
  | none => d
  | some v => if v < 0 then (max (v + (n : Int)) 0).toNat else (min v (n : Int)).toNat
def cut {α : Type} (xs : List α) (lo hi : Option Int) : List α := (xs.drop (sIx xs.length 0 lo)).take (sIx xs.length xs.length hi - sIx xs.length 0 lo)
def slice (x : D) (lo hi : Option Int) : Option R :=
  match x with
  | .lst xs => some (.f (cut xs lo hi))
  | .tup xs => some (.d (.tup (cut xs lo hi)))
  | _ => none
def toInts : List D → Option (List Int)
  | [] => some []
  | .int i :: r => (toInts r).map (i :: ·)
  | _ :: _ => none
def toBools : List D → Option (List Bool)
  | [] => some []
  | .bl i :: r => (toBools r).map (i :: ·)
  | _ :: _ => none
def seqOf : D → Option (List D)
  | .lst xs => some xs
  | .tup xs => some xs
  | _ => none
def insI (x : Int) : List Int → List Int
  | [] => [x]
  | y :: ys => if x ≤ y then x :: y :: ys else y :: insI x ys
def sortI : List Int → List Int
  | [] => []
  | x :: xs => insI x (sortI xs)
def maxI (x : Int) : List Int → Int
  | [] => x
  | y :: ys => maxI (if y > x then y else x) ys
def minI (x : Int) : List Int → Int
  | [] => x
  | y :: ys => minI (if y < x then y else x) ys
/-- the built-in defs -/
inductive B where
  | len | abs | max | min | int | sum | tuple | list | sorted | all | any | repr | bool
def blt (b : B) (xs : List D) : Option R :=
  match b, xs with
  | .len, [.lst xs] => some (.d (.int xs.length))
  | .len, [.tup xs] => some (.d (.int xs.length))
  | .len, [.str x] => if x.length ≤ sizeLine then some (.d (.int x.length)) else none
  | .abs, [.int i] => some (.d (.int (if i < 0 then -i else i)))
  | .max, [.int i, .int j] => some (.d (.int (if j > i then j else i)))
  | .min, [.int i, .int j] => some (.d (.int (if j < i then j else i)))
  | .max, [.lst (.int i :: xs)] => (toInts xs).map fun ns => .d (.int (maxI i ns))
  | .min, [.lst (.int i :: xs)] => (toInts xs).map fun ns => .d (.int (minI i ns))
  | .int, [.int i] => some (.d (.int i))
  | .int, [.bl b] => some (.d (.int (if b then 1 else 0)))
  | .bool, [.int i] => some (.d (.bl (i != 0)))
  | .bool, [.bl b] => some (.d (.bl b))
  | .sum, [.lst xs] => (toInts xs).map fun ns => .d (.int ns.sum)
  | .sum, [.tup xs] => (toInts xs).map fun ns => .d (.int ns.sum)
  | .tuple, [.lst xs] => some (.d (.tup xs))
  | .tuple, [.tup xs] => some (.d (.tup xs))
  | .list, [.lst xs] => some (.f xs)
  | .list, [.tup xs] => some (.f xs)
  | .sorted, [.lst xs] => (toInts xs).map fun ns => .f ((sortI ns).map .int)
  | .all, [.lst xs] => (toBools xs).map fun ns => .d (.bl (ns.all id))
  | .any, [.lst xs] => (toBools xs).map fun ns => .d (.bl (ns.any id))
  | .repr, [x] => if SeqAt.shaped x.py && x.py.showable && decide (x.py.shown.length ≤ sizeLine) then some (.d (.str x.py.shown)) else none
  | _, _ => none
inductive Ty where
  | bool | int | list | tuple | str
  deriving DecidableEq
/-- the type of a value -/
def tyOf : D → Option Ty
  | .bl _ => some .bool
  | .int _ => some .int
  | .str _ => some .str
  | .lst _ => some .list
  | .tup _ => some .tuple
  | _ => none
def isTy (x : D) (t : Ty) : Option Bool :=
  match x with
  | .bl _ => some (t == .bool || t == .int)
  | .int _ => some (t == .int)
  | .str _ => some (t == .str)
  | .lst _ => some (t == .list)
  | .tup _ => some (t == .tuple)
  | .non => some false
  | .edic => some false
  | .hand => some (t == .list)

/-! ### the language -/
inductive Tg where
  | nm (i : Nat) | tp (is : List Nat)
inductive Sk where
  | seq | rng | zip | enum | rev
inductive E where
  | var (i : Nat)
  | k (c : D)
  | bin (op : Operator) (a b : E)
  | cmp (op : CmpOp) (a b : E)
  | chain (op op' : CmpOp) (a b c : E)
  | and (a b : E)
  | or (a b : E)
  | not (a : E)
  | neg (a : E)
  | ife (c a b : E)
  | tup (es : List E)
  | lst (es : List E)
  | ix (a i : E)
  | sl (a : E) (lo hi : Option E)
  | rvs (a : E)
  | call (f : Nat) (es : List E)
  | blt (b : B) (es : List E)
  | isi (a : E) (t : Ty)
  | comp (vs : List Nat) (t : Tg) (k : Sk) (src : List E) (c : Option E) (elt : E)
inductive S where
  | set (t : Tg) (e : E)
  | par (i j : Nat) (a b : E)
  | app (i : Nat) (e : E)
  | ext (i : Nat) (e : E)
  | six (i : Nat) (k e : E)
  | aug (i : Nat) (op : Operator) (e : E)
  | exp (e : E)
  | ret (e : E)
  | retN
  | ifS (c : E) (a b : List S)
  | forS (t : Tg) (k : Sk) (src : List E) (b : List S)
  | whl (c : E) (b : List S)
  | brk | cnt | pss | bad

def bindT (t : Tg) (x : D) (s : Stt) : Option Stt :=
  match t, x with
  | .nm i, x => some (s.put i (.d x))
  | .tp is, .tup xs => if xs.length = is.length then some ((is.zip xs).foldl (fun s p => s.put p.1 (.d p.2)) s) else none
  | .tp _, _ => none
def peek (s : Stt) (i : Nat) : Option D :=
  match s.ρ[i]? with
  | some (.d x) => some x
  | some (.own xs) => some (.lst xs)
  | _ => none
def rngOk (i j : Int) : Bool := decide (-(2 ^ 62) ≤ i) && decide (i < 2 ^ 62) && decide (-(2 ^ 62) ≤ j) && decide (j < 2 ^ 62)
def rngL (i j : Int) : List D := (List.range (j - i).toNat).map fun k => .int (i + (k : Nat))
/-- what is walked -/
def srcL (k : Sk) (xs : List D) : Option (List D) :=
  match k, xs with
  | .seq, [.lst xs] => some xs
  | .seq, [.tup xs] => some xs
  | .rng, [.int j] => if rngOk 0 j then some (rngL 0 j) else none
  | .rng, [.int i, .int j] => if rngOk i j then some (rngL i j) else none
  | .zip, [.lst xs, .lst ys] => some ((xs.zip ys).map fun p => .tup [p.1, p.2])
  | .zip, [.tup xs, .tup ys] => some ((xs.zip ys).map fun p => .tup [p.1, p.2])
  | .enum, [.lst xs] => some ((xs.zipIdx).map fun p => .tup [.int p.2, p.1])
  | .rev, [.lst xs] => some xs.reverse
  | .rev, [.tup xs] => some xs.reverse
  | _, _ => none

inductive Fl where
  | nx | bk | ct | rt (r : R)

/-- the items of a comprehension -/
def compL (f : Stt → Res (Option D)) (t : Tg) (vs : List Nat) : List D → List D → Stt → Res (List D)
  | [], acc, s => .ok acc s
  | x :: xs, acc, s => match bindT t x s with
    | none => .bad
    | some s1 => match f s1 with
      | .ok (some y) s2 => if acc.length < sizeLine then compL f t vs xs (acc ++ [y]) (s2.forget vs) else .bad
      | .ok none s2 => compL f t vs xs acc (s2.forget vs)
      | _ => .bad
def forL (f : Stt → Res Fl) (t : Tg) : List D → Stt → Res Fl
  | [], s => .ok .nx s
  | x :: xs, s => match bindT t x s with
    | none => .bad
    | some s1 => match f s1 with
      | .ok .nx s2 => forL f t xs s2
      | .ok .ct s2 => forL f t xs s2
      | .ok .bk s2 => .ok .nx s2
      | .ok (.rt r) s2 => .ok (.rt r) s2
      | .ex e s2 => .ex e s2
      | .bad => .bad
def whlL (c : Stt → Res Bool) (f : Stt → Res Fl) : Nat → Stt → Res Fl
  | 0, _ => .bad
  | n + 1, s => match c s with
    | .ok false s1 => .ok .nx s1
    | .ok true s1 => match f s1 with
      | .ok .nx s2 => whlL c f n s2
      | .ok .ct s2 => whlL c f n s2
      | .ok .bk s2 => .ok .nx s2
      | .ok (.rt r) s2 => .ok (.rt r) s2
      | .ex e s2 => .ex e s2
      | .bad => .bad
    | .ex e s1 => .ex e s1
    | .bad => .bad
def FR.res (r : FR) (s : Stt) : Res R :=
  match r with
  | .ret r g => .ok r ⟨s.ρ, g⟩
  | .ex e g => .ex e ⟨s.ρ, g⟩
  | .bad => .bad
/-- a name's value is handed on: an own list is own no longer -/
def give (i : Nat) (s : Stt) : Res R :=
  match s.ρ[i]? with
  | some (.d x) => .ok (.d x) s
  | some (.own xs) => .ok (.d (.lst xs)) (s.put i (.d (.lst xs)))
  | _ => .bad
/-- to be looked at: an own list stays own -/
def pk (e : E) (f : Stt → Res R) (s : Stt) : Res D :=
  match e with
  | .var i => Res.of (peek s i) s
  | _ => (f s).bind fun r s1 => .ok r.D s1
def tst (e : E) (f : Stt → Res R) (s : Stt) : Res Bool := (pk e f s).bind fun x s1 => Res.of (truth x) s1
def num : D → Option Int
  | .int i => some i
  | _ => none
def revD : D → Option (List D)
  | .lst xs => some xs.reverse
  | _ => none
section
variable (Φ : FEnv)
mutual
def evE : E → Stt → Res R
  | .var i, s => give i s
  | .k c, s => .ok (.d c) s
  | .bin op a b, s => (pk a (evE a) s).bind fun x s1 => (pk b (evE b) s1).bind fun y s2 => Res.of (binop op x y) s2
  | .cmp op a b, s => (pk a (evE a) s).bind fun x s1 => (pk b (evE b) s1).bind fun y s2 => (Res.of (cmpop op x y) s2).bind fun r s3 => .ok (.d (.bl r)) s3
  | .chain op op' a b c, s => (pk a (evE a) s).bind fun x s1 => (pk b (evE b) s1).bind fun y s2 => (Res.of (cmpop op x y) s2).bind fun r s3 =>
      match r with
      | true => (pk c (evE c) s3).bind fun z s4 => (Res.of (cmpop op' y z) s4).bind fun r s5 => .ok (.d (.bl r)) s5
      | false => .ok (.d (.bl false)) s3
  | .and a b, s => (evE a s).bind fun x s1 => (Res.of (truth x.D) s1).bind fun t s2 => match t with
      | true => evE b s2
      | false => .ok (.d x.D) s2
  | .or a b, s => (evE a s).bind fun x s1 => (Res.of (truth x.D) s1).bind fun t s2 => match t with
      | true => .ok (.d x.D) s2
      | false => evE b s2
  | .not a, s => (tst a (evE a) s).bind fun t s1 => .ok (.d (.bl (!t))) s1
  | .neg a, s => (pk a (evE a) s).bind fun x s1 => (Res.of (num x) s1).bind fun i s2 => .ok (.d (.int (-i))) s2
  | .ife c a b, s => (tst c (evE c) s).bind fun t s1 => match t with
      | true => evE a s1
      | false => evE b s1
  | .tup es, s => (evL es s).bind fun xs s1 => if xs.length ≤ sizeLine then .ok (.d (.tup xs)) s1 else .bad
  | .lst es, s => (evL es s).bind fun xs s1 => if xs.length ≤ sizeLine then .ok (.f xs) s1 else .bad
  | .ix a i, s => (pk a (evE a) s).bind fun x s1 => (pk i (evE i) s1).bind fun y s2 => (Res.of (itemS s2.g x y) s2).bind fun r s3 => .ok (.d r) s3
  | .sl a lo hi, s => (pk a (evE a) s).bind fun x s1 => (evO lo s1).bind fun l s2 => (evO hi s2).bind fun h s3 => Res.of (slice x l h) s3
  | .rvs a, s => (pk a (evE a) s).bind fun x s1 => (Res.of (revD x) s1).bind fun xs s2 => .ok (.f xs) s2
  | .call f es, s => (evL es s).bind fun xs s1 => (Φ f xs s1.g).res s1
  | .blt b es, s => (evPs es s).bind fun xs s1 => Res.of (blt b xs) s1
  | .isi a t, s => (pk a (evE a) s).bind fun x s1 => (Res.of (isTy x t) s1).bind fun r s2 => .ok (.d (.bl r)) s2
  | .comp vs t k src c elt, s => (evPs src s).bind fun xs s1 => (Res.of (srcL k xs) s1).bind fun is s2 =>
      (compL (fun s => (evO1 c s).bind fun b s3 => match b with
        | true => (evE elt s3).bind fun y s4 => .ok (some y.D) s4
        | false => .ok none s3) t vs is [] (s2.forget vs)).bind fun ys s3 => .ok (.f ys) s3
def evO1 : Option E → Stt → Res Bool
  | none, s => .ok true s
  | some c, s => tst c (evE c) s
def evO : Option E → Stt → Res (Option Int)
  | none, s => .ok none s
  | some e, s => (pk e (evE e) s).bind fun x s1 => (Res.of (num x) s1).bind fun i s2 => .ok (some i) s2
def evL : List E → Stt → Res (List D)
  | [], s => .ok [] s
  | e :: es, s => (evE e s).bind fun x s1 => (evL es s1).bind fun xs s2 => .ok (x.D :: xs) s2
def evPs : List E → Stt → Res (List D)
  | [], s => .ok [] s
  | e :: es, s => (pk e (evE e) s).bind fun x s1 => (evPs es s1).bind fun xs s2 => .ok (x :: xs) s2
end

/-- a name is stored -/
def setT (t : Tg) (r : R) (s : Stt) : Option Stt :=
  match t, r with
  | .nm i, .f xs => if i < s.ρ.length then some (s.put i (.own xs)) else none
  | .nm i, .d x => some (s.put i (.d x))
  | .tp is, r => bindT (.tp is) r.D s
/-- an own list -/
def ownAt (s : Stt) (i : Nat) : Option (List D) :=
  match s.ρ[i]? with
  | some (.own xs) => some xs
  | _ => none
def lstOf : D → Option (List D)
  | .lst xs => some xs
  | _ => none
def setAt (xs : List D) (k : D) (v : D) : Option (List D) :=
  match k with
  | .int i => (ixN xs.length i).map fun j => xs.set j v
  | _ => none
def setH (g : Hand) (k v : D) : Option Hand :=
  match k, v with
  | .int k, .int v => handSet g k v
  | _, _ => none
variable (w : Nat)
mutual
def evS : S → Stt → Res Fl
  | .set t e, s => (evE Φ e s).bind fun r s1 => (Res.of (setT t r s1) s1).bind fun s2 _ => .ok .nx s2
  | .par i j a b, s => (evL Φ [a, b] s).bind fun xs s1 => match xs with
      | [x, y] => .ok .nx ((s1.put i (.d x)).put j (.d y))
      | _ => .bad
  | .app i e, s => (Res.of (ownAt s i) s).bind fun _ s0 => (evE Φ e s0).bind fun r s1 => (Res.of (ownAt s1 i) s1).bind fun xs s2 =>
      if xs.length < sizeLine then .ok .nx (s2.put i (.own (xs ++ [r.D]))) else .bad
  | .ext i e, s => (Res.of (ownAt s i) s).bind fun _ s0 => (evE Φ e s0).bind fun r s1 => (Res.of (ownAt s1 i) s1).bind fun xs s2 => (Res.of (lstOf r.D) s2).bind fun ys s3 =>
      if xs.length + ys.length ≤ sizeLine then .ok .nx (s3.put i (.own (xs ++ ys))) else .bad
  | .six i k e, s => (evE Φ e s).bind fun r s1 => match s1.ρ[i]? with
      | some (.own _) => (pk k (evE Φ k) s1).bind fun kd s2 => (Res.of (ownAt s2 i) s2).bind fun xs s3 => (Res.of (setAt xs kd r.D) s3).bind fun ys s4 => .ok .nx (s4.put i (.own ys))
      | some (.d .hand) => (pk k (evE Φ k) s1).bind fun kd s2 => (Res.of (setH s2.g kd r.D) s2).bind fun g s3 => .ok .nx ⟨s3.ρ, g⟩
      | _ => .bad
  | .aug i op e, s => (Res.of (peek s i) s).bind fun x s1 => (pk e (evE Φ e) s1).bind fun y s2 => (Res.of (num x) s2).bind fun _ s3 =>
      (Res.of (binop op x y) s3).bind fun r s4 => .ok .nx (s4.put i (.d r.D))
  | .exp e, s => (evE Φ e s).bind fun _ s1 => .ok .nx s1
  | .ret (.var i), s => match s.ρ[i]? with
      | some (.own xs) => .ok (.rt (.f xs)) (s.put i .no)
      | some (.d x) => .ok (.rt (.d x)) s
      | _ => .bad
  | .ret e, s => (evE Φ e s).bind fun r s1 => .ok (.rt r) s1
  | .retN, s => .ok (.rt (.d .non)) s
  | .ifS c a b, s => (tst c (evE Φ c) s).bind fun t s1 => match t with
      | true => evB a s1
      | false => evB b s1
  | .forS t k src b, s => (evL Φ src s).bind fun xs s1 => (Res.of (srcL k xs) s1).bind fun is s2 => forL (evB b) t is s2
  | .whl c b, s => whlL (tst c (evE Φ c)) (evB b) w s
  | .brk, s => .ok .bk s
  | .cnt, s => .ok .ct s
  | .pss, s => .ok .nx s
  | .bad, _ => .bad
def evB : List S → Stt → Res Fl
  | [], s => .ok .nx s
  | c :: cs, s => (evS c s).bind fun f s1 => match f with
      | .nx => evB cs s1
      | f => .ok f s1
end
/-- a def: n its names, b its body -/
def runF (n : Nat) (b : List S) (xs : List D) (g : Hand) : FR :=
  match evB Φ w b ⟨xs.map .d ++ List.replicate (n - xs.length) .no, g⟩ with
  | .ok .nx s => .ret (.d .non) s.g
  | .ok (.rt r) s => .ret r s.g
  | .ex e s => .ex e s.g
  | _ => .bad
end
end PD
namespace PD
open PySem
example (Φ : FEnv) (w : Nat) : evB Φ w [.set (.nm 0) (.bin .Add (.k (.int 1)) (.k (.int 2))), .ret (.var 0)] ⟨[.no], ⟨[], 0, 0, 0⟩⟩ = .ok (.rt (.d (.int 3))) ⟨[.d (.int 3)], ⟨[], 0, 0, 0⟩⟩ := by rfl
end PD

set_option Elab.async false
set_option linter.all false
set_option maxRecDepth 100000
set_option maxHeartbeats 4000000
/-! PyS1: what data is in a heap; the configuration of a def that runs; runs of the evaluator against the heap. -/
namespace PD
open PySem PySem.Spec PyProof.Rows L2

abbrev Fr := PySem.W.Frag
/-! ### hidden places -/
open Classical in
noncomputable def hid (P : Addr → Prop) (H : Hp) : Hp := fun b => if P b then none else H b
theorem hid_no {P : Addr → Prop} {H : Hp} {b : Addr} (h : ¬ P b) : hid P H b = H b := by unfold hid; rw [if_neg h]
theorem hid_yes {P : Addr → Prop} {H : Hp} {b : Addr} (h : P b) : hid P H b = none := by unfold hid; rw [if_pos h]
theorem hid_some {P : Addr → Prop} {H : Hp} {b : Addr} {o : HO} (h : hid P H b = some o) : ¬ P b ∧ H b = some o := by
  by_cases q : P b
  · rw [hid_yes q] at h; cases h
  · exact ⟨q, by rw [hid_no q] at h; exact h⟩
theorem hid_mk {P : Addr → Prop} {H : Hp} {b : Addr} {o : HO} (q : ¬ P b) (h : H b = some o) : hid P H b = some o := by rw [hid_no q]; exact h
theorem same_hid {P P' : Addr → Prop} {H H' : Hp} (h : ∀ b o, ¬ P b → H b = some o → ¬ P' b ∧ H' b = some o) : Same (hid P H) (hid P' H') := fun b o q => by
  obtain ⟨a, e⟩ := hid_some q
  obtain ⟨a', e'⟩ := h b o a e
  exact hid_mk a' e'
theorem same_un {P : Addr → Prop} {H : Hp} : Same (hid P H) H := fun b o q => (hid_some q).2

/-! ### data in a heap -/
mutual
def Dat (K : Fr) (ha : Addr) (H : Hp) : V → D → Prop
  | v, .non => v = .non
  | v, .bl b => v = .bl b
  | v, .int i => v = .int i
  | v, .str x => v = .str x
  | v, .lst ds => ∃ a xs, v = .ref a ∧ H a = some (.lst xs) ∧ Dats K ha H xs ds
  | v, .tup ds => ∃ a xs, v = .ref a ∧ SqT K H a xs ∧ Dats K ha H xs ds
  | v, .hand => v = .ref ha
  | v, .edic => ∃ a, v = .ref a ∧ H a = some (.dK [])
def Dats (K : Fr) (ha : Addr) (H : Hp) : List V → List D → Prop
  | [], [] => True
  | v :: vs, d :: ds => Dat K ha H v d ∧ Dats K ha H vs ds
  | [], _ :: _ => False
  | _ :: _, [] => False
end
theorem sqT_same {K : Fr} {H H' : Hp} {a : Addr} {xs : List V} (e : Same H H') (h : SqT K H a xs) : SqT K H' a xs := by
  rcases h with (h | ⟨o, h⟩) | h
  · exact .inl (.inl (e _ _ h))
  · exact .inl (.inr ⟨o, e _ _ h⟩)
  · exact .inr h
section
variable {K : Fr} {ha : Addr} {H H' : Hp}
mutual
theorem Dat.mono (e : Same H H') : ∀ (d : D) (v : V), Dat K ha H v d → Dat K ha H' v d
  | .non, _, h => by unfold Dat at h ⊢; exact h
  | .bl _, _, h => by unfold Dat at h ⊢; exact h
  | .int _, _, h => by unfold Dat at h ⊢; exact h
  | .str _, _, h => by unfold Dat at h ⊢; exact h
  | .lst ds, _, h => by
    unfold Dat at h ⊢
    obtain ⟨a, xs, r, q, t⟩ := h
    exact ⟨a, xs, r, e _ _ q, Dats.mono e ds xs t⟩
  | .tup ds, _, h => by
    unfold Dat at h ⊢
    obtain ⟨a, xs, r, q, t⟩ := h
    exact ⟨a, xs, r, sqT_same e q, Dats.mono e ds xs t⟩
  | .hand, _, h => by unfold Dat at h ⊢; exact h
  | .edic, _, h => by
    unfold Dat at h ⊢
    obtain ⟨a, r, q⟩ := h
    exact ⟨a, r, e _ _ q⟩
theorem Dats.mono (e : Same H H') : ∀ (ds : List D) (vs : List V), Dats K ha H vs ds → Dats K ha H' vs ds
  | [], [], _ => by unfold Dats; trivial
  | [], _ :: _, h => by unfold Dats at h; exact h.elim
  | _ :: _, [], h => by unfold Dats at h; exact h.elim
  | d :: ds, v :: vs, h => by
    unfold Dats at h ⊢
    exact ⟨Dat.mono e d v h.1, Dats.mono e ds vs h.2⟩
end
theorem Dats.nil : Dats K ha H [] [] := by unfold Dats; trivial
theorem Dats.cons {v : V} {vs : List V} {d : D} {ds : List D} (h : Dat K ha H v d) (t : Dats K ha H vs ds) : Dats K ha H (v :: vs) (d :: ds) := by unfold Dats; exact ⟨h, t⟩
theorem Dats.cons_iff {v : V} {vs : List V} {d : D} {ds : List D} : Dats K ha H (v :: vs) (d :: ds) ↔ Dat K ha H v d ∧ Dats K ha H vs ds := by
  rw [Dats]
theorem Dats.nil_iff {vs : List V} : Dats K ha H vs [] ↔ vs = [] := by
  cases vs with
  | nil => simp [Dats]
  | cons v vs => simp [Dats]
theorem Dats.cons_out {vs : List V} {d : D} {ds : List D} (h : Dats K ha H vs (d :: ds)) : ∃ v vs', vs = v :: vs' ∧ Dat K ha H v d ∧ Dats K ha H vs' ds := by
  cases vs with
  | nil => simp [Dats] at h
  | cons v vs => exact ⟨v, vs, rfl, Dats.cons_iff.mp h⟩
theorem Dats.length : ∀ {ds : List D} {vs : List V}, Dats K ha H vs ds → vs.length = ds.length
  | [], vs, h => by rw [Dats.nil_iff.mp h] <;> rfl
  | d :: ds, vs, h => by
    obtain ⟨v, vs', rfl, _, t⟩ := h.cons_out
    simp [Dats.length t]
theorem Dats.get : ∀ {ds : List D} {vs : List V} {i : Nat} {d : D}, Dats K ha H vs ds → ds[i]? = some d → ∃ v, vs[i]? = some v ∧ Dat K ha H v d
  | [], _, _, _, _, e => by simp at e
  | x :: ds, vs, i, d, h, e => by
    obtain ⟨v, vs', rfl, h1, t⟩ := h.cons_out
    cases i with
    | zero => simp at e; subst e; exact ⟨v, rfl, h1⟩
    | succ i => simpa using Dats.get t (by simpa using e)
theorem Dats.append : ∀ {ds : List D} {vs : List V} {es : List D} {ws : List V}, Dats K ha H vs ds → Dats K ha H ws es → Dats K ha H (vs ++ ws) (ds ++ es)
  | [], vs, _, _, h, q => by rw [Dats.nil_iff.mp h]; exact q
  | d :: ds, vs, _, _, h, q => by
    obtain ⟨v, vs', rfl, h1, t⟩ := h.cons_out
    exact Dats.cons h1 (Dats.append t q)
theorem Dats.drop : ∀ {ds : List D} {vs : List V} (n : Nat), Dats K ha H vs ds → Dats K ha H (vs.drop n) (ds.drop n)
  | _, _, 0, h => h
  | [], vs, n + 1, h => by rw [Dats.nil_iff.mp h]; exact Dats.nil
  | d :: ds, vs, n + 1, h => by
    obtain ⟨v, vs', rfl, h1, t⟩ := h.cons_out
    exact Dats.drop n t
theorem Dats.take : ∀ {ds : List D} {vs : List V} (n : Nat), Dats K ha H vs ds → Dats K ha H (vs.take n) (ds.take n)
  | _, _, 0, h => by simp; exact Dats.nil
  | [], vs, n + 1, h => by rw [Dats.nil_iff.mp h]; exact Dats.nil
  | d :: ds, vs, n + 1, h => by
    obtain ⟨v, vs', rfl, h1, t⟩ := h.cons_out
    exact Dats.cons h1 (Dats.take n t)
theorem Dats.set {v : V} {d : D} (q : Dat K ha H v d) : ∀ {ds : List D} {vs : List V} (n : Nat), Dats K ha H vs ds → Dats K ha H (vs.set n v) (ds.set n d)
  | [], vs, n, h => by rw [Dats.nil_iff.mp h]; exact Dats.nil
  | x :: ds, vs, n, h => by
    obtain ⟨w, vs', rfl, h1, t⟩ := h.cons_out
    cases n with
    | zero => exact Dats.cons q t
    | succ n => exact Dats.cons h1 (Dats.set q n t)
theorem Dats.reverse : ∀ {ds : List D} {vs : List V}, Dats K ha H vs ds → Dats K ha H vs.reverse ds.reverse
  | [], vs, h => by rw [Dats.nil_iff.mp h]; exact Dats.nil
  | d :: ds, vs, h => by
    obtain ⟨v, vs', rfl, h1, t⟩ := h.cons_out
    rw [List.reverse_cons, List.reverse_cons]
    exact Dats.append (Dats.reverse t) (Dats.cons h1 Dats.nil)
theorem Dats.rep {ds : List D} {vs : List V} (h : Dats K ha H vs ds) : ∀ n : Nat, Dats K ha H (List.replicate n vs).flatten (List.replicate n ds).flatten
  | 0 => Dats.nil
  | n + 1 => by
    rw [List.replicate_succ, List.replicate_succ, List.flatten_cons, List.flatten_cons]
    exact Dats.append h (Dats.rep h n)
theorem Dats.ints : ∀ {ds : List D} {vs : List V} {ns : List Int}, Dats K ha H vs ds → toInts ds = some ns → vs = ns.map V.int
  | [], vs, ns, h, e => by
    rw [Dats.nil_iff.mp h]
    have e' : ([] : List Int) = ns := Option.some.inj e
    subst e'; rfl
  | d :: ds, vs, ns, h, e => by
    obtain ⟨v, vs', rfl, h1, t⟩ := h.cons_out
    cases d with
    | int i =>
      simp only [PD.toInts, Option.map_eq_some_iff] at e
      obtain ⟨ms, e1, rfl⟩ := e
      simp only [Dat] at h1
      subst h1
      rw [Dats.ints t e1]; rfl
    | _ => cases e
theorem Dats.bools : ∀ {ds : List D} {vs : List V} {ns : List Bool}, Dats K ha H vs ds → toBools ds = some ns → vs = ns.map V.bl
  | [], vs, ns, h, e => by
    rw [Dats.nil_iff.mp h]
    have e' : ([] : List Bool) = ns := Option.some.inj e
    subst e'; rfl
  | d :: ds, vs, ns, h, e => by
    obtain ⟨v, vs', rfl, h1, t⟩ := h.cons_out
    cases d with
    | bl i =>
      simp only [PD.toBools, Option.map_eq_some_iff] at e
      obtain ⟨ms, e1, rfl⟩ := e
      simp only [Dat] at h1
      subst h1
      rw [Dats.bools t e1]; rfl
    | _ => cases e
theorem Dats.of_ints : ∀ ns : List Int, Dats K ha H (ns.map V.int) (ns.map D.int)
  | [] => Dats.nil
  | n :: ns => Dats.cons (by unfold Dat; rfl) (Dats.of_ints ns)
theorem dat_int {v : V} {i : Int} : Dat K ha H v (.int i) ↔ v = .int i := by rw [Dat]
theorem dat_bl {v : V} {i : Bool} : Dat K ha H v (.bl i) ↔ v = .bl i := by rw [Dat]
theorem dat_str {v : V} {i : Str} : Dat K ha H v (.str i) ↔ v = .str i := by rw [Dat]
theorem dat_non {v : V} : Dat K ha H v .non ↔ v = .non := by rw [Dat]
theorem dat_hand {v : V} : Dat K ha H v .hand ↔ v = .ref ha := by rw [Dat]
theorem dat_lst {v : V} {ds : List D} : Dat K ha H v (.lst ds) ↔ ∃ a xs, v = .ref a ∧ H a = some (.lst xs) ∧ Dats K ha H xs ds := by rw [Dat]
theorem dat_tup {v : V} {ds : List D} : Dat K ha H v (.tup ds) ↔ ∃ a xs, v = .ref a ∧ SqT K H a xs ∧ Dats K ha H xs ds := by rw [Dat]
theorem dat_edic {v : V} : Dat K ha H v .edic ↔ ∃ a, v = .ref a ∧ H a = some (.dK []) := by rw [Dat]
end

/-! ### a def that runs -/
/-- ha: the hand's list, ca: the list of its cells; P0, H0: what was hidden and what stood at the entry; A: the own lists by their slots; x: a list just made; y: the lists that comprehensions make -/
structure Cf where
  ha : Addr
  ca : Addr
  P0 : Addr → Prop
  H0 : Hp
  A : Nat → Option Addr
  x : Option Addr
  y : List Addr
def Cf.P (c : Cf) (b : Addr) : Prop := b = c.ha ∨ c.P0 b ∨ (∃ i, c.A i = some b) ∨ c.x = some b ∨ b ∈ c.y
def CelOk (K : Fr) (c : Cf) (H : Hp) (i : Nat) : Option Cell → Option (Option V) → Prop
  | some (.d x), some (some v) => Dat K c.ha (hid c.P H) v x
  | some (.d _), _ => False
  | some (.own xs), some (some v) => ∃ a vs, v = .ref a ∧ c.A i = some a ∧ H a = some (.lst vs) ∧ Dats K c.ha (hid c.P H) vs xs
  | some (.own _), _ => False
  | some .no, _ => True
  | none, _ => True
def HandOk (ha ca : Addr) (H : Hp) (g : Hand) : Prop :=
  H ha = some (.lst [.ref ca, .int g.ix, .int g.rest, .int g.total]) ∧ H ca = some (.lst (g.cells.map V.int)) ∧ ca ≠ ha
structure Rel (K : Fr) (c : Cf) (s : Stt) (σ : L2.St) (H : Hp) : Prop where
  len : s.ρ.length = σ.length
  cel : ∀ i, CelOk K c H i s.ρ[i]? σ[i]?
  hnd : HandOk c.ha c.ca H s.g
  hca : ¬ c.P c.ca
  inj : ∀ i j a, c.A i = some a → c.A j = some a → i = j
  own : ∀ i a, c.A i = some a → ∃ xs, s.ρ[i]? = some (.own xs)
  new : ∀ a, ((∃ i, c.A i = some a) ∨ c.x = some a) → c.H0 a = none ∧ a ≠ c.ha ∧ ¬ c.P0 a
  xne : ∀ i a, c.A i = some a → c.x ≠ some a
  keep : ∀ b o, b ≠ c.ha → c.H0 b = some o → H b = some o
  p0 : ∀ b, c.P0 b → ∃ o, c.H0 b = some o
  cah : ∃ o, c.H0 c.ca = some o
  hah : ∃ o, c.H0 c.ha = some o
  xh : ∀ p, c.x = some p → ∃ vs, H p = some (.lst vs)
  yy : ∀ a ∈ c.y, c.H0 a = none ∧ a ≠ c.ha ∧ ¬ c.P0 a ∧ (∀ i, c.A i ≠ some a) ∧ c.x ≠ some a ∧ ∃ vs, H a = some (.lst vs)

/-- one expression further -/
structure XS (c : Cf) (H : Hp) (c' : Cf) (H' : Hp) : Prop where
  ha : c'.ha = c.ha
  ca : c'.ca = c.ca
  P0 : c'.P0 = c.P0
  H0 : c'.H0 = c.H0
  y : c'.y = c.y
  same : Same (hid c.P H) (hid c'.P H')
  ext : ∀ b o, b ≠ c.ha → H b = some o → H' b = some o
theorem XS.refl {c : Cf} {H : Hp} : XS c H c H := ⟨rfl, rfl, rfl, rfl, rfl, fun _ _ h => h, fun _ _ _ h => h⟩
theorem XS.trans {c c1 c2 : Cf} {H H1 H2 : Hp} (a : XS c H c1 H1) (b : XS c1 H1 c2 H2) : XS c H c2 H2 :=
  ⟨b.ha.trans a.ha, b.ca.trans a.ca, b.P0.trans a.P0, b.H0.trans a.H0, b.y.trans a.y, a.same.trans b.same, fun p o h q => b.ext p o (by rw [a.ha]; exact h) (a.ext p o h q)⟩

theorem Rel.P_some {K : Fr} {c : Cf} {s : Stt} {σ : L2.St} {H : Hp} (r : Rel K c s σ H) {b : Addr} (h : c.P b) : ∃ o, H b = some o := by
  rcases h with h | h | ⟨i, h⟩ | h | h
  · rw [h]; exact ⟨_, r.hnd.1⟩
  · obtain ⟨o, e⟩ := r.p0 b h
    by_cases q : b = c.ha
    · rw [q]; exact ⟨_, r.hnd.1⟩
    · exact ⟨o, r.keep b o q e⟩
  · obtain ⟨xs, e⟩ := r.own i b h
    have q := r.cel i
    rw [e] at q
    unfold CelOk at q
    split at q
    · cases ‹some (Cell.own xs) = _›
    · cases ‹some (Cell.own xs) = _›
    · obtain ⟨a, vs, _, e1, e2, _⟩ := q
      rw [h] at e1
      have e1' := Option.some.inj e1
      rw [e1']
      exact ⟨_, e2⟩
    · exact q.elim
    · cases ‹some (Cell.own xs) = _›
    · cases ‹some (Cell.own xs) = none›
  · obtain ⟨vs, e⟩ := r.xh b h
    exact ⟨_, e⟩
  · obtain ⟨_, _, _, _, _, vs, e⟩ := r.yy b h
    exact ⟨_, e⟩
theorem Rel.fresh {K : Fr} {c : Cf} {s : Stt} {σ : L2.St} {H : Hp} (r : Rel K c s σ H) {b : Addr} (h : H b = none) : ¬ c.P b := fun q => by
  obtain ⟨o, e⟩ := r.P_some q
  rw [h] at e; cases e

/-- what may be looked at: data, or an own list -/
def DatP (K : Fr) (c : Cf) (H : Hp) (v : V) : D → Prop
  | .lst ds => ∃ a xs, v = .ref a ∧ a ≠ c.ha ∧ H a = some (.lst xs) ∧ Dats K c.ha (hid c.P H) xs ds
  | d => Dat K c.ha (hid c.P H) v d
theorem DatP.of {K : Fr} {c : Cf} {H : Hp} {v : V} {d : D} (h : Dat K c.ha (hid c.P H) v d) : DatP K c H v d := by
  cases d with
  | lst ds =>
    obtain ⟨a, xs, e, q, t⟩ := dat_lst.mp h
    obtain ⟨n, e2⟩ := hid_some q
    exact ⟨a, xs, e, fun z => n (.inl z), e2, t⟩
  | _ => exact h
theorem DatP.go {K : Fr} {c c' : Cf} {H H' : Hp} {v : V} {d : D} (x : XS c H c' H') (h : DatP K c H v d) : DatP K c' H' v d := by
  cases d with
  | lst ds =>
    obtain ⟨a, xs, e, n, q, t⟩ := h
    exact ⟨a, xs, e, by rw [x.ha]; exact n, x.ext _ _ n q, by rw [x.ha]; exact Dats.mono x.same ds xs t⟩
  | _ =>
    show Dat K c'.ha (hid c'.P H') v _
    rw [x.ha]
    exact Dat.mono x.same _ _ h
end PD

set_option Elab.async false
set_option linter.all false
set_option maxRecDepth 100000
set_option maxHeartbeats 4000000
/-! PyS2: steps of the configuration; runs. -/
namespace PD
open PySem PySem.Spec PyProof.Rows L2

/-- one statement further -/
structure SS (c : Cf) (H : Hp) (c' : Cf) (H' : Hp) : Prop where
  ha : c'.ha = c.ha
  ca : c'.ca = c.ca
  P0 : c'.P0 = c.P0
  H0 : c'.H0 = c.H0
  y : c'.y = c.y
  same : Same (hid c.P H) (hid c'.P H')
theorem SS.refl {c : Cf} {H : Hp} : SS c H c H := ⟨rfl, rfl, rfl, rfl, rfl, fun _ _ h => h⟩
theorem SS.trans {c c1 c2 : Cf} {H H1 H2 : Hp} (a : SS c H c1 H1) (b : SS c1 H1 c2 H2) : SS c H c2 H2 :=
  ⟨b.ha.trans a.ha, b.ca.trans a.ca, b.P0.trans a.P0, b.H0.trans a.H0, b.y.trans a.y, a.same.trans b.same⟩
theorem XS.ss {c c' : Cf} {H H' : Hp} (x : XS c H c' H') : SS c H c' H' := ⟨x.ha, x.ca, x.P0, x.H0, x.y, x.same⟩

theorem celOk_d {K : Fr} {c : Cf} {H : Hp} {i : Nat} {x : D} {o : Option (Option V)} : CelOk K c H i (some (.d x)) o ↔ ∃ v, o = some (some v) ∧ Dat K c.ha (hid c.P H) v x := by
  cases o with
  | none => simp [CelOk]
  | some o => cases o <;> simp [CelOk]
theorem celOk_own {K : Fr} {c : Cf} {H : Hp} {i : Nat} {xs : List D} {o : Option (Option V)} :
    CelOk K c H i (some (.own xs)) o ↔ ∃ a vs, o = some (some (.ref a)) ∧ c.A i = some a ∧ H a = some (.lst vs) ∧ Dats K c.ha (hid c.P H) vs xs := by
  cases o with
  | none => simp [CelOk]
  | some o =>
    cases o with
    | none => simp [CelOk]
    | some v =>
      simp only [CelOk]
      constructor
      · rintro ⟨a, vs, rfl, h1, h2, h3⟩
        exact ⟨a, vs, rfl, h1, h2, h3⟩
      · rintro ⟨a, vs, e, h1, h2, h3⟩
        cases e
        exact ⟨a, vs, rfl, h1, h2, h3⟩
theorem celOk_no {K : Fr} {c : Cf} {H : Hp} {i : Nat} {o : Option (Option V)} : CelOk K c H i (some .no) o := by
  cases o <;> simp [CelOk]
theorem celOk_none {K : Fr} {c : Cf} {H : Hp} {i : Nat} {o : Option (Option V)} : CelOk K c H i none o := by
  cases o <;> simp [CelOk]
/-- a cell where what it leans on stays -/
theorem CelOk.go {K : Fr} {c c' : Cf} {H H' : Hp} {i : Nat} {cl : Option Cell} {o : Option (Option V)} (h : CelOk K c H i cl o) (hha : c'.ha = c.ha) (same : Same (hid c.P H) (hid c'.P H'))
    (own : ∀ a vs, c.A i = some a → H a = some (.lst vs) → c'.A i = some a ∧ H' a = some (.lst vs)) : CelOk K c' H' i cl o := by
  cases cl with
  | none => exact celOk_none
  | some cl =>
    cases cl with
    | no => exact celOk_no
    | d x =>
      obtain ⟨v, e, q⟩ := celOk_d.mp h
      exact celOk_d.mpr ⟨v, e, by rw [hha]; exact Dat.mono same _ _ q⟩
    | own xs =>
      obtain ⟨a, vs, e, h1, h2, h3⟩ := celOk_own.mp h
      obtain ⟨q1, q2⟩ := own a vs h1 h2
      exact celOk_own.mpr ⟨a, vs, e, q1, q2, by rw [hha]; exact Dats.mono same _ _ h3⟩

section
variable {K : Fr} {c : Cf} {s : Stt} {σ : L2.St} {H H' : Hp}

theorem Rel.own_ne (r : Rel K c s σ H) {i : Nat} {a : Addr} (h : c.A i = some a) : a ≠ c.ha := (r.new a (.inl ⟨i, h⟩)).2.1
/-- the heap grows, the hand may be another -/
theorem Rel.grow (r : Rel K c s σ H) {g : Hand} (ext : ∀ b o, b ≠ c.ha → H b = some o → H' b = some o) (hh : HandOk c.ha c.ca H' g) : Rel K c ⟨s.ρ, g⟩ σ H' ∧ XS c H c H' := by
  have same : Same (hid c.P H) (hid c.P H') := same_hid fun b o n q => ⟨n, ext b o (fun z => n (.inl z)) q⟩
  refine ⟨⟨r.len, fun i => (r.cel i).go rfl same fun a vs h1 h2 => ⟨h1, ext _ _ (r.own_ne h1) h2⟩, hh, r.hca, r.inj, r.own, r.new, r.xne, fun b o n q => ext b o n (r.keep b o n q), r.p0, r.cah, r.hah, fun p h => ?_, fun a h => ?_⟩, ⟨rfl, rfl, rfl, rfl, rfl, same, ext⟩⟩
  · obtain ⟨vs, e⟩ := r.xh p h
    exact ⟨vs, ext _ _ (r.new p (.inr h)).2.1 e⟩
  · obtain ⟨y0, y1, y2, y3, y4, vs, y5⟩ := r.yy a h
    exact ⟨y0, y1, y2, y3, y4, vs, ext _ _ y1 y5⟩
theorem HandOk.grow {ha ca : Addr} {g : Hand} (h : HandOk ha ca H g) (ext : ∀ b o, H b = some o → H' b = some o) : HandOk ha ca H' g := ⟨ext _ _ h.1, ext _ _ h.2.1, h.2.2⟩
/-- the heap grows by a plain object -/
theorem Rel.new1 (r : Rel K c s σ H) {p : Addr} {o : HO} (hp : H p = none) : Rel K c s σ (upd H p o) ∧ XS c H c (upd H p o) := by
  have ext : ∀ b u, H b = some u → upd H p o b = some u := fun b u q => by rw [upd_ne (ne_of_none q hp)]; exact q
  exact r.grow (g := s.g) (fun b u _ q => ext b u q) (r.hnd.grow ext)
/-- .. by a list that nobody else holds -/
theorem Rel.growx (r : Rel K c s σ H) {g : Hand} {p : Addr} {vs : List V} (hx : c.x = none) (hp : H p = none) (hp' : H' p = some (.lst vs)) (ext : ∀ b o, b ≠ c.ha → H b = some o → H' b = some o) (hh : HandOk c.ha c.ca H' g) :
    Rel K { c with x := some p } ⟨s.ρ, g⟩ σ H' ∧ XS c H { c with x := some p } H' := by
  have nP := r.fresh hp
  have pP : ∀ b, Cf.P { c with x := some p } b ↔ (c.P b ∨ b = p) := fun b => by
    unfold Cf.P
    simp only [hx, Option.some.injEq]
    constructor
    · rintro (h | h | h | h | h)
      · exact .inl (.inl h)
      · exact .inl (.inr (.inl h))
      · exact .inl (.inr (.inr (.inl h)))
      · exact .inr h.symm
      · exact .inl (.inr (.inr (.inr (.inr h))))
    · rintro ((h | h | h | h | h) | h)
      · exact .inl h
      · exact .inr (.inl h)
      · exact .inr (.inr (.inl h))
      · cases h
      · exact .inr (.inr (.inr (.inr h)))
      · exact .inr (.inr (.inr (.inl h.symm)))
  have same : Same (hid c.P H) (hid (Cf.P { c with x := some p }) H') := same_hid fun b o n q => ⟨fun z => by
    rcases (pP b).mp z with z | z
    · exact n z
    · exact ne_of_none q hp z, ext b o (fun z => n (.inl z)) q⟩
  have h0 : c.H0 p = none := by
    cases e : c.H0 p with
    | none => rfl
    | some o =>
      have q := r.keep p o (fun z => by rw [z, r.hnd.1] at hp; cases hp) e
      rw [hp] at q; cases q
  have nha : p ≠ c.ha := fun z => nP (.inl z)
  refine ⟨⟨r.len, fun i => (r.cel i).go rfl same fun a vs h1 h2 => ⟨h1, ext _ _ (r.own_ne h1) h2⟩, hh, fun z => ?_, r.inj, r.own, fun a h => ?_, fun i a h z => ?_, fun b o n q => ext b o n (r.keep b o n q), r.p0, r.cah, r.hah, fun q h => ?_, fun a h => ?_⟩, ⟨rfl, rfl, rfl, rfl, rfl, same, ext⟩⟩
  · rcases (pP _).mp z with z | z
    · exact r.hca z
    · have := r.hnd.2.1
      have z' : c.ca = p := z
      rw [z', hp] at this; cases this
  · rcases h with h | h
    · exact r.new a (.inl h)
    · have e : p = a := Option.some.inj h
      subst e
      exact ⟨h0, nha, fun z => nP (.inr (.inl z))⟩
  · have e : p = a := Option.some.inj z
    subst e
    exact nP (.inr (.inr (.inl ⟨i, h⟩)))
  · have e : p = q := Option.some.inj h
    subst e
    exact ⟨vs, hp'⟩
  · obtain ⟨y0, y1, y2, y3, y4, ws, y5⟩ := r.yy a h
    exact ⟨y0, y1, y2, y3, fun z => ne_of_none y5 hp (Option.some.inj z).symm, ws, ext _ _ y1 y5⟩
theorem Rel.newx (r : Rel K c s σ H) {p : Addr} {vs : List V} (hx : c.x = none) (hp : H p = none) : Rel K { c with x := some p } s σ (upd H p (.lst vs)) ∧ XS c H { c with x := some p } (upd H p (.lst vs)) := by
  have ext : ∀ b u, H b = some u → upd H p (.lst vs) b = some u := fun b u q => by rw [upd_ne (ne_of_none q hp)]; exact q
  exact r.growx (g := s.g) hx hp upd_same (fun b u _ q => ext b u q) (r.hnd.grow ext)
/-- P grows smaller -/
theorem Rel.less (r : Rel K c s σ H) {c' : Cf} (e1 : c'.ha = c.ha) (e2 : c'.ca = c.ca) (e3 : c'.P0 = c.P0) (e4 : c'.H0 = c.H0) (hA : c'.A = c.A) (hx : c'.x = none) (hy : c'.y = c.y) : Rel K c' s σ H ∧ XS c H c' H := by
  have pP : ∀ b, c'.P b → c.P b := fun b h => by
    unfold Cf.P at h ⊢
    rw [e1, e3, hA, hx, hy] at h
    rcases h with h | h | h | h | h
    · exact .inl h
    · exact .inr (.inl h)
    · exact .inr (.inr (.inl h))
    · cases h
    · exact .inr (.inr (.inr (.inr h)))
  have same : Same (hid c.P H) (hid c'.P H) := same_hid fun b o n q => ⟨fun z => n (pP b z), q⟩
  refine ⟨⟨r.len, fun i => (r.cel i).go e1 same fun a vs h1 h2 => ⟨by rw [hA]; exact h1, h2⟩, by rw [e1, e2]; exact r.hnd, fun z => r.hca (by rw [← e2]; exact pP _ z), fun i j a => by rw [hA]; exact r.inj i j a, fun i a => by rw [hA]; exact r.own i a,
    fun a h => ?_, (fun i a _ => by rw [hx]; exact (fun z => by cases z)), fun b o n q => r.keep b o (by rw [← e1]; exact n) (by rw [← e4]; exact q), fun b h => by rw [e4]; exact r.p0 b (by rw [← e3]; exact h), by rw [e2, e4]; exact r.cah, by rw [e1, e4]; exact r.hah, (fun p h => by rw [hx] at h; cases h), fun a h => ?_⟩,
    ⟨e1, e2, e3, e4, hy, same, fun _ _ _ q => q⟩⟩
  · rw [hA, hx] at h
    rcases h with h | h
    · rw [e4, e1, e3]; exact r.new a (.inl h)
    · cases h
  · rw [hy] at h
    rw [e4, e1, e3, hA, hx]
    obtain ⟨y0, y1, y2, y3, y4, y5⟩ := r.yy a h
    exact ⟨y0, y1, y2, y3, (fun z => by cases z), y5⟩
theorem Rel.nox (r : Rel K c s σ H) : Rel K { c with x := none } s σ H ∧ XS c H { c with x := none } H := r.less rfl rfl rfl rfl rfl rfl rfl

/-- an own list is handed on: own no longer -/
def Cf.rid (c : Cf) (i : Nat) : Cf := { c with A := fun j => if j = i then none else c.A j }
theorem Cf.rid_P {i b : Addr} (h : (c.rid i).P b) : c.P b := by
  unfold Cf.P Cf.rid at h
  unfold Cf.P
  rcases h with h | h | ⟨j, h⟩ | h
  · exact .inl h
  · exact .inr (.inl h)
  · by_cases z : j = i
    · simp [z] at h
    · simp [z] at h
      exact .inr (.inr (.inl ⟨j, h⟩))
  · exact .inr (.inr (.inr h))
theorem put_get_ne {s : Stt} {i j : Nat} {cl : Cell} (h : j ≠ i) : (s.put i cl).ρ[j]? = s.ρ[j]? := by
  unfold Stt.put
  exact List.getElem?_set_ne (Ne.symm h)
theorem put_get {s : Stt} {i : Nat} {cl : Cell} (h : i < s.ρ.length) : (s.put i cl).ρ[i]? = some cl := by
  unfold Stt.put
  exact List.getElem?_set_self h
/-- slot i is stored anew (or forgotten): what it owned is let go -/
theorem Rel.rid (r : Rel K c s σ H) {i : Nat} {cl : Cell} {σ' : L2.St} (hl : σ'.length = σ.length) (hs : ∀ j, j ≠ i → σ'[j]? = σ[j]?) (h : CelOk K (c.rid i) H i (some cl) σ'[i]?) (hn : ∀ xs, cl ≠ .own xs) :
    Rel K (c.rid i) (s.put i cl) σ' H ∧ XS c H (c.rid i) H := by
  have same : Same (hid c.P H) (hid (c.rid i).P H) := same_hid fun b o n q => ⟨fun z => n (c.rid_P z), q⟩
  have get : ∀ j a, (c.rid i).A j = some a → j ≠ i ∧ c.A j = some a := fun j a h => by
    unfold Cf.rid at h
    by_cases z : j = i
    · simp [z] at h
    · simp [z] at h
      exact ⟨z, h⟩
  refine ⟨⟨?_, fun j => ?_, r.hnd, fun z => r.hca (c.rid_P z), fun j k a h1 h2 => r.inj j k a (get j a h1).2 (get k a h2).2, fun j a h1 => ?_, fun a h1 => r.new a ?_, fun j a h1 => r.xne j a (get j a h1).2, r.keep, r.p0, r.cah, r.hah, r.xh, fun a h => ?_⟩, ⟨rfl, rfl, rfl, rfl, rfl, same, fun _ _ _ q => q⟩⟩
  · unfold Stt.put; rw [List.length_set, hl]; exact r.len
  · by_cases z : j = i
    · subst z
      by_cases q : j < s.ρ.length
      · rw [put_get q]; exact h
      · rw [List.getElem?_eq_none (by unfold Stt.put; rw [List.length_set]; omega)]
        exact celOk_none
    · rw [put_get_ne z, hs j z]
      refine (r.cel j).go rfl same fun a vs h1 h2 => ⟨?_, h2⟩
      unfold Cf.rid
      simp [z, h1]
  · obtain ⟨z, h2⟩ := get j a h1
    obtain ⟨xs, e⟩ := r.own j a h2
    exact ⟨xs, by rw [put_get_ne z]; exact e⟩
  · rcases h1 with ⟨j, h1⟩ | h1
    · exact .inl ⟨j, (get j a h1).2⟩
    · exact .inr h1
  · obtain ⟨y0, y1, y2, y3, y4, y5⟩ := r.yy a h
    exact ⟨y0, y1, y2, fun j z => y3 j (get j a z).2, y4, y5⟩
theorem Rel.give (r : Rel K c s σ H) {i : Nat} {xs : List D} (e : s.ρ[i]? = some (.own xs)) :
    ∃ v, σ[i]? = some (some v) ∧ Rel K (c.rid i) (s.put i (.d (.lst xs))) σ H ∧ XS c H (c.rid i) H ∧ Dat K (c.rid i).ha (hid (c.rid i).P H) v (.lst xs) := by
  have q := r.cel i
  rw [e] at q
  obtain ⟨a, vs, ev, h1, h2, h3⟩ := celOk_own.mp q
  have nP : ¬ (c.rid i).P a := fun z => by
    obtain ⟨n0, n1, n2⟩ := r.new a (.inl ⟨i, h1⟩)
    unfold Cf.P Cf.rid at z
    rcases z with z | z | ⟨j, z⟩ | z | z
    · exact n1 z
    · exact n2 z
    · by_cases w : j = i
      · simp [w] at z
      · simp [w] at z
        exact w (r.inj j i a z h1)
    · exact r.xne i a h1 z
    · exact (r.yy a z).2.2.2.1 i h1
  have same : Same (hid c.P H) (hid (c.rid i).P H) := same_hid fun b o n q => ⟨fun z => n (c.rid_P z), q⟩
  have dat : Dat K (c.rid i).ha (hid (c.rid i).P H) (.ref a) (.lst xs) := dat_lst.mpr ⟨a, vs, rfl, hid_mk nP h2, Dats.mono same _ _ h3⟩
  obtain ⟨r', x'⟩ := r.rid (i := i) (cl := .d (.lst xs)) (σ' := σ) rfl (fun _ _ => rfl) (celOk_d.mpr ⟨_, ev, dat⟩) (fun _ z => by cases z)
  exact ⟨_, ev, r', x', dat⟩
theorem Rel.get (r : Rel K c s σ H) {i : Nat} {x : D} (e : s.ρ[i]? = some (.d x)) : ∃ v, σ[i]? = some (some v) ∧ Dat K c.ha (hid c.P H) v x := by
  have q := r.cel i
  rw [e] at q
  exact celOk_d.mp q
/-- looking at a slot -/
theorem Rel.peek (r : Rel K c s σ H) {i : Nat} {x : D} (e : peek s i = some x) : ∃ v, σ[i]? = some (some v) ∧ DatP K c H v x := by
  unfold PD.peek at e
  split at e
  · rename_i y h
    cases e
    obtain ⟨v, h1, h2⟩ := r.get h
    exact ⟨v, h1, DatP.of h2⟩
  · rename_i ys h
    cases e
    have q := r.cel i
    rw [h] at q
    obtain ⟨a, vs, ev, h1, h2, h3⟩ := celOk_own.mp q
    exact ⟨_, ev, a, vs, rfl, r.own_ne h1, h2, h3⟩
  · cases e
/-- slot i is given data -/
theorem Rel.store (r : Rel K c s σ H) {i : Nat} {x : D} {v : V} (h : Dat K c.ha (hid c.P H) v x) : Rel K (c.rid i) (s.put i (.d x)) (σ.set i (some v)) H ∧ XS c H (c.rid i) H := by
  have same : Same (hid c.P H) (hid (c.rid i).P H) := same_hid fun b o n q => ⟨fun z => n (c.rid_P z), q⟩
  by_cases hi : i < σ.length
  · exact r.rid (i := i) (cl := .d x) (σ' := σ.set i (some v)) (List.length_set) (fun j hj => List.getElem?_set_ne (Ne.symm hj)) (celOk_d.mpr ⟨v, List.getElem?_set_self hi, Dat.mono same _ _ h⟩) (fun _ z => by cases z)
  · have e1 : σ.set i (some v) = σ := List.set_eq_of_length_le (by omega)
    have e2 : s.put i (.d x) = s.put i .no := by
      have hl := r.len
      unfold Stt.put
      rw [List.set_eq_of_length_le (by omega), List.set_eq_of_length_le (by omega)]
    rw [e1, e2]
    exact r.rid (i := i) (cl := .no) rfl (fun _ _ => rfl) celOk_no (fun _ z => by cases z)
/-- slot i is forgotten -/
theorem Rel.forget1 (r : Rel K c s σ H) (i : Nat) : Rel K (c.rid i) (s.put i .no) σ H ∧ XS c H (c.rid i) H :=
  r.rid (i := i) (cl := .no) rfl (fun _ _ => rfl) celOk_no (fun _ z => by cases z)
/-- slot i is given a list that nobody else holds -/
theorem Rel.storex (r : Rel K c s σ H) {i : Nat} {p : Addr} {xs : List D} {vs : List V} (hi : i < σ.length) (hx : c.x = some p) (hp : H p = some (.lst vs)) (h : Dats K c.ha (hid c.P H) vs xs) :
    ∃ c', Rel K c' (s.put i (.own xs)) (σ.set i (some (.ref p))) H ∧ XS c H c' H ∧ c'.x = none := by
  refine ⟨{ c with A := fun j => if j = i then some p else c.A j, x := none }, ?_⟩
  have pP : ∀ b, Cf.P { c with A := fun j => if j = i then some p else c.A j, x := none } b → c.P b := fun b z => by
    unfold Cf.P at z ⊢
    rcases z with z | z | ⟨j, z⟩ | z | z
    · exact .inl z
    · exact .inr (.inl z)
    · by_cases w : j = i
      · simp [w] at z
        exact .inr (.inr (.inr (.inl (by rw [hx, z]))))
      · simp [w] at z
        exact .inr (.inr (.inl ⟨j, z⟩))
    · cases z
    · exact .inr (.inr (.inr (.inr z)))
  have same : Same (hid c.P H) (hid (Cf.P { c with A := fun j => if j = i then some p else c.A j, x := none }) H) := same_hid fun b o n q => ⟨fun z => n (pP b z), q⟩
  have hl := r.len
  have get : ∀ j a, (if j = i then some p else c.A j) = some a → (j = i ∧ a = p) ∨ (j ≠ i ∧ c.A j = some a) := fun j a h => by
    by_cases z : j = i
    · simp [z] at h
      exact .inl ⟨z, h.symm⟩
    · simp [z] at h
      exact .inr ⟨z, h⟩
  have pn : ∀ j, c.A j ≠ some p := fun j z => r.xne j p z hx
  refine ⟨⟨?_, fun j => ?_, r.hnd, fun z => r.hca (pP _ z), fun j k a h1 h2 => ?_, fun j a h1 => ?_, fun a h1 => r.new a ?_, (fun j a _ z => by cases z), r.keep, r.p0, r.cah, r.hah, (fun _ z => by cases z), fun a h => ?_⟩, ⟨rfl, rfl, rfl, rfl, rfl, same, fun _ _ _ q => q⟩, rfl⟩
  · unfold Stt.put; rw [List.length_set, List.length_set]; exact hl
  · by_cases z : j = i
    · subst z
      rw [put_get (by omega), List.getElem?_set_self hi]
      exact celOk_own.mpr ⟨p, vs, rfl, by simp, hp, Dats.mono same _ _ h⟩
    · rw [put_get_ne z, List.getElem?_set_ne (Ne.symm z)]
      exact (r.cel j).go rfl same fun a vs h1 h2 => ⟨by simp [z, h1], h2⟩
  · rcases get j a h1 with ⟨z1, e1⟩ | ⟨z1, e1⟩ <;> rcases get k a h2 with ⟨z2, e2⟩ | ⟨z2, e2⟩
    · rw [z1, z2]
    · rw [e1] at e2; exact absurd e2 (pn k)
    · rw [e2] at e1; exact absurd e1 (pn j)
    · exact r.inj j k a e1 e2
  · rcases get j a h1 with ⟨z1, e1⟩ | ⟨z1, e1⟩
    · subst z1
      exact ⟨xs, put_get (by omega)⟩
    · obtain ⟨ys, e⟩ := r.own j a e1
      exact ⟨ys, by rw [put_get_ne z1]; exact e⟩
  · rcases h1 with ⟨j, h1⟩ | h1
    · rcases get j a h1 with ⟨z1, e1⟩ | ⟨z1, e1⟩
      · exact .inr (by rw [hx, e1])
      · exact .inl ⟨j, e1⟩
    · cases h1
  · obtain ⟨y0, y1, y2, y3, y4, y5⟩ := r.yy a h
    refine ⟨y0, y1, y2, fun j z => ?_, (fun z => by cases z), y5⟩
    rcases get j a z with ⟨_, e1⟩ | ⟨_, e1⟩
    · exact y4 (by rw [hx, e1])
    · exact y3 j e1
/-- an own list is changed -/
theorem Rel.write (r : Rel K c s σ H) {i : Nat} {xs : List D} (hx : c.x = none) (e : s.ρ[i]? = some (.own xs)) :
    ∃ a vs, σ[i]? = some (some (.ref a)) ∧ a ≠ c.ha ∧ H a = some (.lst vs) ∧ Dats K c.ha (hid c.P H) vs xs ∧
      ∀ ys ws, Dats K c.ha (hid c.P H) ws ys → Rel K c (s.put i (.own ys)) σ (upd H a (.lst ws)) ∧ SS c H c (upd H a (.lst ws)) := by
  have q := r.cel i
  rw [e] at q
  obtain ⟨a, vs, ev, h1, h2, h3⟩ := celOk_own.mp q
  obtain ⟨n0, n1, n2⟩ := r.new a (.inl ⟨i, h1⟩)
  refine ⟨a, vs, ev, n1, h2, h3, fun ys ws hd => ?_⟩
  have same : Same (hid c.P H) (hid c.P (upd H a (.lst ws))) := same_hid fun b o n q => ⟨n, by
    rw [upd_ne (fun z => n (.inr (.inr (.inl ⟨i, by rw [z]; exact h1⟩))))]; exact q⟩
  have hi : i < s.ρ.length := (List.getElem?_eq_some_iff.mp e).1
  refine ⟨⟨?_, fun j => ?_, ⟨by rw [upd_ne (Ne.symm n1)]; exact r.hnd.1, ?_, r.hnd.2.2⟩, r.hca, r.inj, fun j b h => ?_, r.new, r.xne, fun b o n q => ?_, r.p0, r.cah, r.hah, (fun p h => by rw [hx] at h; cases h), fun b h => ?_⟩, ⟨rfl, rfl, rfl, rfl, rfl, same⟩⟩
  · unfold Stt.put; rw [List.length_set]; exact r.len
  · by_cases z : j = i
    · subst z
      rw [put_get hi]
      exact celOk_own.mpr ⟨a, ws, ev, h1, upd_same, Dats.mono same _ _ hd⟩
    · rw [put_get_ne z]
      refine (r.cel j).go rfl same fun b us k1 k2 => ⟨k1, ?_⟩
      rw [upd_ne (fun w => z (r.inj j i b k1 (by rw [w]; exact h1)))]
      exact k2
  · have nca : c.ca ≠ a := fun z => r.hca (.inr (.inr (.inl ⟨i, by rw [z]; exact h1⟩)))
    rw [upd_ne nca]
    exact r.hnd.2.1
  · by_cases z : j = i
    · subst z; exact ⟨ys, put_get hi⟩
    · obtain ⟨us, eu⟩ := r.own j b h
      exact ⟨us, by rw [put_get_ne z]; exact eu⟩
  · have nb : b ≠ a := fun z => by rw [z, n0] at q; cases q
    rw [upd_ne nb]
    exact r.keep b o n q
  · obtain ⟨y0, y1, y2, y3, y4, us, y5⟩ := r.yy b h
    exact ⟨y0, y1, y2, y3, y4, us, by rw [upd_ne (fun z => y3 i (by rw [z]; exact h1))]; exact y5⟩
/-- a list for a comprehension is laid -/
theorem Rel.openY (r : Rel K c s σ H) {p : Addr} {vs : List V} (hp : H p = none) : Rel K { c with y := p :: c.y } s σ (upd H p (.lst vs)) ∧ Same (hid c.P H) (hid (Cf.P { c with y := p :: c.y }) (upd H p (.lst vs))) := by
  have nP := r.fresh hp
  have ext : ∀ b u, H b = some u → upd H p (.lst vs) b = some u := fun b u q => by rw [upd_ne (ne_of_none q hp)]; exact q
  have pP : ∀ b, Cf.P { c with y := p :: c.y } b → c.P b ∨ b = p := fun b h => by
    rcases h with h | h | h | h | h
    · exact .inl (.inl h)
    · exact .inl (.inr (.inl h))
    · exact .inl (.inr (.inr (.inl h)))
    · exact .inl (.inr (.inr (.inr (.inl h))))
    · rcases List.mem_cons.mp h with h | h
      · exact .inr h
      · exact .inl (.inr (.inr (.inr (.inr h))))
  have same : Same (hid c.P H) (hid (Cf.P { c with y := p :: c.y }) (upd H p (.lst vs))) := same_hid fun b o n q => ⟨fun z => by
    rcases pP b z with z | z
    · exact n z
    · exact ne_of_none q hp z, ext b o q⟩
  have h0 : c.H0 p = none := by
    cases e : c.H0 p with
    | none => rfl
    | some o =>
      have q := r.keep p o (fun z => nP (.inl z)) e
      rw [hp] at q; cases q
  refine ⟨⟨r.len, fun i => (r.cel i).go rfl same fun a vs h1 h2 => ⟨h1, ext _ _ h2⟩, r.hnd.grow ext, fun z => ?_, r.inj, r.own, r.new, r.xne, fun b o n q => ext b o (r.keep b o n q), r.p0, r.cah, r.hah, fun q h => ?_, fun a h => ?_⟩, same⟩
  · rcases pP _ z with z | z
    · exact r.hca z
    · exact ne_of_none r.hnd.2.1 hp z
  · obtain ⟨ws, e⟩ := r.xh q h
    exact ⟨ws, ext _ _ e⟩
  · rcases List.mem_cons.mp h with h | h
    · subst h
      exact ⟨h0, fun z => nP (.inl z), fun z => nP (.inr (.inl z)), fun i z => nP (.inr (.inr (.inl ⟨i, z⟩))), fun z => nP (.inr (.inr (.inr (.inl z)))), vs, upd_same⟩
    · obtain ⟨y0, y1, y2, y3, y4, us, y5⟩ := r.yy a h
      exact ⟨y0, y1, y2, y3, y4, us, ext _ _ y5⟩
/-- .. it grows -/
theorem Rel.growY (r : Rel K c s σ H) {p : Addr} {ws : List V} (hp : p ∈ c.y) : Rel K c s σ (upd H p (.lst ws)) ∧ Same (hid c.P H) (hid c.P (upd H p (.lst ws))) ∧ ∀ b o, b ≠ p → H b = some o → upd H p (.lst ws) b = some o := by
  obtain ⟨y0, y1, y2, y3, y4, vs, y5⟩ := r.yy p hp
  have ext : ∀ b o, b ≠ p → H b = some o → upd H p (.lst ws) b = some o := fun b o n q => by rw [upd_ne n]; exact q
  have same : Same (hid c.P H) (hid c.P (upd H p (.lst ws))) := same_hid fun b o n q => ⟨n, ext b o (fun z => n (.inr (.inr (.inr (.inr (by rw [z]; exact hp)))))) q⟩
  have nca : c.ca ≠ p := fun z => r.hca (.inr (.inr (.inr (.inr (by rw [z]; exact hp)))))
  refine ⟨⟨r.len, fun i => (r.cel i).go rfl same fun a vs h1 h2 => ⟨h1, ext _ _ (fun z => y3 i (by rw [← z]; exact h1)) h2⟩, ⟨ext _ _ (Ne.symm y1) r.hnd.1, ext _ _ nca r.hnd.2.1, r.hnd.2.2⟩, r.hca, r.inj, r.own, r.new, r.xne, fun b o n q => ext b o (fun z => by rw [z, y0] at q; cases q) (r.keep b o n q), r.p0, r.cah, r.hah, fun q h => ?_, fun a h => ?_⟩, same, ext⟩
  · obtain ⟨us, e⟩ := r.xh q h
    exact ⟨us, ext _ _ (fun z => y4 (by rw [← z]; exact h)) e⟩
  · obtain ⟨z0, z1, z2, z3, z4, us, z5⟩ := r.yy a h
    refine ⟨z0, z1, z2, z3, z4, ?_⟩
    by_cases z : a = p
    · subst z; exact ⟨ws, upd_same⟩
    · exact ⟨us, ext _ _ z z5⟩
/-- .. it is done -/
theorem Rel.shutY (r : Rel K c s σ H) {p : Addr} {y0 : List Addr} (hy : c.y = p :: y0) (hp : p ∉ y0) (hx : c.x = none) : Rel K { c with y := y0, x := some p } s σ H ∧ (∀ b, Cf.P { c with y := y0, x := some p } b ↔ c.P b) := by
  have pP : ∀ b, Cf.P { c with y := y0, x := some p } b ↔ c.P b := fun b => by
    unfold Cf.P
    simp only [hy, hx, List.mem_cons, Option.some.injEq]
    constructor
    · rintro (h | h | h | h | h)
      · exact .inl h
      · exact .inr (.inl h)
      · exact .inr (.inr (.inl h))
      · exact .inr (.inr (.inr (.inr (.inl h.symm))))
      · exact .inr (.inr (.inr (.inr (.inr h))))
    · rintro (h | h | h | h | h | h)
      · exact .inl h
      · exact .inr (.inl h)
      · exact .inr (.inr (.inl h))
      · cases h
      · exact .inr (.inr (.inr (.inl h.symm)))
      · exact .inr (.inr (.inr (.inr h)))
  obtain ⟨z0, z1, z2, z3, z4, vs, z5⟩ := r.yy p (by rw [hy]; exact List.mem_cons_self)
  have same : Same (hid c.P H) (hid (Cf.P { c with y := y0, x := some p }) H) := same_hid fun b o n q => ⟨fun z => n ((pP b).mp z), q⟩
  refine ⟨⟨r.len, fun i => (r.cel i).go rfl same fun a vs h1 h2 => ⟨h1, h2⟩, r.hnd, fun z => r.hca ((pP _).mp z), r.inj, r.own, fun a h => ?_, fun i a h z => ?_, r.keep, r.p0, r.cah, r.hah, fun q h => ?_, fun a h => ?_⟩, pP⟩
  · rcases h with h | h
    · exact r.new a (.inl h)
    · have e : p = a := Option.some.inj h
      subst e
      exact ⟨z0, z1, z2⟩
  · have e : p = a := Option.some.inj z
    subst e
    exact z3 i h
  · have e : p = q := Option.some.inj h
    subst e
    exact ⟨vs, z5⟩
  · obtain ⟨u0, u1, u2, u3, u4, u5⟩ := r.yy a (by rw [hy]; exact List.mem_cons_of_mem _ h)
    exact ⟨u0, u1, u2, u3, fun z => hp (by rw [Option.some.inj z]; exact h), u5⟩
end

/-! ### runs -/
abbrev XA := Exc → Value → Option Addr → Hp → Addr → Prop
def Run (K : Fr) (xa : XA) (W : WX) (c : Cf) (σ : L2.St) (H : Hp) {α : Type} (r : Res α) (k : α → Stt → Hp → Cf → Prop) : Prop :=
  match r with
  | .ok a s' => ∀ H' c', XS c H c' H' → Rel K c' s' σ H' → k a s' H' c'
  | .ex e s' => ∀ cls d H' c', XS c H c' H' → Rel K c' s' σ H' → c'.x = none → xa e cls d (hid c'.P H') c'.ha → W cls d σ H'
  | .bad => False
section
variable {K : Fr} {xa : XA} {W : WX} {c c1 : Cf} {σ : L2.St} {H H1 : Hp} {α β : Type}
theorem Run.mono {r : Res α} {k k' : α → Stt → Hp → Cf → Prop} (h : Run K xa W c σ H r k) (m : ∀ a s' H' c', XS c H c' H' → Rel K c' s' σ H' → k a s' H' c' → k' a s' H' c') : Run K xa W c σ H r k' := by
  cases r with
  | ok a s => exact fun H' c' x q => m a s H' c' x q (h H' c' x q)
  | ex e s => exact h
  | bad => exact h
theorem Run.weak {r : Res α} {k : α → Stt → Hp → Cf → Prop} (x : XS c H c1 H1) (h : Run K xa W c σ H r k) : Run K xa W c1 σ H1 r k := by
  cases r with
  | ok a s => exact fun H' c' y q => h H' c' (x.trans y) q
  | ex e s => exact fun cls d H' c' y q => h cls d H' c' (x.trans y) q
  | bad => exact h
theorem Run.bind {r : Res α} {f : α → Stt → Res β} {k : β → Stt → Hp → Cf → Prop} (h : Run K xa W c σ H (r.bind f) k) :
    Run K xa W c σ H r fun a s1 H1 c1 => Run K xa W c1 σ H1 (f a s1) k := by
  cases r with
  | ok a s => exact fun H' c' x _ => Run.weak x h
  | ex e s => exact h
  | bad => exact h
/-- a run that cannot fail -/
theorem Run.of {o : Option α} {s : Stt} {k : α → Stt → Hp → Cf → Prop} (h : Run K xa W c σ H (Res.of o s) k) : ∃ a, o = some a ∧ ∀ H' c', XS c H c' H' → Rel K c' s σ H' → k a s H' c' := by
  cases o with
  | none => exact h.elim
  | some a => exact ⟨a, rfl, h⟩
theorem Run.of_bind {o : Option α} {s : Stt} {f : α → Stt → Res β} {k : β → Stt → Hp → Cf → Prop} (h : Run K xa W c σ H ((Res.of o s).bind f) k) : ∃ a, o = some a ∧ Run K xa W c σ H (f a s) k := by
  cases o with
  | none => exact h.elim
  | some a => exact ⟨a, rfl, h⟩
end
end PD

set_option Elab.async false
set_option linter.all false
set_option maxRecDepth 100000
set_option maxHeartbeats 4000000
/-! PyS3: the operations of the evaluator, by the rules of the hand layer. -/
namespace PD
open PySem PySem.Spec PyProof.Rows L2

/-- what is hidden stands -/
def Obs (c : Cf) (H : Hp) : Prop := ∀ b, H b = none → ¬ c.P b
theorem Rel.obs {K : Fr} {c : Cf} {s : Stt} {σ : L2.St} {H : Hp} (r : Rel K c s σ H) : Obs c H := fun _ h => r.fresh h
/-- what is wanted of an operation's value -/
def Wish (K : Fr) (c : Cf) (H : Hp) (r : R) (Q : VK) : Prop :=
  match r with
  | .d x => ∀ v H', (H' = H ∨ ∃ p o, H p = none ∧ H' = upd H p o) → Dat K c.ha (hid c.P H') v x → Q v H'
  | .f xs => ∀ p vs, H p = none → Dats K c.ha (hid c.P H) vs xs → Q (.ref p) (upd H p (.lst vs))
def DatPs (K : Fr) (c : Cf) (H : Hp) : List V → List D → Prop
  | [], [] => True
  | v :: vs, d :: ds => DatP K c H v d ∧ DatPs K c H vs ds
  | [], _ :: _ => False
  | _ :: _, [] => False
theorem DatPs.nil_out {K : Fr} {c : Cf} {H : Hp} {vs : List V} (h : DatPs K c H vs []) : vs = [] := by
  cases vs with
  | nil => rfl
  | cons v vs => exact h.elim
theorem DatPs.cons_out {K : Fr} {c : Cf} {H : Hp} {vs : List V} {d : D} {ds : List D} (h : DatPs K c H vs (d :: ds)) : ∃ v ws, vs = v :: ws ∧ DatP K c H v d ∧ DatPs K c H ws ds := by
  cases vs with
  | nil => exact h.elim
  | cons v vs => exact ⟨v, vs, rfl, h.1, h.2⟩
theorem DatPs.go {K : Fr} {c c' : Cf} {H H' : Hp} (x : XS c H c' H') : ∀ {vs : List V} {ds : List D}, DatPs K c H vs ds → DatPs K c' H' vs ds
  | [], [], _ => trivial
  | v :: vs, d :: ds, h => ⟨h.1.go x, DatPs.go x h.2⟩
  | [], _ :: _, h => h.elim
  | _ :: _, [], h => h.elim
theorem same_upd1 {P : Addr → Prop} {H : Hp} {p : Addr} {o : HO} (hp : H p = none) : Same (hid P H) (hid P (upd H p o)) := same_hid fun b u n q => ⟨n, by rw [upd_ne (ne_of_none q hp)]; exact q⟩
theorem sqT_upd {K : Fr} {P : Addr → Prop} {H : Hp} {p : Addr} {xs : List V} (n : ¬ P p) : SqT K (hid P (upd H p (.tup xs))) p xs := SqT.of (hid_mk n upd_same)
section
variable {K : Fr} {c : Cf} {H : Hp} {v : V}
theorem DatP.dat {d : D} (h : DatP K c H v d) (n : ∀ ds, d ≠ .lst ds) : Dat K c.ha (hid c.P H) v d := by
  cases d with
  | lst ds => exact absurd rfl (n ds)
  | _ => exact h
theorem DatP.int {i : Int} (h : DatP K c H v (.int i)) : v = .int i := dat_int.mp (h.dat fun _ z => by cases z)
theorem DatP.bl {i : Bool} (h : DatP K c H v (.bl i)) : v = .bl i := dat_bl.mp (h.dat fun _ z => by cases z)
theorem DatP.str {i : Str} (h : DatP K c H v (.str i)) : v = .str i := dat_str.mp (h.dat fun _ z => by cases z)
theorem DatP.non (h : DatP K c H v .non) : v = .non := dat_non.mp (h.dat fun _ z => by cases z)
theorem DatP.hand (h : DatP K c H v .hand) : v = .ref c.ha := dat_hand.mp (h.dat fun _ z => by cases z)
theorem DatP.edic (h : DatP K c H v .edic) : ∃ a, v = .ref a ∧ H a = some (.dK []) := by
  obtain ⟨a, e, q⟩ := dat_edic.mp (h.dat fun _ z => by cases z)
  exact ⟨a, e, (hid_some q).2⟩
theorem DatP.lst {ds : List D} (h : DatP K c H v (.lst ds)) : ∃ a xs, v = .ref a ∧ H a = some (.lst xs) ∧ Dats K c.ha (hid c.P H) xs ds := by
  obtain ⟨a, xs, e, _, q, t⟩ := h
  exact ⟨a, xs, e, q, t⟩
theorem DatP.tup {ds : List D} (h : DatP K c H v (.tup ds)) : ∃ a xs, v = .ref a ∧ SqT K H a xs ∧ SqT K (hid c.P H) a xs ∧ Dats K c.ha (hid c.P H) xs ds := by
  obtain ⟨a, xs, e, q, t⟩ := dat_tup.mp (h.dat fun _ z => by cases z)
  exact ⟨a, xs, e, sqT_same same_un q, q, t⟩
theorem Wish.pure {x : D} {Q : VK} (w : Wish K c H (.d x) Q) (h : Dat K c.ha (hid c.P H) v x) : Q v H := w v H (.inl rfl) h
theorem Wish.tup {xs : List D} {Q : VK} {vs : List V} (w : Wish K c H (.d (.tup xs)) Q) (o : Obs c H) (h : Dats K c.ha (hid c.P H) vs xs) : ∀ p, H p = none → Q (.ref p) (upd H p (.tup vs)) := fun p hp =>
  w (.ref p) _ (.inr ⟨p, _, hp, rfl⟩) (dat_tup.mpr ⟨p, vs, rfl, sqT_upd (o p hp), Dats.mono (same_upd1 hp) _ _ h⟩)
end

/-! ### comparisons -/
section
variable {K : Fr} {ha : Addr} {H : Hp}
mutual
theorem Dat.dp : ∀ (d : D) (v : V), Dat K ha H v d → d.py.canLay0 = true → Dp K H v d.py
  | .non, v, h, _ => by rw [dat_non.mp h]; exact .non
  | .bl b, v, h, _ => by rw [dat_bl.mp h]; exact .bl b
  | .int i, v, h, _ => by rw [dat_int.mp h]; exact .int i
  | .str x, v, h, _ => by rw [dat_str.mp h]; exact .str x
  | .lst ds, v, h, l => by
    obtain ⟨a, xs, rfl, q, t⟩ := dat_lst.mp h
    exact .lst (SqL.of q) (Dats.dp ds xs t (by simpa [D.py, PyData.canLay0] using l))
  | .tup ds, v, h, l => by
    obtain ⟨a, xs, rfl, q, t⟩ := dat_tup.mp h
    exact .tup q (Dats.dp ds xs t (by simpa [D.py, PyData.canLay0] using l))
  | .hand, v, _, l => by simp [D.py, PyData.canLay0] at l
  | .edic, v, _, l => by simp [D.py, PyData.canLay0] at l
theorem Dats.dp : ∀ (ds : List D) (vs : List V), Dats K ha H vs ds → PyData.canLayAll0 (D.pys ds) = true → DpAll K H vs (D.pys ds)
  | [], vs, h, _ => by rw [Dats.nil_iff.mp h]; exact .nil
  | d :: ds, vs, h, l => by
    obtain ⟨v, vs', rfl, h1, t⟩ := h.cons_out
    simp only [D.pys, PyData.canLayAll0, Bool.and_eq_true] at l
    exact .cons (Dat.dp d v h1 l.1) (Dats.dp ds vs' t l.2)
end
mutual
theorem dp_mono {H' : Hp} (e : Same H H') : ∀ (d : PyData) (v : V), Dp K H v d → Dp K H' v d
  | .none, _, h => by cases h; exact .non
  | .bool _, _, h => by cases h; exact .bl _
  | .int _, _, h => by cases h; exact .int _
  | .str _, _, h => by cases h; exact .str _
  | .list ds, _, h => by
    cases h with
    | lst q t => exact .lst (e.seq q) (dpAll_mono e ds _ t)
  | .tuple ds, _, h => by
    cases h with
    | tup q t => exact .tup (sqT_same e q) (dpAll_mono e ds _ t)
  | .dict _, _, h => by cases h
theorem dpAll_mono {H' : Hp} (e : Same H H') : ∀ (ds : List PyData) (vs : List V), DpAll K H vs ds → DpAll K H' vs ds
  | [], _, h => by cases h; exact .nil
  | d :: ds, _, h => by
    cases h with
    | cons h1 h2 => exact .cons (dp_mono e d _ h1) (dpAll_mono e ds _ h2)
end
end
theorem DatP.dp {K : Fr} {c : Cf} {H : Hp} {v : V} {d : D} (h : DatP K c H v d) (l : d.py.canLay0 = true) : Dp K H v d.py := by
  cases d with
  | lst ds =>
    obtain ⟨a, xs, rfl, q, t⟩ := h.lst
    exact .lst (SqL.of q) (dpAll_mono same_un _ _ (Dats.dp ds xs t (by simpa [D.py, PyData.canLay0] using l)))
  | _ => exact dp_mono (H := hid c.P H) same_un _ _ (Dat.dp (ha := c.ha) _ _ h l)
theorem flat_of {K : Fr} {c : Cf} {H : Hp} {v : V} {d : D} (h : Dat K c.ha (hid c.P H) v d) (f : flat d = true) : flatV v = true := by
  cases d with
  | non => rw [dat_non.mp h]; rfl
  | bl b => rw [dat_bl.mp h]; rfl
  | int b => rw [dat_int.mp h]; rfl
  | str b => rw [dat_str.mp h]; rfl
  | _ => cases f
theorem eqV_of {K : Fr} {c : Cf} {H : Hp} {v w : V} {d e : D} (h : Dat K c.ha (hid c.P H) v d) (q : Dat K c.ha (hid c.P H) w e) (f : flat d = true) (g : flat e = true) : eqV v w = eqF d e := by
  cases d with
  | non => rw [dat_non.mp h]; cases e with
    | non => rw [dat_non.mp q]; rfl
    | bl b => rw [dat_bl.mp q]; rfl
    | int b => rw [dat_int.mp q]; rfl
    | str b => rw [dat_str.mp q]; rfl
    | _ => cases g
  | bl b => rw [dat_bl.mp h]; cases e with
    | non => rw [dat_non.mp q]; rfl
    | bl b => rw [dat_bl.mp q]; rfl
    | int b => rw [dat_int.mp q]; rfl
    | str b => rw [dat_str.mp q]; rfl
    | _ => cases g
  | int b => rw [dat_int.mp h]; cases e with
    | non => rw [dat_non.mp q]; rfl
    | bl b => rw [dat_bl.mp q]; rfl
    | int b => rw [dat_int.mp q]; rfl
    | str b => rw [dat_str.mp q]; rfl
    | _ => cases g
  | str b => rw [dat_str.mp h]; cases e with
    | non => rw [dat_non.mp q]; rfl
    | bl b => rw [dat_bl.mp q]; rfl
    | int b => rw [dat_int.mp q]; rfl
    | str b => rw [dat_str.mp q]; rfl
    | _ => cases g
  | _ => cases f
theorem inV_of {K : Fr} {c : Cf} {H : Hp} {v : V} {d : D} (h : Dat K c.ha (hid c.P H) v d) (f : flat d = true) : ∀ {ds : List D} {vs : List V}, Dats K c.ha (hid c.P H) vs ds → ds.all flat = true → vs.all flatV = true ∧ inV v vs = ds.any fun y => eqF y d
  | [], vs, t, _ => by rw [Dats.nil_iff.mp t]; exact ⟨rfl, rfl⟩
  | e :: ds, vs, t, g => by
    obtain ⟨w, ws, rfl, h1, t1⟩ := t.cons_out
    simp only [List.all_cons, Bool.and_eq_true] at g
    obtain ⟨i1, i2⟩ := inV_of h f t1 g.2
    refine ⟨by simp [i1, flat_of h1 g.1], ?_⟩
    unfold inV at i2 ⊢
    rw [List.any_cons, List.any_cons, eqV_of h1 h g.1 f, i2]
def rCmpD (K : Fr) (op : CmpOp) : R2 := fun x y H Q => ∃ c dx dy b, DatP K c H x dx ∧ DatP K c H y dy ∧ cmpop op dx dy = some b ∧ Q (.bl b) H
section
variable {X : Cx}
theorem eqD_out {x y : D} {b : Bool} (h : eqD x y = some b) : SeqAt.shaped x.py = true ∧ SeqAt.shaped y.py = true ∧ b = PyData.eqv x.py y.py := by
  unfold eqD at h
  split at h
  · rename_i q
    rw [Bool.and_eq_true] at q
    exact ⟨q.1, q.2, (Option.some.inj h).symm⟩
  · cases h
theorem in_run {neg : Bool} {c : Cf} {H : Hp} {x y : V} {dx dy : D} {b : Bool} {Q : VK} (h1 : DatP X.K c H x dx) (h2 : DatP X.K c H y dy) (e : inD dx dy = some b) (q : Q (.bl (if neg then !b else b)) H) : rIn X.K neg x y H Q := by
  have fx : ∀ {d : D}, flat d = true → DatP X.K c H x d → Dat X.K c.ha (hid c.P H) x d := fun {d} f h => by cases d <;> first | exact h | cases f
  cases dy with
  | tup ys =>
    obtain ⟨a, xs, rfl, hs, _, t⟩ := h2.tup
    simp only [inD] at e
    split at e
    · rename_i f
      rw [Bool.and_eq_true] at f
      obtain ⟨i1, i2⟩ := inV_of (fx f.1 h1) f.1 t f.2
      cases e
      exact ⟨a, xs, rfl, .inr hs, flat_of (fx f.1 h1) f.1, i1, by rw [i2]; exact q⟩
    · cases e
  | lst ys =>
    obtain ⟨a, xs, rfl, hs, t⟩ := h2.lst
    simp only [inD] at e
    split at e
    · rename_i f
      rw [Bool.and_eq_true] at f
      obtain ⟨i1, i2⟩ := inV_of (fx f.1 h1) f.1 t f.2
      cases e
      exact ⟨a, xs, rfl, .inl (SqL.of hs), flat_of (fx f.1 h1) f.1, i1, by rw [i2]; exact q⟩
    · cases e
  | _ => cases e
theorem isNon_of {c : Cf} {H : Hp} {x : V} {dx : D} (h : DatP X.K c H x dx) : decide (x = .non) = isNon dx := by
  cases dx with
  | non => rw [h.non]; rfl
  | bl b => rw [h.bl]; rfl
  | int b => rw [h.int]; rfl
  | str b => rw [h.str]; rfl
  | lst ds => obtain ⟨a, xs, rfl, _⟩ := h.lst; rfl
  | tup ds => obtain ⟨a, xs, rfl, _⟩ := h.tup; rfl
  | hand => rw [h.hand]; rfl
  | edic => obtain ⟨a, rfl, _⟩ := h.edic; rfl
theorem op_cmpD (hu : X.A.units + 64 < cLine) (op : CmpOp) : OpR X (compareOp op) (rCmpD X.K op) := by
  intro pins s σ H x y v u Q I rx ry h
  obtain ⟨c, dx, dy, b, h1, h2, e, q⟩ := h
  cases op with
  | Lt =>
    unfold cmpop at e
    split at e <;> first | cases e | skip
    all_goals try cases ‹CmpOp.Lt = _›
    all_goals rw [h1.int] at rx; rw [h2.int] at ry; exact op_lt pins s σ H _ _ v u Q I rx ry ⟨_, _, rfl, rfl, q⟩
  | LtE =>
    unfold cmpop at e
    split at e <;> first | cases e | skip
    all_goals try cases ‹CmpOp.LtE = _›
    all_goals rw [h1.int] at rx; rw [h2.int] at ry; exact op_le pins s σ H _ _ v u Q I rx ry ⟨_, _, rfl, rfl, q⟩
  | Gt =>
    unfold cmpop at e
    split at e <;> first | cases e | skip
    all_goals try cases ‹CmpOp.Gt = _›
    all_goals rw [h1.int] at rx; rw [h2.int] at ry; exact op_gt pins s σ H _ _ v u Q I rx ry ⟨_, _, rfl, rfl, q⟩
  | GtE =>
    unfold cmpop at e
    split at e <;> first | cases e | skip
    all_goals try cases ‹CmpOp.GtE = _›
    all_goals rw [h1.int] at rx; rw [h2.int] at ry; exact op_ge pins s σ H _ _ v u Q I rx ry ⟨_, _, rfl, rfl, q⟩
  | Eq =>
    have e' : eqD dx dy = some b := by cases dx <;> cases dy <;> exact e
    obtain ⟨s1, s2, rfl⟩ := eqD_out e'
    exact op_eqD hu pins s σ H _ _ v u Q I rx ry ⟨_, _, h1.dp (SeqAt.canLay_of_shaped s1), h2.dp (SeqAt.canLay_of_shaped s2), s1, s2, q⟩
  | NotEq =>
    have e' : (eqD dx dy).map (!·) = some b := by cases dx <;> cases dy <;> exact e
    rw [Option.map_eq_some_iff] at e'
    obtain ⟨b', e', rfl⟩ := e'
    obtain ⟨s1, s2, rfl⟩ := eqD_out e'
    exact op_neD hu pins s σ H _ _ v u Q I rx ry ⟨_, _, h1.dp (SeqAt.canLay_of_shaped s1), h2.dp (SeqAt.canLay_of_shaped s2), s1, s2, q⟩
  | Is =>
    cases dy with
    | non =>
      have e' : isNon dx = b := by cases dx <;> exact Option.some.inj e
      subst e'
      exact op_isN pins s σ H _ _ v u Q I rx ry ⟨h2.non, by rw [isNon_of h1]; exact q⟩
    | _ => cases dx <;> cases e
  | IsNot =>
    cases dy with
    | non =>
      have e' : (!isNon dx) = b := by cases dx <;> exact Option.some.inj e
      subst e'
      exact op_notN pins s σ H _ _ v u Q I rx ry ⟨h2.non, by rw [isNon_of h1]; exact q⟩
    | _ => cases dx <;> cases e
  | In =>
    have e' : inD dx dy = some b := by cases dx <;> cases dy <;> exact e
    exact op_in_seq pins s σ H _ _ v u Q I rx ry (in_run h1 h2 e' q)
  | NotIn =>
    have e' : (inD dx dy).map (!·) = some b := by cases dx <;> cases dy <;> exact e
    rw [Option.map_eq_some_iff] at e'
    obtain ⟨b', e', rfl⟩ := e'
    exact op_notIn_seq pins s σ H _ _ v u Q I rx ry (in_run h1 h2 e' q)
end
end PD

set_option Elab.async false
set_option linter.all false
set_option maxRecDepth 100000
set_option maxHeartbeats 4000000
/-! PyS4: arithmetic, items, slices, the built-in defs. -/
namespace PD
open PySem PySem.Spec PyProof.Rows L2

def rBinD (K : Fr) (op : Operator) : R2 := fun x y H Q => ∃ c dx dy r, Obs c H ∧ DatP K c H x dx ∧ DatP K c H y dy ∧ binop op dx dy = some r ∧ Wish K c H r Q
section
variable {X : Cx}
theorem op_binD (op : Operator) : OpR X (binaryOp op) (rBinD X.K op) := by
  intro pins s σ H x y v u Q I rx ry h
  obtain ⟨c, dx, dy, r, ho, h1, h2, e, q⟩ := h
  unfold binop at e
  split at e
  · cases e
    rw [h1.int] at rx; rw [h2.int] at ry
    exact op_add pins s σ H _ _ v u Q I rx ry ⟨_, _, rfl, rfl, q.pure (dat_int.mpr rfl)⟩
  · split at e
    · cases e
      rw [h1.str] at rx; rw [h2.str] at ry
      exact op_add_str pins s σ H _ _ v u Q I rx ry ⟨_, _, rfl, rfl, by assumption, q.pure (dat_str.mpr rfl)⟩
    · cases e
  · rename_i as bs
    split at e
    · rename_i hz
      cases e
      obtain ⟨a, xs, rfl, ha, ha', ta⟩ := h1.tup
      obtain ⟨b, ys, rfl, hb, hb', tb⟩ := h2.tup
      have la := ta.length
      have lb := tb.length
      refine op_catA pins s σ H _ _ v u Q I rx ry ⟨a, b, xs, ys, rfl, rfl, ha, hb, by omega, fun e => ?_, fun _ e => ?_, fun _ _ => q.tup ho (ta.append tb)⟩
      · subst e
        have e2 : as = [] := by cases as with
          | nil => rfl
          | cons _ _ => simp at la
        subst e2
        exact q.pure (dat_tup.mpr ⟨b, ys, rfl, hb', tb⟩)
      · subst e
        have e2 : bs = [] := by cases bs with
          | nil => rfl
          | cons _ _ => simp at lb
        subst e2
        rw [List.append_nil] at q
        exact q.pure (dat_tup.mpr ⟨a, xs, rfl, ha', ta⟩)
    · cases e
  · split at e
    · rename_i hz
      cases e
      obtain ⟨a, xs, rfl, ha, ta⟩ := h1.lst
      obtain ⟨b, ys, rfl, hb, tb⟩ := h2.lst
      have la := ta.length
      have lb := tb.length
      exact op_cat pins s σ H _ _ v u Q I rx ry ⟨a, b, xs, ys, rfl, rfl, ha, hb, by omega, fun p hp => q p _ hp (ta.append tb)⟩
    · cases e
  · cases e
    rw [h1.int] at rx; rw [h2.int] at ry
    exact op_sub pins s σ H _ _ v u Q I rx ry ⟨_, _, rfl, rfl, q.pure (dat_int.mpr rfl)⟩
  · split at e
    · rename_i hz
      cases e
      rw [h1.int] at rx; rw [h2.int] at ry
      exact op_mulW pins s σ H _ _ v u Q I rx ry ⟨_, _, rfl, rfl, (by unfold CMulW; unfold mulOk at hz; exact of_decide_eq_true hz), q.pure (dat_int.mpr rfl)⟩
    · cases e
  · split at e
    · rename_i hz
      cases e
      obtain ⟨a, xs, rfl, ha, ta⟩ := h1.lst
      rw [h2.int] at ry
      have la := ta.length
      exact op_rep pins s σ H _ _ v u Q I rx ry ⟨a, _, xs, rfl, rfl, ha, hz.1, hz.2.1, by rw [la]; exact hz.2.2, fun p hp => q p _ hp (ta.rep _)⟩
    · cases e
  · split at e
    · rename_i hz
      cases e
      rw [h1.int] at rx; rw [h2.int] at ry
      unfold divOk at hz
      rw [Bool.and_eq_true] at hz
      exact op_fdivW pins s σ H _ _ v u Q I rx ry ⟨_, _, rfl, rfl, ⟨of_decide_eq_true hz.1, of_decide_eq_true hz.2⟩, q.pure (dat_int.mpr rfl)⟩
    · cases e
  · split at e
    · rename_i hz
      cases e
      rw [h1.int] at rx; rw [h2.int] at ry
      exact op_mod pins s σ H _ _ v u Q I rx ry ⟨_, _, rfl, rfl, hz, q.pure (dat_int.mpr rfl)⟩
    · cases e
  · split at e
    · rename_i hz
      cases e
      rw [h1.int] at rx; rw [h2.int] at ry
      unfold powOk at hz
      simp only [Bool.and_eq_true, decide_eq_true_eq] at hz
      exact op_pow pins s σ H _ _ v u Q I rx ry ⟨_, _, rfl, rfl, ⟨hz.1.1, hz.1.2, hz.2⟩, q.pure (dat_int.mpr rfl)⟩
    · cases e
  · cases e

/-! ### in place: x += y of whole numbers -/
def rAugD (K : Fr) (op : Operator) : R2 := fun x y H Q => ∃ c i dy r, x = .int i ∧ DatP K c H y dy ∧ binop op (.int i) dy = some r ∧ Wish K c H r Q
theorem iop_augD (op : Operator) (hop : op = .Add ∨ op = .Sub) : OpR X (inplaceOp op) (rAugD X.K op) := by
  intro pins s σ H x y v u Q I rx ry h
  obtain ⟨c, i, dy, r, rfl, h2, e, q⟩ := h
  rcases hop with rfl | rfl
  · cases dy with
    | int j =>
      cases e
      rw [h2.int] at ry
      exact iop_add pins s σ H _ _ v u Q I rx ry ⟨_, _, rfl, rfl, q.pure (dat_int.mpr rfl)⟩
    | _ => cases e
  · cases dy with
    | int j =>
      cases e
      rw [h2.int] at ry
      exact iop_sub pins s σ H _ _ v u Q I rx ry ⟨_, _, rfl, rfl, q.pure (dat_int.mpr rfl)⟩
    | _ => cases e

/-! ### items -/
theorem ixN_eq (n : Nat) (i : Int) : PD.ixN n i = L2.ixN n i := rfl
theorem at_of_item {K : Fr} {ha : Addr} {H : Hp} {ds : List D} {vs : List V} {i : Int} {d : D} (t : Dats K ha H vs ds) (e : ((PD.ixN ds.length i).bind fun j => ds[j]?) = some d) : ∃ v, atI vs i = some v ∧ Dat K ha H v d := by
  cases q : PD.ixN ds.length i with
  | none => rw [q] at e; cases e
  | some j =>
    rw [q] at e
    obtain ⟨v, h1, h2⟩ := t.get (i := j) e
    refine ⟨v, ?_, h2⟩
    show (L2.ixN vs.length i).bind _ = _
    rw [t.length, ← ixN_eq, q]
    exact h1
def rIxD (K : Fr) : R2 := fun x y H Q => ∃ c g dx dy d, HandOk c.ha c.ca H g ∧ ¬ c.P c.ca ∧ DatP K c H x dx ∧ DatP K c H y dy ∧ itemS g dx dy = some d ∧ ∀ v, Dat K c.ha (hid c.P H) v d → Q v H
theorem ix_D : IxR X (rIxD X.K) := by
  intro value slice pins s σ H x y v u Q I rx ry h hs
  obtain ⟨c, g, dx, dy, d, hh, nca, h1, h2, e, q⟩ := h
  cases dx with
  | lst ds =>
    cases dy with
    | int i =>
      obtain ⟨a, xs, rfl, ha, t⟩ := h1.lst
      have ey := h2.int
      obtain ⟨w, hw, tw⟩ := at_of_item t e
      exact ix_list value slice pins s σ H _ _ v u Q I rx ry ⟨a, xs, i, w, rfl, ey, SqL.of ha, hw, q w tw⟩ hs
    | _ => cases e
  | tup ds =>
    cases dy with
    | int i =>
      obtain ⟨a, xs, rfl, ha, _, t⟩ := h1.tup
      have ey := h2.int
      obtain ⟨w, hw, tw⟩ := at_of_item t e
      exact ix_tup value slice pins s σ H _ _ v u Q I rx ry ⟨a, xs, i, w, rfl, ey, ha, hw, q w tw⟩ hs
    | _ => cases e
  | hand =>
    cases dy with
    | int i =>
      have h1 : Dat X.K c.ha (hid c.P H) x .hand := h1
      have ex : x = .ref c.ha := dat_hand.mp h1
      have ey := h2.int
      obtain ⟨hl, hc, _⟩ := hh
      have e : handAt g i = some d := e
      have go : ∀ w, atI [V.ref c.ca, V.int g.ix, V.int g.rest, V.int g.total] i = some w → Dat X.K c.ha (hid c.P H) w d → _ := fun w hw tw =>
        ix_list value slice pins s σ H _ _ v u Q I rx ry ⟨c.ha, _, i, w, ex, ey, SqL.of hl, hw, q w tw⟩ hs
      unfold handAt at e
      split at e
      · rename_i hi
        subst hi
        cases e
        exact go (.ref c.ca) rfl (dat_lst.mpr ⟨c.ca, _, rfl, hid_mk nca hc, Dats.of_ints _⟩)
      · split at e
        · rename_i hi
          subst hi
          cases e
          exact go _ rfl (dat_int.mpr rfl)
        · split at e
          · rename_i hi
            subst hi
            cases e
            exact go _ rfl (dat_int.mpr rfl)
          · split at e
            · rename_i hi
              subst hi
              cases e
              exact go _ rfl (dat_int.mpr rfl)
            · cases e
    | _ => cases e
  | _ => cases e

/-! ### slices -/
theorem sIx_eq (n d : Nat) (o : Option Int) : PD.sIx n d o = HT.sIx n d o := by
  cases o with
  | none => rfl
  | some v =>
    have h := HT.clip_eq v n d
    show (if v < 0 then (max (v + (n : Int)) 0).toNat else (min v (n : Int)).toNat) = _
    by_cases hv : v < 0
    · rw [if_pos hv] at h ⊢
      omega
    · rw [if_neg hv] at h ⊢
      omega
def rSlD (K : Fr) : V → Option Int → Option Int → Hp → VK → Prop := fun x lo hi H Q => ∃ c dx r, Obs c H ∧ DatP K c H x dx ∧ slice dx lo hi = some r ∧ Wish K c H r Q
theorem dats_cut {K : Fr} {ha : Addr} {H : Hp} {ds : List D} {vs : List V} (t : Dats K ha H vs ds) (lo hi : Option Int) : Dats K ha H (cutV vs lo hi) (cut ds lo hi) := by
  unfold cutV cut
  rw [t.length, ← sIx_eq, ← sIx_eq]
  exact (t.drop _).take _
theorem sl_D : SlR X (rSlD X.K) := by
  intro pins s σ H x v vl vu lo hi sl Q I rx hs pl pu h
  obtain ⟨c, dx, r, ho, h1, e, q⟩ := h
  cases dx with
  | lst ds =>
    cases e
    obtain ⟨a, xs, rfl, ha, t⟩ := h1.lst
    exact sl_list pins s σ H _ v vl vu lo hi sl Q I rx hs pl pu ⟨a, xs, rfl, SqL.of ha, fun p hp => q p _ hp (dats_cut t lo hi)⟩
  | tup ds =>
    cases e
    obtain ⟨a, xs, rfl, ha, ha', t⟩ := h1.tup
    refine sl_tupA pins s σ H _ v vl vu lo hi sl Q I rx hs pl pu ⟨a, xs, rfl, ha, fun hw => ?_, fun _ => q.tup ho (dats_cut t lo hi)⟩
    have e : cut ds lo hi = ds := by
      unfold cut
      rw [sIx_eq, sIx_eq, ← t.length, hw.1, hw.2]
      simp [t.length]
    exact q.pure (by rw [e]; exact dat_tup.mpr ⟨a, xs, rfl, ha', t⟩)
  | _ => cases e

/-! ### built-in defs -/
def bval : B → Value
  | .len => .builtin "len"
  | .abs => .builtin "abs"
  | .max => .builtin "max"
  | .min => .builtin "min"
  | .int => .type "int"
  | .sum => .builtin "sum"
  | .tuple => .type "tuple"
  | .list => .type "list"
  | .sorted => .builtin "sorted"
  | .all => .builtin "all"
  | .any => .builtin "any"
  | .repr => .builtin "repr"
  | .bool => .type "bool"
theorem insI_perm (x : Int) : ∀ l : List Int, (insI x l).Perm (x :: l)
  | [] => List.Perm.refl _
  | y :: ys => by
    unfold insI
    split
    · exact List.Perm.refl _
    · exact (List.Perm.cons y (insI_perm x ys)).trans (List.Perm.swap x y ys)
theorem sortI_perm : ∀ l : List Int, (sortI l).Perm l
  | [] => List.Perm.refl _
  | x :: xs => (insI_perm x (sortI xs)).trans (List.Perm.cons x (sortI_perm xs))
theorem insI_sorted (x : Int) : ∀ l : List Int, l.Pairwise (· ≤ ·) → (insI x l).Pairwise (· ≤ ·)
  | [], _ => by simp [insI]
  | y :: ys, h => by
    unfold insI
    have h' := List.pairwise_cons.mp h
    split
    · rename_i hxy
      refine List.pairwise_cons.mpr ⟨fun z hz => ?_, h⟩
      rcases List.mem_cons.mp hz with rfl | hz
      · exact hxy
      · exact Int.le_trans hxy (h'.1 z hz)
    · rename_i hxy
      refine List.pairwise_cons.mpr ⟨fun z hz => ?_, insI_sorted x ys h'.2⟩
      rcases List.mem_cons.mp ((insI_perm x ys).mem_iff.mp hz) with rfl | hz
      · omega
      · exact h'.1 z hz
theorem sortI_sorted : ∀ l : List Int, (sortI l).Pairwise (· ≤ ·)
  | [] => List.Pairwise.nil
  | x :: xs => insI_sorted x _ (sortI_sorted xs)
theorem sorted_unique : ∀ {l m : List Int}, l.Perm m → l.Pairwise (· ≤ ·) → m.Pairwise (· ≤ ·) → l = m
  | [], m, p, _, _ => (List.nil_perm.mp p).symm
  | x :: xs, m, p, hl, hm => by
    cases m with
    | nil => exact absurd (List.perm_nil.mp p) (by simp)
    | cons y ys =>
      have hl' := List.pairwise_cons.mp hl
      have hm' := List.pairwise_cons.mp hm
      have e : x = y := by
        have h1 : x ∈ y :: ys := p.mem_iff.mp List.mem_cons_self
        have h2 : y ∈ x :: xs := p.mem_iff.mpr List.mem_cons_self
        rcases List.mem_cons.mp h1 with h1 | h1
        · exact h1
        · rcases List.mem_cons.mp h2 with h2 | h2
          · exact h2.symm
          · have := hl'.1 y h2
            have := hm'.1 x h1
            omega
      subst e
      rw [sorted_unique (List.Perm.cons_inv p) hl'.2 hm'.2]
theorem maxI_of (x : Int) : ∀ (l : List Int), maxI x l ∈ x :: l ∧ ∀ y ∈ x :: l, y ≤ maxI x l
  | [] => by simp [maxI]
  | y :: ys => by
    obtain ⟨h1, h2⟩ := maxI_of (if y > x then y else x) ys
    have e : maxI x (y :: ys) = maxI (if y > x then y else x) ys := rfl
    rw [e]
    have h3 := h2 _ List.mem_cons_self
    generalize maxI (if y > x then y else x) ys = m at *
    refine ⟨?_, fun z hz => ?_⟩
    · rcases List.mem_cons.mp h1 with h | h
      · rw [h]; split <;> simp
      · exact List.mem_cons_of_mem _ (List.mem_cons_of_mem _ h)
    · rcases List.mem_cons.mp hz with rfl | hz
      · split at h3 <;> omega
      · rcases List.mem_cons.mp hz with rfl | hz
        · split at h3 <;> omega
        · exact h2 z (List.mem_cons_of_mem _ hz)
theorem minI_of (x : Int) : ∀ (l : List Int), minI x l ∈ x :: l ∧ ∀ y ∈ x :: l, minI x l ≤ y
  | [] => by simp [minI]
  | y :: ys => by
    obtain ⟨h1, h2⟩ := minI_of (if y < x then y else x) ys
    have e : minI x (y :: ys) = minI (if y < x then y else x) ys := rfl
    rw [e]
    have h3 := h2 _ List.mem_cons_self
    generalize minI (if y < x then y else x) ys = m at *
    refine ⟨?_, fun z hz => ?_⟩
    · rcases List.mem_cons.mp h1 with h | h
      · rw [h]; split <;> simp
      · exact List.mem_cons_of_mem _ (List.mem_cons_of_mem _ h)
    · rcases List.mem_cons.mp hz with rfl | hz
      · split at h3 <;> omega
      · rcases List.mem_cons.mp hz with rfl | hz
        · split at h3 <;> omega
        · exact h2 z (List.mem_cons_of_mem _ hz)
def rBltD (K : Fr) (b : B) : List V → Hp → VK → Prop := fun vs H Q => ∃ c ds r, Obs c H ∧ DatPs K c H vs ds ∧ blt b ds = some r ∧ Wish K c H r Q
theorem repr_run (hg : X.A.guards = some []) (hu : X.A.units + 100 < cLine) {pins : List (Addr × Obj)} {s : Shared} {σ : L2.St} {H : Hp} {x : V} {u : Value} {Q : VK} {c : Cf} {d : D} (I : Inv X pins σ H s) (rx : RelV x u)
    (h : DatP X.K c H x d) (h1 : d.py.showable = true) (hs : SeqAt.shaped d.py = true) (h4 : d.py.shown.length ≤ sizeLine) (q : Q (.str d.py.shown) H) :
    wpAny (model X.prog X.w) X.A (call (.builtin "repr") [u]) (EP X pins σ Q) X.xe s := by
  have hl := SeqAt.canLay_of_shaped hs
  have h3 := SeqAt.depth_of_shaped hs
  have h2 := PyData.hasDict_of_canLay _ hl
  have fin : ∀ {h' : Heap} {tk : Nat} {t : Tok}, (∀ b o, s.heap.get? b = some o → h'.get? b = some o) → EP X pins σ Q (.str d.py.shown t) { s with heap := h', toks := tk } := fun k => ⟨.str d.py.shown, H, I.kept k, ⟨_, rfl⟩, q⟩
  have ref : ∀ a, x = .ref a → wpAny (model X.prog X.w) X.A (call (.builtin "repr") [u]) (EP X pins σ Q) X.xe s := fun a e => by
    subst e
    obtain ⟨as, rd⟩ := Dp.reads I d.py _ u (h.dp hl) rx
    cases (show u = Value.ref a from rx)
    exact repr_of_reads' rd h1 (fun z => by rw [h2] at z; cases z) hg (by omega) (fun _ _ e => e) (fun h' u tk k => fin k) h4
  cases d with
  | non => rw [h.non] at rx; cases rx; exact PySem.P.repr_of_none (fin (h' := s.heap) fun _ _ e => e)
  | bl b => rw [h.bl] at rx; cases rx; exact PySem.P.repr_of_bool (fin (h' := s.heap) fun _ _ e => e)
  | int i => rw [h.int] at rx; obtain ⟨t, rfl⟩ := rx; exact PySem.P.repr_of_int (by simpa [D.py, PyData.showable] using h1) (fin (h' := s.heap) fun _ _ e => e)
  | str i => rw [h.str] at rx; obtain ⟨t, rfl⟩ := rx; exact PySem.P.repr_of_str (fin (h' := s.heap) fun _ _ e => e) h4
  | lst ds => obtain ⟨a, xs, e, _⟩ := h.lst; exact ref a e
  | tup ds => obtain ⟨a, xs, e, _⟩ := h.tup; exact ref a e
  | hand => simp [D.py, PyData.hasDict] at h2
  | edic => simp [D.py, PyData.hasDict] at h2
/-- sum of a tuple of whole numbers -/
theorem sum_tup (hc : X.calm = true) (pins : List (Addr × Obj)) (s : Shared) (σ : L2.St) (H : Hp) {a : Addr} {ns : List Int} (us : List Value) (Q : VK) (I : Inv X pins σ H s) (r : Vals [V.ref a] us)
    (ha : SqT X.K H a (ns.map V.int)) (q : Q (.int ns.sum) H) : wpAny (model X.prog X.w) X.A (call (.builtin "sum") us) (EP X pins σ Q) X.xe s := by
  obtain ⟨its, rv, ht, _⟩ := I.tuple ha
  rw [Vals.ref1 r]
  have hi := rv.ints
  obtain ⟨xs, e⟩ := hi.allInts.items
  have hn := hi.numsOf
  have e' : its = (intItems xs).toList := by simpa using congrArg Array.toList e
  rw [e', nums_intItems] at hn
  rw [e] at ht
  refine PySem.W.ktm_sumG (I.ok.hd hc) (show s.heap.IsTuple a (intItems xs) from ht) fun h' tk t' hk => ⟨.int ns.sum, H, I.kept hk, ⟨t', ?_⟩, q⟩
  rw [preSum_eq, List.take_of_length_le (by simp), hn]
theorem call_bltD (hc : X.calm = true) (hg : X.A.guards = some []) (hu : X.A.units + 100 < cLine) (b : B) : CallR X (bval b) (rBltD X.K b) := by
  intro pins s σ H vs us Q I r h
  obtain ⟨c, ds, rr, ho, h1, e, q⟩ := h
  unfold blt at e
  split at e
  · cases e
    obtain ⟨v, ws, rfl, d1, d2⟩ := h1.cons_out
    cases d2.nil_out
    obtain ⟨a, xs, rfl, ha, t⟩ := d1.lst
    exact call_len_seq pins s σ H _ us Q I r ⟨a, xs, rfl, .inl (SqL.of ha), by rw [t.length]; exact q.pure (dat_int.mpr rfl)⟩
  · cases e
    obtain ⟨v, ws, rfl, d1, d2⟩ := h1.cons_out
    cases d2.nil_out
    obtain ⟨a, xs, rfl, ha, _, t⟩ := d1.tup
    exact call_len_seq pins s σ H _ us Q I r ⟨a, xs, rfl, .inr ha, by rw [t.length]; exact q.pure (dat_int.mpr rfl)⟩
  · split at e
    · cases e
      obtain ⟨v, ws, rfl, d1, d2⟩ := h1.cons_out
      cases d2.nil_out
      exact call_len_str pins s σ H _ us Q I r ⟨_, by rw [d1.str], by assumption, q.pure (dat_int.mpr rfl)⟩
    · cases e
  · cases e
    obtain ⟨v, ws, rfl, d1, d2⟩ := h1.cons_out
    cases d2.nil_out
    exact call_abs pins s σ H _ us Q I r ⟨_, by rw [d1.int], q.pure (dat_int.mpr rfl)⟩
  · cases e
    obtain ⟨v, ws, rfl, d1, d2⟩ := h1.cons_out
    obtain ⟨v2, ws2, rfl, d3, d4⟩ := d2.cons_out
    cases d4.nil_out
    exact call_max2 hc pins s σ H _ us Q I r ⟨_, _, by rw [d1.int, d3.int], q.pure (dat_int.mpr rfl)⟩
  · cases e
    obtain ⟨v, ws, rfl, d1, d2⟩ := h1.cons_out
    obtain ⟨v2, ws2, rfl, d3, d4⟩ := d2.cons_out
    cases d4.nil_out
    exact call_min2 hc pins s σ H _ us Q I r ⟨_, _, by rw [d1.int, d3.int], q.pure (dat_int.mpr rfl)⟩
  · rename_i i xs
    rw [Option.map_eq_some_iff] at e
    obtain ⟨ns, e, rfl⟩ := e
    obtain ⟨v, ws, rfl, d1, d2⟩ := h1.cons_out
    cases d2.nil_out
    obtain ⟨a, zs, rfl, ha, t⟩ := d1.lst
    have ez := t.ints (ns := i :: ns) (by simp [toInts, e])
    subst ez
    obtain ⟨m1, m2⟩ := maxI_of i ns
    refine cr_max hc pins s σ H _ us Q I r ⟨a, i :: ns, rfl, SqL.of ha, by simp, fun m hm hle => ?_⟩
    have em : m = maxI i ns := by
      have := hle _ m1
      have := m2 m hm
      omega
    subst em
    exact q.pure (dat_int.mpr rfl)
  · rename_i i xs
    rw [Option.map_eq_some_iff] at e
    obtain ⟨ns, e, rfl⟩ := e
    obtain ⟨v, ws, rfl, d1, d2⟩ := h1.cons_out
    cases d2.nil_out
    obtain ⟨a, zs, rfl, ha, t⟩ := d1.lst
    have ez := t.ints (ns := i :: ns) (by simp [toInts, e])
    subst ez
    obtain ⟨m1, m2⟩ := minI_of i ns
    refine cr_min hc pins s σ H _ us Q I r ⟨a, i :: ns, rfl, SqL.of ha, by simp, fun m hm hle => ?_⟩
    have em : m = minI i ns := by
      have := hle _ m1
      have := m2 m hm
      omega
    subst em
    exact q.pure (dat_int.mpr rfl)
  · cases e
    obtain ⟨v, ws, rfl, d1, d2⟩ := h1.cons_out
    cases d2.nil_out
    exact call_int1 pins s σ H _ us Q I r (.inl ⟨_, by rw [d1.int], q.pure (dat_int.mpr rfl)⟩)
  · cases e
    obtain ⟨v, ws, rfl, d1, d2⟩ := h1.cons_out
    cases d2.nil_out
    exact call_int1 pins s σ H _ us Q I r (.inr ⟨_, by rw [d1.bl], q.pure (dat_int.mpr rfl)⟩)
  · cases e
    obtain ⟨v, ws, rfl, d1, d2⟩ := h1.cons_out
    cases d2.nil_out
    exact call_bool1 pins s σ H _ us Q I r (.inl ⟨_, by rw [d1.int], q.pure (dat_bl.mpr rfl)⟩)
  · cases e
    obtain ⟨v, ws, rfl, d1, d2⟩ := h1.cons_out
    cases d2.nil_out
    exact call_bool1 pins s σ H _ us Q I r (.inr ⟨_, by rw [d1.bl], q.pure (dat_bl.mpr rfl)⟩)
  · rw [Option.map_eq_some_iff] at e
    obtain ⟨ns, e, rfl⟩ := e
    obtain ⟨v, ws, rfl, d1, d2⟩ := h1.cons_out
    cases d2.nil_out
    obtain ⟨a, zs, rfl, ha, t⟩ := d1.lst
    have ez := t.ints e
    subst ez
    exact cr_sum hc pins s σ H _ us Q I r ⟨a, ns, rfl, SqL.of ha, q.pure (dat_int.mpr rfl)⟩
  · rw [Option.map_eq_some_iff] at e
    obtain ⟨ns, e, rfl⟩ := e
    obtain ⟨v, ws, rfl, d1, d2⟩ := h1.cons_out
    cases d2.nil_out
    obtain ⟨a, zs, rfl, ha, _, t⟩ := d1.tup
    have ez := t.ints e
    subst ez
    exact sum_tup hc pins s σ H us Q I r ha (q.pure (dat_int.mpr rfl))
  · cases e
    obtain ⟨v, ws, rfl, d1, d2⟩ := h1.cons_out
    cases d2.nil_out
    obtain ⟨a, xs, rfl, ha, t⟩ := d1.lst
    exact call_tuple_of pins s σ H _ us Q I r ⟨a, xs, rfl, .inl ⟨SqL.of ha, q.tup ho t⟩⟩
  · cases e
    obtain ⟨v, ws, rfl, d1, d2⟩ := h1.cons_out
    cases d2.nil_out
    obtain ⟨a, xs, rfl, ha, ha', t⟩ := d1.tup
    exact call_tuple_of pins s σ H _ us Q I r ⟨a, xs, rfl, .inr ⟨ha, q.pure (dat_tup.mpr ⟨a, xs, rfl, ha', t⟩)⟩⟩
  · cases e
    obtain ⟨v, ws, rfl, d1, d2⟩ := h1.cons_out
    cases d2.nil_out
    obtain ⟨a, xs, rfl, ha, t⟩ := d1.lst
    exact call_list_of pins s σ H _ us Q I r ⟨a, xs, rfl, .inl (SqL.of ha), fun l hl => q l _ hl t⟩
  · cases e
    obtain ⟨v, ws, rfl, d1, d2⟩ := h1.cons_out
    cases d2.nil_out
    obtain ⟨a, xs, rfl, ha, _, t⟩ := d1.tup
    exact call_list_of pins s σ H _ us Q I r ⟨a, xs, rfl, .inr ha, fun l hl => q l _ hl t⟩
  · rw [Option.map_eq_some_iff] at e
    obtain ⟨ns, e, rfl⟩ := e
    obtain ⟨v, ws, rfl, d1, d2⟩ := h1.cons_out
    cases d2.nil_out
    obtain ⟨a, zs, rfl, ha, t⟩ := d1.lst
    have ez := t.ints e
    subst ez
    refine cr_sortedI pins s σ H _ us Q I r ⟨a, ns, rfl, SqL.of ha, fun ns' p hp hs hn => ?_⟩
    have em := sorted_unique (hp.trans (sortI_perm ns).symm) hs (sortI_sorted ns)
    subst em
    exact q p _ hn (Dats.of_ints _)
  · rw [Option.map_eq_some_iff] at e
    obtain ⟨ns, e, rfl⟩ := e
    obtain ⟨v, ws, rfl, d1, d2⟩ := h1.cons_out
    cases d2.nil_out
    obtain ⟨a, zs, rfl, ha, t⟩ := d1.lst
    have ez := t.bools e
    subst ez
    exact cr_all hc pins s σ H _ us Q I r ⟨a, ns, rfl, SqL.of ha, q.pure (dat_bl.mpr rfl)⟩
  · rw [Option.map_eq_some_iff] at e
    obtain ⟨ns, e, rfl⟩ := e
    obtain ⟨v, ws, rfl, d1, d2⟩ := h1.cons_out
    cases d2.nil_out
    obtain ⟨a, zs, rfl, ha, t⟩ := d1.lst
    have ez := t.bools e
    subst ez
    exact cr_any hc pins s σ H _ us Q I r ⟨a, ns, rfl, SqL.of ha, q.pure (dat_bl.mpr rfl)⟩
  · split at e
    · rename_i hz
      cases e
      obtain ⟨v, ws, rfl, d1, d2⟩ := h1.cons_out
      cases d2.nil_out
      obtain ⟨u, rfl, rx⟩ := vals1 r
      simp only [Bool.and_eq_true, decide_eq_true_eq] at hz
      exact repr_run hg hu I rx d1 hz.1.2 hz.1.1 hz.2 (q.pure (dat_str.mpr rfl))
    · cases e
  · cases e
end
end PD

set_option Elab.async false
set_option linter.all false
set_option maxRecDepth 100000
set_option maxHeartbeats 4000000
/-! PyS5: what a def of the program promises (by a function on plain data), its calls. -/
namespace PD
open PySem PySem.Spec PyProof.Rows L2

def FPost (K : Fr) (ha ca : Addr) (P : Addr → Prop) (H : Hp) (r : R) (g : Hand) (v : V) (H' : Hp) : Prop :=
  (∀ b o, b ≠ ha → H b = some o → H' b = some o) ∧ HandOk ha ca H' g ∧
    match r with
    | .d x => Dat K ha (hid P H') v x
    | .f xs => ∃ p vs, v = .ref p ∧ H p = none ∧ H' p = some (.lst vs) ∧ Dats K ha (hid (fun b => P b ∨ b = p) H') vs xs
/-- the promise by φ -/
def spG (K : Fr) (xa : XA) (n : Nat) (φ : List D → Hand → FR) : Sp := fun vs H Q E => vs.length = n ∧ ∃ ha ca P ds g, P ha ∧ (∀ b, P b → ∃ o, H b = some o) ∧ HandOk ha ca H g ∧ ¬ P ca ∧ Dats K ha (hid P H) vs ds ∧
  match φ ds g with
  | .ret r g' => ∀ v H', FPost K ha ca P H r g' v H' → Q v H'
  | .ex e g' => ∀ cls d H', (∀ b o, b ≠ ha → H b = some o → H' b = some o) → HandOk ha ca H' g' → xa e cls d (hid P H') ha → E cls d H'
  | .bad => False
/-- a def keeps a promise wherever no text is being made -/
structure FnG (P : Program) (w : World) (K : Fr) (mg : Str → Option Value) (base : Heap) (k : Nat) (f : Addr) (fd : FuncData) (ps : List Str) (sp : Sp) : Prop where
  len : ∀ vs H Q E, sp vs H Q E → vs.length = ps.length
  run : ∀ (A : Around) (outer : List Env) (s : Shared) (H : Hp) (args : Args) (us : List Value) (vs : List V) (Q : VK) (E : XK), Room k A → A.guards = some [] → Env0 P w K mg base A outer s H → BindsTo s fd args (ps.zip us) → Vals vs us → sp vs H Q E →
    codeAny (model P w) A (.call (.ref f) args) (CR (L2.CX P w) outer P w H s Q E) s
theorem FnG.mono {P : Program} {w : World} {K : Fr} {mg : Str → Option Value} {base : Heap} {j k : Nat} {f : Addr} {fd : FuncData} {ps : List Str} {sp : Sp} (F : FnG P w K mg base j f fd ps sp) (h : j ≤ k) : FnG P w K mg base k f fd ps sp :=
  ⟨F.len, fun A outer s H args us vs Q E hr => F.run A outer s H args us vs Q E (hr.mono h)⟩
theorem FnG.weaker {P : Program} {w : World} {K : Fr} {mg : Str → Option Value} {base : Heap} {k : Nat} {f : Addr} {fd : FuncData} {ps : List Str} {sp sp' : Sp} (F : FnG P w K mg base k f fd ps sp) (h : ∀ vs H Q E, sp' vs H Q E → sp vs H Q E) : FnG P w K mg base k f fd ps sp' :=
  ⟨fun vs H Q E q => F.len vs H Q E (h _ _ _ _ q), fun A outer s H args us vs Q E hr hg he hb hv hs => F.run A outer s H args us vs Q E hr hg he hb hv (h _ _ _ _ hs)⟩
theorem guards_deeper {A : Around} {env : Env} (h : A.guards = some []) : (A.deeper env).guards = some [] := h

section
variable {X : Cx} {k : Nat} {f : Addr} {fd : FuncData} {ps : List Str} {sp : Sp} {dvs : List V} {ds : List Value} {W : WX} {x : Str} {p pos : Pos} {es : List Expr} {t : TA}
/-- the reading of a call: what is raised is wished for at the caller's slots -/
def tCallG (sp : Sp) (dvs : List V) (W : WX) (t : TA) : TE := fun σ H Q => t σ H fun vs H1 => sp (vs ++ dvs) H1 Q fun cls d H' => W cls d σ H'
theorem runG {pins : List (Addr × Obj)} {σ : L2.St} {H : Hp} {s : Shared} {Q : VK} {us : List Value} {vs : List V} (F : FnG X.prog X.w X.K X.mg X.base k f fd ps sp) (hr : Room k X.A) (hg : X.A.guards = some []) (hb : Binds X.K fd ps ds) (hd : Vals dvs ds) (tk : Takes X W)
    (I : Inv X pins σ H s) (r : Vals vs us) (h : sp (vs ++ dvs) H Q fun cls d H' => W cls d σ H') : wpAny (model X.prog X.w) X.A (call (.ref f) us) (EP X pins σ Q) X.xe s := by
  have r2 := r.append hd
  have len2 : (us ++ ds).length = ps.length := r2.length.symm.trans (F.len _ _ _ _ h)
  have go := F.run X.A X.stack s H ⟨us, []⟩ (us ++ ds) (vs ++ dvs) Q _ hr hg I.env0 (hb s us I.kIn len2) r2 h
  refine wpAny_call (codeAny_mono go fun res s' hq => ?_)
  match res, hq with
  | .error e, hq => exact tk e s' (XE.of_call I (fun _ _ _ z => z) hq)
  | .ok (.ret u), hq => exact I.after hq
  | .ok .next, hq => exact hq.elim
  | .ok .brk, hq => exact hq.elim
  | .ok .cont, hq => exact hq.elim
theorem pe_callG0 (F : FnG X.prog X.w X.K X.mg X.base k f fd ps sp) (hr : Room k X.A) (hgu : X.A.guards = some []) (hg : Gl X x) (hm : X.mg x = some (.ref f)) (hk : PySem.W.keepIn X.K (.ref f) = true) (hb : Binds X.K fd ps ds) (hd : Vals dvs ds) (tk : Takes X W)
    (hdb : (x == ("__debug__" : Str)) = false) : PE X (.Call (.Name x p) [] [] pos) (tCallG sp dvs W tNil) :=
  ⟨fun pins s σ H Q I h => wpAny_Call_Name_kw (ld_glob I hg hm (PySem.W.callWith_K0 I.kIn hk (runG (us := []) F hr hgu hb hd tk I .nil h)) hdb)⟩
/-- no argument is starred -/
def Plain (es : List Expr) (env : Env) : Prop := starEach es env = es.map fun e => (false, eval e env)
theorem Plain.tail {e : Expr} {es : List Expr} {env : Env} (h : Plain (e :: es) env) : Plain es env := by
  unfold Plain at h ⊢
  cases e <;> first | exact (List.cons.inj h).2 | (exact absurd (congrArg Prod.fst (List.cons.inj h).1) (by simp))
theorem Plain.head {e : Expr} {es : List Expr} {env : Env} (h : Plain (e :: es) env) : starEach (e :: es) env = (false, eval e env) :: starEach es env := by
  have h2 := h.tail
  unfold Plain at h h2
  rw [h, h2]; rfl
theorem Plain.any {es : List Expr} {env : Env} (h : Plain es env) (pos : Pos) : (backTo pos (starEach es env)).any (·.1) = false := by
  unfold Plain at h
  rw [h]
  simp [backTo]
theorem pe_callG (F : FnG X.prog X.w X.K X.mg X.base k f fd ps sp) (hr : Room k X.A) (hgu : X.A.guards = some []) (hg : Gl X x) (hm : X.mg x = some (.ref f)) (hk : PySem.W.keepIn X.K (.ref f) = true) (hb : Binds X.K fd ps ds) (hd : Vals dvs ds) (tk : Takes X W) {e : Expr}
    (ha : PA X (e :: es) t) (hdb : (x == ("__debug__" : Str)) = false) (hst : Plain (e :: es) X.env) : PE X (.Call (.Name x p) (e :: es) [] pos) (tCallG sp dvs W t) :=
  ⟨fun pins s σ H Q I h => wpAny_Call_Name_kw (ld_glob I hg hm (PySem.W.callWith_K (h₀ := X.base) I.ok.mod.kin hk (thn (ha.run pos pins s σ H _ I h) fun us s1 ⟨vs, H1, I1, r, q⟩ => ⟨I1.kIn, runG F hr hgu hb hd tk I1 r q⟩) hst.head (hst.tail.any pos)) hdb)⟩
end
end PD

set_option Elab.async false
set_option linter.all false
set_option maxRecDepth 100000
set_option maxHeartbeats 4000000
/-! PyS6: readings of expressions by the evaluator, and the rules for them. -/
namespace PD
open PySem PySem.Spec PyProof.Rows L2

/-- the defs that may be called (name, number of arguments, number in the environment of functions), the built-in names that nobody stored -/
structure Nm where
  fns : List (Str × Nat × Nat)
  bl : List Str
structure Tb where
  nm : Nm
  lv : Nat
  Φ : FEnv
  xa : XA
/-- a def of the table, as it stands -/
def FnIn (P : Program) (w : World) (K : Fr) (mg : Str → Option Value) (base : Heap) (T : Tb) (x : Str) (ar id : Nat) : Prop :=
  ∃ (f : Addr) (fd : FuncData) (ps : List Str) (dvs : List V) (ds : List Value) (dd : List D) (φ : List D → Hand → FR), FnG P w K mg base T.lv f fd ps (spG K T.xa ps.length φ) ∧ mg x = some (.ref f) ∧ PySem.W.keepIn K (.ref f) = true ∧ Binds K fd ps ds ∧ Vals dvs ds ∧
    (∀ ha H, Dats K ha H dvs dd) ∧ ar + dd.length = ps.length ∧ ∀ xs g, xs.length = ar → T.Φ id xs g ≠ .bad → T.Φ id xs g = φ (xs ++ dd) g
/-- a context in which expressions run -/
structure GE (X : Cx) (T : Tb) (N : List Str) (sc : Scope) (W : WX) : Prop where
  nN : X.N = N
  nd : N.Nodup
  sco : X.env.scope = sc
  calm : X.calm = true
  room : Room T.lv X.A
  gd : X.A.guards = some []
  tk : Takes X W
  fns : ∀ e ∈ T.nm.fns, FnIn X.prog X.w X.K X.mg X.base T e.1 e.2.1 e.2.2
  bl : ∀ x ∈ T.nm.bl, X.mg x = none
theorem GE.hu {X : Cx} {T : Tb} {N : List Str} {sc : Scope} {W : WX} (g : GE X T N sc W) : X.A.units + 100 < cLine := by
  have := g.room.un
  omega

/-- what an expression's value is -/
def ValOk (K : Fr) (c : Cf) (H : Hp) (r : R) (v : V) : Prop :=
  match r with
  | .d x => c.x = none ∧ Dat K c.ha (hid c.P H) v x
  | .f xs => ∃ p vs, v = .ref p ∧ c.x = some p ∧ H p = some (.lst vs) ∧ Dats K c.ha (hid c.P H) vs xs
def tste (Φ : FEnv) (e : E) (s : Stt) : Res Bool := (evE Φ e s).bind fun r s1 => Res.of (truth r.D) s1
section
variable (K : Fr) (T : Tb) (W : WX)
def rdE (e : E) : TE := fun σ H Q => ∃ c s, Rel K c s σ H ∧ c.x = none ∧ Run K T.xa W c σ H (evE T.Φ e s) fun r s' H' c' => ∀ v, ValOk K c' H' r v → Q v H'
def rdP (e : E) : TE := fun σ H Q => ∃ c s, Rel K c s σ H ∧ c.x = none ∧ Run K T.xa W c σ H (pk e (evE T.Φ e) s) fun d s' H' c' => c'.x = none → ∀ v, DatP K c' H' v d → Q v H'
def rdT (e : E) : TT := fun σ H Q => ∃ c s, Rel K c s σ H ∧ c.x = none ∧ Run K T.xa W c σ H (tst e (evE T.Φ e) s) fun b s' H' c' => c'.x = none → Q b H'
def rdTe (e : E) : TT := fun σ H Q => ∃ c s, Rel K c s σ H ∧ c.x = none ∧ Run K T.xa W c σ H (tste T.Φ e s) fun b s' H' c' => c'.x = none → Q b H'
def rdL (es : List E) : TA := fun σ H Q => ∃ c s, Rel K c s σ H ∧ c.x = none ∧ Run K T.xa W c σ H (evL T.Φ es s) fun ds s' H' c' => c'.x = none → ∀ vs, Dats K c'.ha (hid c'.P H') vs ds → Q vs H'
def rdPs (es : List E) : TA := fun σ H Q => ∃ c s, Rel K c s σ H ∧ c.x = none ∧ Run K T.xa W c σ H (evPs T.Φ es s) fun ds s' H' c' => c'.x = none → ∀ vs, DatPs K c' H' vs ds → Q vs H'
def rdO (e : Option E) : TO := fun σ H Q => ∃ c s, Rel K c s σ H ∧ c.x = none ∧ Run K T.xa W c σ H (evO T.Φ e s) fun o s' H' c' => c'.x = none → Q o H'
end
theorem _root_.L2.PE.mono {X : Cx} {e : Expr} {t t' : TE} (h : PE X e t) (w : ∀ σ H Q, t' σ H Q → t σ H Q) : PE X e t' := ⟨fun pins s σ H Q I q => h.run pins s σ H Q I (w σ H Q q)⟩
theorem _root_.L2.PT.mono {X : Cx} {e : Expr} {t t' : TT} (h : PT X e t) (w : ∀ σ H Q, t' σ H Q → t σ H Q) : PT X e t' := ⟨fun pins s σ H Q I q => h.run pins s σ H Q I (w σ H Q q)⟩
theorem _root_.L2.PW.mono {X : Cx} {e : Expr} {t t' : TT} (h : PW X e t) (w : ∀ σ H Q, t' σ H Q → t σ H Q) : PW X e t' := ⟨fun wh pins s σ H Q I q => h.run wh pins s σ H Q I (w σ H Q q)⟩
theorem _root_.L2.PA.mono {X : Cx} {e : List Expr} {t t' : TA} (h : PA X e t) (w : ∀ σ H Q, t' σ H Q → t σ H Q) : PA X e t' := ⟨fun pos pins s σ H Q I q => h.run pos pins s σ H Q I (w σ H Q q)⟩
theorem _root_.L2.PO.mono {X : Cx} {e : Option Expr} {t t' : TO} (h : PO X e t) (w : ∀ σ H Q, t' σ H Q → t σ H Q) : PO X e t' := ⟨fun pins s σ H Q I q => h.run pins s σ H Q I (w σ H Q q)⟩

section
variable {K : Fr} {T : Tb} {W : WX} {c : Cf} {s : Stt} {σ : L2.St} {H : Hp} {v : V}
/-- a value as plain data, behind it -/
theorem ValOk.dat {r : R} (rel : Rel K c s σ H) (h : ValOk K c H r v) : Dat K c.ha (hid (Cf.P { c with x := none }) H) v r.D := by
  cases r with
  | d x => exact Dat.mono rel.nox.2.same _ _ h.2
  | f xs =>
    obtain ⟨p, vs, rfl, hx, hp, t⟩ := h
    obtain ⟨n0, n1, n2⟩ := rel.new p (.inr hx)
    refine dat_lst.mpr ⟨p, vs, rfl, hid_mk (fun z => ?_) hp, Dats.mono rel.nox.2.same _ _ t⟩
    rcases z with z | z | ⟨i, z⟩ | z | z
    · exact n1 z
    · exact n2 z
    · exact rel.xne i p z hx
    · cases z
    · exact (rel.yy p z).2.2.2.2.1 hx
theorem wish_of {xa : XA} {r : R} {Q : VK} (rel : Rel K c s σ H) (hx : c.x = none) (h : ∀ H' c', XS c H c' H' → Rel K c' s σ H' → ∀ v, ValOk K c' H' r v → Q v H') : Wish K c H r Q := by
  cases r with
  | d x =>
    intro v H' hh hd
    rcases hh with rfl | ⟨p, o, hp, rfl⟩
    · exact h _ c .refl rel v ⟨hx, hd⟩
    · obtain ⟨r1, x1⟩ := rel.new1 (o := o) hp
      exact h _ c x1 r1 v ⟨hx, hd⟩
  | f xs =>
    intro p vs hp hd
    obtain ⟨r1, x1⟩ := rel.newx (vs := vs) hx hp
    exact h _ _ x1 r1 _ ⟨p, vs, rfl, rfl, upd_same, Dats.mono x1.same _ _ hd⟩
end

/-! ### what an expression is by what it does -/
structure Snd (X : Cx) (T : Tb) (W : WX) (e : Expr) (m : E) : Prop where
  ee : PE X e (rdE X.K T W m)
  pp : PE X e (rdP X.K T W m)
  tt : PT X e (rdT X.K T W m)
  tte : PT X e (rdTe X.K T W m)
  ww : ∀ op vs pos, e = .BoolOp op vs pos → PW X e (rdTe X.K T W m)
/-- no star, no slice, no set -/
def okE : Expr → Bool
  | .Starred _ _ => false
  | .Slice _ _ _ _ => false
  | .Set _ _ _ => false
  | _ => true
theorem ok_star {e : Expr} (h : okE e = true) (es : List Expr) (env : Env) : starEach (e :: es) env = (false, eval e env) :: starEach es env := by
  cases e <;> first | rfl | cases h
theorem ok_plainIx {e : Expr} (h : okE e = true) : PlainIx e := fun o i => by
  cases e <;> first | rfl | cases h
theorem ok_folded {e : Expr} (h : okE e = true) (env : Env) (x : Value) : foldedSetIterable e env x = pure x := by
  cases e <;> first | rfl | cases h
theorem ok_plain : ∀ {es : List Expr} (env : Env), (∀ e ∈ es, okE e = true) → Plain es env
  | [], _, _ => rfl
  | e :: es, env, h => by
    have h2 := ok_plain env fun x hx => h x (List.mem_cons_of_mem _ hx)
    unfold Plain at h2 ⊢
    rw [ok_star (h e List.mem_cons_self), h2]; rfl
def isVar : E → Bool
  | .var _ => true
  | _ => false
theorem pk_no {m : E} (h : isVar m = false) (f : Stt → Res R) (s : Stt) : pk m f s = (f s).bind fun r s1 => .ok r.D s1 := by
  cases m <;> first | rfl | cases h
theorem tst_no {m : E} (h : isVar m = false) (Φ : FEnv) (s : Stt) : tst m (evE Φ m) s = tste Φ m s := by
  unfold tst tste
  rw [pk_no h]
  cases evE Φ m s <;> rfl
section
variable {X : Cx} {T : Tb} {W : WX} {e : Expr} {m : E}
/-- to look at what is made -/
theorem p_of_e (hm : isVar m = false) (h : PE X e (rdE X.K T W m)) : PE X e (rdP X.K T W m) := h.mono fun σ H Q ⟨c, s, rel, hx, q⟩ => by
  rw [pk_no hm] at q
  refine ⟨c, s, rel, hx, q.bind.mono fun r s1 H1 c1 x1 r1 q1 v hv => ?_⟩
  obtain ⟨r2, x2⟩ := r1.nox
  have hd : Dat X.K c1.ha (hid (Cf.P { c1 with x := none }) H1) v r.D := hv.dat r1
  exact q1 _ _ x2 r2 rfl v (DatP.of (c := { c1 with x := none }) hd)
theorem truV_of {K : Fr} {c : Cf} {H : Hp} {v : V} {d : D} {b : Bool} (h : DatP K c H v d) (e : truth d = some b) : TruV K v H b := by
  cases d with
  | non => rw [h.non]; exact (Option.some.inj e).symm
  | bl k => rw [h.bl]; exact (Option.some.inj e).symm
  | int i => rw [h.int]; exact (Option.some.inj e).symm
  | str x =>
    rw [h.str]
    simp only [truth] at e
    split at e
    · exact ⟨by assumption, (Option.some.inj e).symm⟩
    · cases e
  | lst ds =>
    obtain ⟨a, xs, rfl, ha, t⟩ := h.lst
    refine .inl ⟨xs, SqL.of ha, ?_⟩
    have e' := Option.some.inj e
    rw [← e']
    have hl := t.length
    cases xs <;> cases ds <;> first | rfl | simp at hl
  | tup ds =>
    obtain ⟨a, xs, rfl, ha, _, t⟩ := h.tup
    refine .inr (.inl ⟨xs, ha, ?_⟩)
    have e' := Option.some.inj e
    rw [← e']
    have hl := t.length
    cases xs <;> cases ds <;> first | rfl | simp at hl
  | hand => cases e
  | edic => cases e
/-- tests of plain expressions -/
theorem t_of_p (he : ∀ whole, isTrue e X.env whole = (do let v ← whole; standAt e.pos; holding [v] (truthy v))) (h : PE X e (rdP X.K T W m)) : PT X e (rdT X.K T W m) := (pt_truth h he).mono fun σ H Q ⟨c, s, rel, hx, q⟩ => by
  unfold tst at q
  refine ⟨c, s, rel, hx, q.bind.mono fun d s1 H1 c1 x1 r1 q1 hx1 v hv => ?_⟩
  obtain ⟨b, eb, q2⟩ := q1.of
  exact ⟨b, truV_of hv eb, q2 _ _ .refl r1 hx1⟩
theorem te_of_e (he : ∀ whole, isTrue e X.env whole = (do let v ← whole; standAt e.pos; holding [v] (truthy v))) (h : PE X e (rdE X.K T W m)) : PT X e (rdTe X.K T W m) := (pt_truth h he).mono fun σ H Q ⟨c, s, rel, hx, q⟩ => by
  unfold tste at q
  refine ⟨c, s, rel, hx, q.bind.mono fun r s1 H1 c1 x1 r1 q1 v hv => ?_⟩
  obtain ⟨b, eb, q2⟩ := q1.of
  obtain ⟨r2, x2⟩ := r1.nox
  have hd : Dat X.K c1.ha (hid (Cf.P { c1 with x := none }) H1) v r.D := hv.dat r1
  replace hd := DatP.of (c := { c1 with x := none }) hd
  exact ⟨b, truV_of hd eb, q2 _ _ x2 r2 rfl⟩
theorem Snd.plain (hm : isVar m = false) (hb : ∀ op vs pos, e ≠ .BoolOp op vs pos) (he : ∀ whole, isTrue e X.env whole = (do let v ← whole; standAt e.pos; holding [v] (truthy v))) (h : PE X e (rdE X.K T W m)) : Snd X T W e m :=
  ⟨h, p_of_e hm h, t_of_p he (p_of_e hm h), te_of_e he h, fun op vs pos z => absurd z (hb op vs pos)⟩
/-- .. whose tests are told apart -/
theorem Snd.tested (hm : isVar m = false) (hb : ∀ op vs pos, e ≠ .BoolOp op vs pos) (h : PE X e (rdE X.K T W m)) (ht : PT X e (rdTe X.K T W m)) : Snd X T W e m :=
  ⟨h, p_of_e hm h, ht.mono fun σ H Q ⟨c, s, rel, hx, q⟩ => ⟨c, s, rel, hx, by rw [tst_no hm] at q; exact q⟩, ht, fun op vs pos z => absurd z (hb op vs pos)⟩

/-! ### names, constants -/
theorem snd_var {N : List Str} {sc : Scope} (g : GE X T N sc W) {x : Str} {i : Nat} {pos : Pos} (hN : N[i]? = some x) (hv : Vis sc x) (hd : (x == ("__debug__" : Str)) = false) (hc : (x == ("__classdict__" : Str)) = false) : Snd X T W (.Name x pos) (.var i) := by
  have base : PE X (.Name x pos) (tVar i) := pe_var (by rw [g.nN]; exact hN) (by rw [g.sco]; exact hv) hd hc
  have he : PE X (.Name x pos) (rdE X.K T W (.var i)) := base.mono fun σ H Q ⟨c, s, rel, hx, q⟩ => by
    unfold evE give at q
    split at q
    · rename_i y hy
      obtain ⟨v, ev, hd⟩ := rel.get hy
      exact ⟨v, ev, q _ _ .refl rel v ⟨hx, hd⟩⟩
    · rename_i ys hy
      obtain ⟨v, ev, r1, x1, hd⟩ := rel.give hy
      exact ⟨v, ev, q _ _ x1 r1 v ⟨hx, hd⟩⟩
    · exact q.elim
  have hp : PE X (.Name x pos) (rdP X.K T W (.var i)) := base.mono fun σ H Q ⟨c, s, rel, hx, q⟩ => by
    unfold pk at q
    obtain ⟨d, ed, q1⟩ := q.of
    obtain ⟨v, ev, hd⟩ := rel.peek ed
    exact ⟨v, ev, q1 _ _ .refl rel hx v hd⟩
  exact ⟨he, hp, t_of_p (fun _ => rfl) hp, te_of_e (fun _ => rfl) he, fun _ _ _ z => by cases z⟩
theorem snd_k {d : D} {v : V} {cst : Const} {j : Nat} {pos : Pos} (h : PE X (.Constant cst j pos) (tC v)) (hv : ∀ (K : Fr) ha H, Dat K ha H v d) : Snd X T W (.Constant cst j pos) (.k d) :=
  .plain rfl (fun _ _ _ z => by cases z) (fun _ => rfl) (h.mono fun σ H Q ⟨c, s, rel, hx, q⟩ => by
    unfold evE at q
    exact q _ _ .refl rel v ⟨hx, hv _ _ _⟩)

/-! ### operators -/
theorem snd_bin {a b : Expr} {ma mb : E} {op : Operator} {pos : Pos} (ha : Snd X T W a ma) (hb : Snd X T W b mb) : Snd X T W (.BinOp a op b pos) (.bin op ma mb) :=
  .plain rfl (fun _ _ _ z => by cases z) (fun _ => rfl) ((pe_op (op_binD op) ha.pp hb.pp).mono fun σ H Q ⟨c, s, rel, hx, q⟩ => by
    unfold evE at q
    refine ⟨c, s, rel, hx, q.bind.mono fun x s1 H1 c1 x1 r1 q1 hx1 v hv => ⟨c1, s1, r1, hx1, q1.bind.mono fun y s2 H2 c2 x2 r2 q2 hx2 u hu => ?_⟩⟩
    obtain ⟨r, er, q3⟩ := q2.of
    exact ⟨c2, x, y, r, r2.obs, hv.go x2, hu, er, wish_of (xa := T.xa) r2 hx2 q3⟩)
theorem e_cmp {N : List Str} {sc : Scope} (g : GE X T N sc W) {a b : Expr} {ma mb : E} {op : CmpOp} {pos : Pos} (hm : behindInMarks op b = false) (ha : Snd X T W a ma) (hb : Snd X T W b mb) : PE X (.Compare a [op] [b] pos) (rdE X.K T W (.cmp op ma mb)) :=
  (pe_cmpR (op_cmpD (by have := g.hu; omega) op) ha.pp hb.pp hm).mono fun σ H Q ⟨c, s, rel, hx, q⟩ => by
    unfold evE at q
    refine ⟨c, s, rel, hx, q.bind.mono fun x s1 H1 c1 x1 r1 q1 hx1 v hv => ⟨c1, s1, r1, hx1, q1.bind.mono fun y s2 H2 c2 x2 r2 q2 hx2 u hu => ?_⟩⟩
    obtain ⟨r, er, q3⟩ := q2.of_bind
    exact ⟨c2, x, y, r, hv.go x2, hu, er, q3 _ _ .refl r2 _ ⟨hx2, dat_bl.mpr rfl⟩⟩
theorem snd_cmp {N : List Str} {sc : Scope} (g : GE X T N sc W) {a b : Expr} {ma mb : E} {op : CmpOp} {pos : Pos} (hm : behindInMarks op b = false) (ha : Snd X T W a ma) (hb : Snd X T W b mb) : Snd X T W (.Compare a [op] [b] pos) (.cmp op ma mb) :=
  .tested rfl (fun _ _ _ z => by cases z) (e_cmp g hm ha hb) ((pt_cmpR (op_cmpD (by have := g.hu; omega) op) ha.pp hb.pp hm).mono fun σ H Q ⟨c, s, rel, hx, q⟩ => by
    unfold tste at q
    replace q := q.bind
    unfold evE at q
    refine ⟨c, s, rel, hx, q.bind.mono fun x s1 H1 c1 x1 r1 q1 hx1 v hv => ⟨c1, s1, r1, hx1, q1.bind.mono fun y s2 H2 c2 x2 r2 q2 hx2 u hu => ?_⟩⟩
    obtain ⟨r, er, q3⟩ := q2.of_bind
    exact ⟨c2, x, y, r, hv.go x2, hu, er, r, rfl, (q3 _ _ .refl r2) _ _ .refl r2 hx2⟩)
theorem snd_chain {N : List Str} {sc : Scope} (g : GE X T N sc W) {a b d : Expr} {ma mb md : E} {op op' : CmpOp} {pos : Pos} (hm : lastMarks [op, op'] [b, d] = false) (ha : Snd X T W a ma) (hb : Snd X T W b mb) (hd : Snd X T W d md) :
    Snd X T W (.Compare a [op, op'] [b, d] pos) (.chain op op' ma mb md) := by
  have hu : X.A.units + 64 < cLine := by have := g.hu; omega
  refine .tested rfl (fun _ _ _ z => by cases z) ((pe_chain (op_cmpD hu op) (op_cmpD hu op') ha.pp hb.pp hd.pp hm).mono fun σ H Q ⟨c, s, rel, hx, q⟩ => ?_) ((pt_chain (op_cmpD hu op) (op_cmpD hu op') ha.pp hb.pp hd.pp hm).mono fun σ H Q ⟨c, s, rel, hx, q⟩ => ?_)
  · unfold evE at q
    refine ⟨c, s, rel, hx, q.bind.mono fun x s1 H1 c1 x1 r1 q1 hx1 v hv => ⟨c1, s1, r1, hx1, q1.bind.mono fun y s2 H2 c2 x2 r2 q2 hx2 u hu => ?_⟩⟩
    obtain ⟨r, er, q3⟩ := q2.of_bind
    refine ⟨c2, x, y, r, hv.go x2, hu, er, r, rfl, ?_⟩
    cases r with
    | false =>
      rw [if_neg Bool.false_ne_true]
      exact q3 _ _ .refl r2 _ ⟨hx2, dat_bl.mpr rfl⟩
    | true =>
      rw [if_pos rfl]
      refine ⟨c2, s2, r2, hx2, q3.bind.mono fun z s3 H3 c3 x3 r3 q4 hx3 t ht => ?_⟩
      obtain ⟨r', er', q5⟩ := q4.of_bind
      exact ⟨c3, y, z, r', hu.go x3, ht, er', q5 _ _ .refl r3 _ ⟨hx3, dat_bl.mpr rfl⟩⟩
  · unfold tste at q
    replace q := q.bind
    unfold evE at q
    refine ⟨c, s, rel, hx, q.bind.mono fun x s1 H1 c1 x1 r1 q1 hx1 v hv => ⟨c1, s1, r1, hx1, q1.bind.mono fun y s2 H2 c2 x2 r2 q2 hx2 u hu => ?_⟩⟩
    obtain ⟨r, er, q3⟩ := q2.of_bind
    refine ⟨c2, x, y, r, hv.go x2, hu, er, r, rfl, ?_⟩
    cases r with
    | false =>
      rw [if_neg Bool.false_ne_true]
      exact ⟨false, rfl, q3 _ _ .refl r2 _ _ .refl r2 hx2⟩
    | true =>
      rw [if_pos rfl]
      refine ⟨c2, s2, r2, hx2, q3.bind.mono fun z s3 H3 c3 x3 r3 q4 hx3 t ht => ?_⟩
      obtain ⟨r', er', q5⟩ := q4.of_bind
      exact ⟨c3, y, z, r', hu.go x3, ht, er', r', rfl, q5 _ _ .refl r3 _ _ .refl r3 hx3⟩
theorem snd_neg {a : Expr} {ma : E} {pos : Pos} (ha : Snd X T W a ma) : Snd X T W (.UnaryOp .USub a pos) (.neg ma) :=
  .plain rfl (fun _ _ _ z => by cases z) (fun _ => rfl) ((pe_un un_neg ha.pp).mono fun σ H Q ⟨c, s, rel, hx, q⟩ => by
    unfold evE at q
    refine ⟨c, s, rel, hx, q.bind.mono fun x s1 H1 c1 x1 r1 q1 hx1 v hv => ?_⟩
    obtain ⟨i, ei, q2⟩ := q1.of_bind
    cases x with
    | int j =>
      cases ei
      exact ⟨_, hv.int, q2 _ _ .refl r1 _ ⟨hx1, dat_int.mpr rfl⟩⟩
    | _ => cases ei)
theorem snd_not {a : Expr} {ma : E} {pos : Pos} (ha : Snd X T W a ma) : Snd X T W (.UnaryOp .Not a pos) (.not ma) :=
  .tested rfl (fun _ _ _ z => by cases z) ((pe_notT ha.pp).mono fun σ H Q ⟨c, s, rel, hx, q⟩ => by
    unfold evE tst at q
    refine ⟨c, s, rel, hx, q.bind.bind.mono fun x s1 H1 c1 x1 r1 q1 hx1 v hv => ?_⟩
    obtain ⟨b, eb, q2⟩ := q1.of
    exact ⟨b, truV_of hv eb, q2 _ _ .refl r1 _ _ .refl r1 _ ⟨hx1, dat_bl.mpr rfl⟩⟩)
    ((pt_not ha.tt).mono fun σ H Q ⟨c, s, rel, hx, q⟩ => by
    unfold tste at q
    replace q := q.bind
    unfold evE at q
    exact ⟨c, s, rel, hx, q.bind.mono fun x s1 H1 c1 x1 r1 q1 hx1 => (q1 _ _ .refl r1) _ _ .refl r1 hx1⟩)
end
end PD

set_option Elab.async false
set_option linter.all false
set_option maxRecDepth 100000
set_option maxHeartbeats 4000000
/-! PyS7: and, or, displays, items, slices, calls. -/
namespace PD
open PySem PySem.Spec PyProof.Rows L2

theorem Run.monoE {K : Fr} {xa : XA} {W : WX} {c : Cf} {σ : L2.St} {H : Hp} {α : Type} {r : Res α} {k k' : α → Stt → Hp → Cf → Prop} (h : Run K xa W c σ H r k) (m : ∀ a s' H' c', r = .ok a s' → XS c H c' H' → Rel K c' s' σ H' → k a s' H' c' → k' a s' H' c') : Run K xa W c σ H r k' := by
  cases r with
  | ok a s => exact fun H' c' x q => m a s H' c' rfl x q (h H' c' x q)
  | ex e s => exact h
  | bad => exact h
section
variable {X : Cx} {T : Tb} {W : WX}
theorem datP_r {K : Fr} {c : Cf} {s : Stt} {σ : L2.St} {H : Hp} {r : R} {v : V} (rel : Rel K c s σ H) (h : ValOk K c H r v) : DatP K { c with x := none } H v r.D := by
  have hd : Dat K c.ha (hid (Cf.P { c with x := none }) H) v r.D := h.dat rel
  exact DatP.of (c := { c with x := none }) hd

/-! ### and, or -/
theorem snd_one {op : BoolOp} {a : Expr} {ma : E} {pos : Pos} (ha : Snd X T W a ma) : Snd X T W (.BoolOp op [a] pos) ma :=
  ⟨pe_one ha.ee, pe_one ha.pp, by cases op; exact (pw_and1 ha.tt).pt; exact (pw_or1 ha.tt).pt, by cases op; exact (pw_and1 ha.tte).pt; exact (pw_or1 ha.tte).pt, fun _ _ _ _ => by cases op; exact pw_and1 ha.tte; exact pw_or1 ha.tte⟩
theorem snd_and {a b : Expr} {rest : List Expr} {ma mb : E} {pos : Pos} (ha : Snd X T W a ma) (hb : Snd X T W (.BoolOp .And (b :: rest) pos) mb) : Snd X T W (.BoolOp .And (a :: b :: rest) pos) (.and ma mb) := by
  have he : PE X (.BoolOp .And (a :: b :: rest) pos) (rdE X.K T W (.and ma mb)) := (pe_andT ha.ee hb.ee).mono fun σ H Q ⟨c, s, rel, hx, q⟩ => by
    unfold evE at q
    refine ⟨c, s, rel, hx, q.bind.mono fun r s1 H1 c1 x1 r1 q1 v hv => ?_⟩
    obtain ⟨t, et, q2⟩ := q1.of_bind
    obtain ⟨r2, x2⟩ := r1.nox
    refine ⟨t, truV_of (datP_r r1 hv) et, ?_⟩
    cases t with
    | true => rw [if_pos rfl]; exact ⟨_, s1, r2, rfl, Run.weak x2 q2⟩
    | false =>
      rw [if_neg Bool.false_ne_true]
      have hd : Dat X.K c1.ha (hid (Cf.P { c1 with x := none }) H1) v r.D := hv.dat r1
      exact q2 _ _ x2 r2 v ⟨rfl, hd⟩
  have hw : PW X (.BoolOp .And (a :: b :: rest) pos) (rdTe X.K T W (.and ma mb)) := (pw_and ha.tte (hb.ww _ _ _ rfl)).mono fun σ H Q ⟨c, s, rel, hx, q⟩ => by
    unfold tste evE at q
    refine ⟨c, s, rel, hx, ?_⟩
    unfold tste
    cases hE : evE T.Φ ma s with
    | bad => rw [hE] at q; exact q
    | ex e s1 => rw [hE] at q; exact q
    | ok r s1 =>
      rw [hE] at q
      simp only [Res.bind_ok] at q ⊢
      cases ht : truth r.D with
      | none => rw [ht] at q; exact q.elim
      | some t =>
        rw [ht] at q
        simp only [Res.of_some, Res.bind_ok] at q ⊢
        intro H1 c1 x1 r1 hx1
        cases t with
        | true => rw [if_pos rfl]; exact ⟨c1, s1, r1, hx1, Run.weak x1 q⟩
        | false =>
          rw [if_neg Bool.false_ne_true]
          have q' : Run X.K T.xa W c σ H (Res.of (truth r.D) s1) fun b s' H' c' => c'.x = none → Q b H' := q
          rw [ht] at q'
          exact q' _ _ x1 r1 hx1
  exact ⟨he, p_of_e rfl he, hw.pt.mono fun σ H Q ⟨c, s, rel, hx, q⟩ => ⟨c, s, rel, hx, by rw [tst_no rfl] at q; exact q⟩, hw.pt, fun _ _ _ _ => hw⟩
theorem snd_or {a b : Expr} {rest : List Expr} {ma mb : E} {pos : Pos} (ha : Snd X T W a ma) (hb : Snd X T W (.BoolOp .Or (b :: rest) pos) mb) : Snd X T W (.BoolOp .Or (a :: b :: rest) pos) (.or ma mb) := by
  have he : PE X (.BoolOp .Or (a :: b :: rest) pos) (rdE X.K T W (.or ma mb)) := (pe_orT ha.ee hb.ee).mono fun σ H Q ⟨c, s, rel, hx, q⟩ => by
    unfold evE at q
    refine ⟨c, s, rel, hx, q.bind.mono fun r s1 H1 c1 x1 r1 q1 v hv => ?_⟩
    obtain ⟨t, et, q2⟩ := q1.of_bind
    obtain ⟨r2, x2⟩ := r1.nox
    refine ⟨t, truV_of (datP_r r1 hv) et, ?_⟩
    cases t with
    | false => rw [if_neg Bool.false_ne_true]; exact ⟨_, s1, r2, rfl, Run.weak x2 q2⟩
    | true =>
      rw [if_pos rfl]
      have hd : Dat X.K c1.ha (hid (Cf.P { c1 with x := none }) H1) v r.D := hv.dat r1
      exact q2 _ _ x2 r2 v ⟨rfl, hd⟩
  have hw : PW X (.BoolOp .Or (a :: b :: rest) pos) (rdTe X.K T W (.or ma mb)) := (pw_or ha.tte (hb.ww _ _ _ rfl)).mono fun σ H Q ⟨c, s, rel, hx, q⟩ => by
    unfold tste evE at q
    refine ⟨c, s, rel, hx, ?_⟩
    unfold tste
    cases hE : evE T.Φ ma s with
    | bad => rw [hE] at q; exact q
    | ex e s1 => rw [hE] at q; exact q
    | ok r s1 =>
      rw [hE] at q
      simp only [Res.bind_ok] at q ⊢
      cases ht : truth r.D with
      | none => rw [ht] at q; exact q.elim
      | some t =>
        rw [ht] at q
        simp only [Res.of_some, Res.bind_ok] at q ⊢
        intro H1 c1 x1 r1 hx1
        cases t with
        | false => rw [if_neg Bool.false_ne_true]; exact ⟨c1, s1, r1, hx1, Run.weak x1 q⟩
        | true =>
          rw [if_pos rfl]
          have q' : Run X.K T.xa W c σ H (Res.of (truth r.D) s1) fun b s' H' c' => c'.x = none → Q b H' := q
          rw [ht] at q'
          exact q' _ _ x1 r1 hx1
  exact ⟨he, p_of_e rfl he, hw.pt.mono fun σ H Q ⟨c, s, rel, hx, q⟩ => ⟨c, s, rel, hx, by rw [tst_no rfl] at q; exact q⟩, hw.pt, fun _ _ _ _ => hw⟩
theorem pt_ifExp {c a b : Expr} {tc ta tb : TT} {pos : Pos} (hc : PT X c tc) (ha : PT X a ta) (hb : PT X b tb) : PT X (.IfExp c a b pos) (fun σ H Q => tc σ H fun k H1 => if k = true then ta σ H1 Q else tb σ H1 Q) := by
  refine ⟨fun pins s σ H Q I h => ?_⟩
  show wpAny _ _ (do if ← isTrue c X.env (eval c X.env) then isTrue a X.env (eval a X.env) else isTrue b X.env (eval b X.env)) _ _ _
  refine wpAny_bind (thn (hc.run pins s σ H _ I h) fun k s1 ⟨H1, I1, q1⟩ => ?_)
  cases k with
  | true => exact ha.run pins s1 σ H1 Q I1 q1
  | false => exact hb.run pins s1 σ H1 Q I1 q1
theorem snd_ife {c a b : Expr} {mc ma mb : E} {pos : Pos} (hc : Snd X T W c mc) (ha : Snd X T W a ma) (hb : Snd X T W b mb) : Snd X T W (.IfExp c a b pos) (.ife mc ma mb) :=
  .tested rfl (fun _ _ _ z => by cases z) ((pe_ifExp hc.tt ha.ee hb.ee).mono fun σ H Q ⟨c, s, rel, hx, q⟩ => by
    unfold evE at q
    refine ⟨c, s, rel, hx, q.bind.mono fun t s1 H1 c1 x1 r1 q1 hx1 => ?_⟩
    cases t with
    | true => rw [if_pos rfl]; exact ⟨c1, s1, r1, hx1, q1⟩
    | false => rw [if_neg Bool.false_ne_true]; exact ⟨c1, s1, r1, hx1, q1⟩)
    ((pt_ifExp hc.tt ha.tte hb.tte).mono fun σ H Q ⟨c, s, rel, hx, q⟩ => by
    unfold tste evE at q
    have q' : Run X.K T.xa W c σ H ((tst mc (evE T.Φ mc) s).bind fun t s1 => tste T.Φ (match t with | true => ma | false => mb) s1) fun b s' H' c' => c'.x = none → Q b H' := by
      cases hE : tst mc (evE T.Φ mc) s with
      | bad => rw [hE] at q; exact q
      | ex e s1 => rw [hE] at q; exact q
      | ok t s1 => rw [hE] at q; cases t <;> exact q
    refine ⟨c, s, rel, hx, q'.bind.mono fun t s1 H1 c1 x1 r1 q1 hx1 => ?_⟩
    cases t with
    | true => rw [if_pos rfl]; exact ⟨c1, s1, r1, hx1, q1⟩
    | false => rw [if_neg Bool.false_ne_true]; exact ⟨c1, s1, r1, hx1, q1⟩)

/-! ### argument lists -/
def SndL (X : Cx) (T : Tb) (W : WX) : List Expr → List E → Prop
  | [], [] => True
  | e :: es, m :: ms => okE e = true ∧ Snd X T W e m ∧ SndL X T W es ms
  | [], _ :: _ => False
  | _ :: _, [] => False
theorem SndL.nil_out {ms : List E} (h : SndL X T W [] ms) : ms = [] := by
  cases ms with
  | nil => rfl
  | cons _ _ => exact h.elim
theorem SndL.cons_out {e : Expr} {es : List Expr} {ms : List E} (h : SndL X T W (e :: es) ms) : ∃ m ms', ms = m :: ms' ∧ okE e = true ∧ Snd X T W e m ∧ SndL X T W es ms' := by
  cases ms with
  | nil => exact h.elim
  | cons m ms => exact ⟨m, ms, rfl, h⟩
theorem SndL.length : ∀ {es : List Expr} {ms : List E}, SndL X T W es ms → es.length = ms.length
  | [], ms, h => by
    have z := h.nil_out
    subst z; rfl
  | e :: es, ms, h => by
    obtain ⟨m, ms', rfl, _, _, t⟩ := h.cons_out
    simp [t.length]
theorem SndL.ok : ∀ {es : List Expr} {ms : List E}, SndL X T W es ms → ∀ e ∈ es, okE e = true
  | [], _, _, _, h => by cases h
  | e :: es, ms, h, x, hx => by
    obtain ⟨m, ms', rfl, o, _, t⟩ := h.cons_out
    rcases List.mem_cons.mp hx with rfl | hx
    · exact o
    · exact t.ok x hx
theorem SndL.pa : ∀ {es : List Expr} {ms : List E}, SndL X T W es ms → PA X es (rdL X.K T W ms)
  | [], ms, h => by
    rw [h.nil_out]
    exact pa_nil.mono fun σ H Q ⟨c, s, rel, hx, q⟩ => by
      unfold evL at q
      exact q _ _ .refl rel hx [] Dats.nil
  | e :: es, ms, h => by
    obtain ⟨m, ms', rfl, o, h1, t⟩ := h.cons_out
    exact (pa_cons h1.ee t.pa (ok_star o es X.env)).mono fun σ H Q ⟨c, s, rel, hx, q⟩ => by
      unfold evL at q
      refine ⟨c, s, rel, hx, q.bind.mono fun r s1 H1 c1 x1 r1 q1 v hv => ?_⟩
      obtain ⟨r2, x2⟩ := r1.nox
      refine ⟨_, s1, r2, rfl, (Run.weak x2 q1).bind.mono fun xs s2 H2 c2 x3 r3 q2 hx2 vs hvs => q2 _ _ .refl r3 hx2 _ (Dats.cons ?_ hvs)⟩
      have hd := hv.dat r1
      rw [show c2.ha = c1.ha from x3.ha]
      exact Dat.mono x3.same _ _ hd
theorem SndL.pas : ∀ {es : List Expr} {ms : List E}, SndL X T W es ms → PA X es (rdPs X.K T W ms)
  | [], ms, h => by
    rw [h.nil_out]
    exact pa_nil.mono fun σ H Q ⟨c, s, rel, hx, q⟩ => by
      unfold evPs at q
      exact q _ _ .refl rel hx [] trivial
  | e :: es, ms, h => by
    obtain ⟨m, ms', rfl, o, h1, t⟩ := h.cons_out
    exact (pa_cons h1.pp t.pas (ok_star o es X.env)).mono fun σ H Q ⟨c, s, rel, hx, q⟩ => by
      unfold evPs at q
      exact ⟨c, s, rel, hx, q.bind.mono fun r s1 H1 c1 x1 r1 q1 hx1 v hv => ⟨_, s1, r1, hx1, q1.bind.mono fun xs s2 H2 c2 x3 r3 q2 hx2 vs hvs => q2 _ _ .refl r3 hx2 _ ⟨hv.go x3, hvs⟩⟩⟩
theorem evL_length (Φ : FEnv) : ∀ {es : List E} {s s' : Stt} {xs : List D}, evL Φ es s = .ok xs s' → xs.length = es.length
  | [], s, s', xs, h => by
    unfold evL at h
    cases h; rfl
  | e :: es, s, s', xs, h => by
    unfold evL at h
    cases h1 : evE Φ e s with
    | bad => rw [h1] at h; cases h
    | ex _ _ => rw [h1] at h; cases h
    | ok r s1 =>
      rw [h1] at h
      simp only [Res.bind_ok] at h
      cases h2 : evL Φ es s1 with
      | bad => rw [h2] at h; cases h
      | ex _ _ => rw [h2] at h; cases h
      | ok ys s2 =>
        rw [h2] at h
        simp only [Res.bind_ok] at h
        cases h
        simp [evL_length Φ h2]
theorem snd_tup {es : List Expr} {ms : List E} {k : Nat} {pos : Pos} (h : SndL X T W es ms) : Snd X T W (.Tuple es k pos) (.tup ms) :=
  .plain rfl (fun _ _ _ z => by cases z) (fun _ => rfl) ((pe_tup h.pa).mono fun σ H Q ⟨c, s, rel, hx, q⟩ => by
    unfold evE at q
    refine ⟨c, s, rel, hx, q.bind.mono fun xs s1 H1 c1 x1 r1 q1 hx1 vs hvs => ?_⟩
    split at q1
    · rename_i hz
      refine ⟨by rw [hvs.length]; exact hz, fun p hp => ?_⟩
      have w := wish_of (xa := T.xa) r1 hx1 q1
      exact w.tup r1.obs hvs p hp
    · exact q1.elim)
theorem snd_lst {es : List Expr} {ms : List E} {pos : Pos} (h : SndL X T W es ms) : Snd X T W (.List es pos) (.lst ms) :=
  .plain rfl (fun _ _ _ z => by cases z) (fun _ => rfl) ((pe_lst h.pa).mono fun σ H Q ⟨c, s, rel, hx, q⟩ => by
    unfold evE at q
    refine ⟨c, s, rel, hx, q.bind.mono fun xs s1 H1 c1 x1 r1 q1 hx1 vs hvs => ?_⟩
    split at q1
    · rename_i hz
      refine ⟨by rw [hvs.length]; exact hz, fun p hp => ?_⟩
      have w := wish_of (xa := T.xa) r1 hx1 q1
      exact w p vs hp hvs
    · exact q1.elim)

/-! ### items, slices -/
theorem snd_ix {a i : Expr} {ma mi : E} {pos : Pos} (ha : Snd X T W a ma) (hi : Snd X T W i mi) (ho : okE i = true) : Snd X T W (.Subscript a i pos) (.ix ma mi) :=
  .plain rfl (fun _ _ _ z => by cases z) (fun _ => rfl) ((pe_ix ix_D ha.pp hi.pp (ok_plainIx ho)).mono fun σ H Q ⟨c, s, rel, hx, q⟩ => by
    unfold evE at q
    refine ⟨c, s, rel, hx, q.bind.mono fun x s1 H1 c1 x1 r1 q1 hx1 v hv => ⟨c1, s1, r1, hx1, q1.bind.mono fun y s2 H2 c2 x2 r2 q2 hx2 u hu => ?_⟩⟩
    obtain ⟨d, ed, q3⟩ := q2.of_bind
    exact ⟨c2, _, x, y, d, r2.hnd, r2.hca, hv.go x2, hu, ed, fun z hz => q3 _ _ .refl r2 z ⟨hx2, hz⟩⟩)
/-- a slice's part -/
def SndO (X : Cx) (T : Tb) (W : WX) : Option Expr → Option E → Prop
  | none, none => True
  | some e, some m => Snd X T W e m
  | none, some _ => False
  | some _, none => False
theorem SndO.po : ∀ {o : Option Expr} {m : Option E}, SndO X T W o m → PO X o (rdO X.K T W m)
  | none, none, _ => po_none.mono fun σ H Q ⟨c, s, rel, hx, q⟩ => by
    unfold evO at q
    exact q _ _ .refl rel hx
  | some e, some m, h => (po_some (Snd.pp h)).mono fun σ H Q ⟨c, s, rel, hx, q⟩ => by
    unfold evO at q
    refine ⟨c, s, rel, hx, q.bind.mono fun x s1 H1 c1 x1 r1 q1 hx1 v hv => ?_⟩
    obtain ⟨i, ei, q2⟩ := q1.of_bind
    cases x with
    | int j =>
      cases ei
      exact ⟨_, hv.int, q2 _ _ .refl r1 hx1⟩
    | _ => cases ei
  | none, some _, h => h.elim
  | some _, none, h => h.elim
theorem snd_sl {a : Expr} {lo hi : Option Expr} {ma : E} {ml mh : Option E} {pos p2 : Pos} (ha : Snd X T W a ma) (hl : SndO X T W lo ml) (hh : SndO X T W hi mh) : Snd X T W (.Subscript a (.Slice lo hi none p2) pos) (.sl ma ml mh) :=
  .plain rfl (fun _ _ _ z => by cases z) (fun _ => rfl) ((pe_slice sl_D ha.pp hl.po hh.po).mono fun σ H Q ⟨c, s, rel, hx, q⟩ => by
    unfold evE at q
    refine ⟨c, s, rel, hx, q.bind.mono fun x s1 H1 c1 x1 r1 q1 hx1 v hv => ⟨c1, s1, r1, hx1, q1.bind.mono fun l s2 H2 c2 x2 r2 q2 hx2 => ⟨c2, s2, r2, hx2, q2.bind.mono fun h s3 H3 c3 x3 r3 q3 hx3 => ?_⟩⟩⟩
    obtain ⟨r, er, q4⟩ := q3.of
    exact ⟨c3, x, r, r3.obs, (hv.go x2).go x3, er, wish_of (xa := T.xa) r3 hx3 q4⟩)
theorem snd_rvs {a : Expr} {ma : E} {k : Nat} {p1 p2 p3 pos : Pos} (ha : Snd X T W a ma) : Snd X T W (.Subscript a (.Slice none none (some (.UnaryOp .USub (.Constant (.int 1) k p1) p2)) p3) pos) (.rvs ma) :=
  .plain rfl (fun _ _ _ z => by cases z) (fun _ => rfl) ((pe_revL ha.pp).mono fun σ H Q ⟨c, s, rel, hx, q⟩ => by
    unfold evE at q
    refine ⟨c, s, rel, hx, q.bind.mono fun x s1 H1 c1 x1 r1 q1 hx1 v hv => ?_⟩
    obtain ⟨xs, ex, q2⟩ := q1.of_bind
    cases x with
    | lst ds =>
      cases ex
      obtain ⟨a, vs, rfl, ha, t⟩ := hv.lst
      refine ⟨a, vs, rfl, SqL.of ha, fun p hp => ?_⟩
      have w := wish_of (xa := T.xa) r1 hx1 q2
      exact w p _ hp t.reverse
    | _ => cases ex)

/-! ### calls -/
theorem same_or {c : Cf} {p : Addr} {H : Hp} (hx : c.x = none) : Same (hid (fun b => c.P b ∨ b = p) H) (hid (Cf.P { c with x := some p }) H) := same_hid fun b o n q => ⟨fun z => by
  rcases z with z | z | z | z | z
  · exact n (.inl (.inl z))
  · exact n (.inl (.inr (.inl z)))
  · exact n (.inl (.inr (.inr (.inl z))))
  · exact n (.inr (Option.some.inj z).symm)
  · exact n (.inl (.inr (.inr (.inr (.inr z))))), q⟩
theorem call_run {N : List Str} {sc : Scope} (g : GE X T N sc W) {σ : L2.St} {H1 : Hp} {Q : VK} {c1 : Cf} {s1 : Stt} {id : Nat} {xs dd : List D} {vs dvs : List V} {n ar : Nat} {φ : List D → Hand → FR}
    (r1 : Rel X.K c1 s1 σ H1) (hx1 : c1.x = none) (hvs : Dats X.K c1.ha (hid c1.P H1) vs xs) (hl : xs.length = ar) (hdd : ∀ ha H, Dats X.K ha H dvs dd) (hn : ar + dd.length = n) (hφ : ∀ xs g, xs.length = ar → T.Φ id xs g ≠ .bad → T.Φ id xs g = φ (xs ++ dd) g)
    (q : Run X.K T.xa W c1 σ H1 ((T.Φ id xs s1.g).res s1) fun r s' H' c' => ∀ v, ValOk X.K c' H' r v → Q v H') : spG X.K T.xa n φ (vs ++ dvs) H1 Q fun cls d H' => W cls d σ H' := by
  have hnb : T.Φ id xs s1.g ≠ .bad := fun z => by rw [z] at q; exact q
  have e := hφ xs s1.g hl hnb
  refine ⟨by rw [List.length_append, hvs.length, (hdd c1.ha H1).length]; omega, c1.ha, c1.ca, c1.P, xs ++ dd, s1.g, .inl rfl, fun b h => r1.P_some h, r1.hnd, r1.hca, hvs.append (hdd _ _), ?_⟩
  rw [← e]
  cases hF : T.Φ id xs s1.g with
  | bad => exact hnb hF
  | ret r g' =>
    rw [hF] at q
    intro v H' ⟨ext, hh, hr⟩
    cases r with
    | d x =>
      obtain ⟨r2, x2⟩ := r1.grow ext hh
      exact q H' c1 x2 r2 v ⟨hx1, hr⟩
    | f ys =>
      obtain ⟨p, ws, rfl, hp, hp', t⟩ := hr
      obtain ⟨r2, x2⟩ := r1.growx hx1 hp hp' ext hh
      exact q H' _ x2 r2 _ ⟨p, ws, rfl, rfl, hp', Dats.mono (same_or hx1) _ _ t⟩
  | ex e g' =>
    rw [hF] at q
    intro cls d H' ext hh hxa
    obtain ⟨r2, x2⟩ := r1.grow ext hh
    exact q cls d H' c1 x2 r2 hx1 hxa
theorem snd_call {N : List Str} {sc : Scope} (g : GE X T N sc W) {x : Str} {id : Nat} {es : List Expr} {ms : List E} {p pos : Pos} (hf : (x, es.length, id) ∈ T.nm.fns) (hg : sc.names.lookup x = some .globalImplicit) (hd : (x == ("__debug__" : Str)) = false) (h : SndL X T W es ms) :
    Snd X T W (.Call (.Name x p) es [] pos) (.call id ms) := by
  obtain ⟨f, fd, ps, dvs, ds, dd, φ, F, hm, hk, hb, hdv, hdd, hn, hφ⟩ := g.fns _ hf
  have hgl : Gl X x := by show X.env.scope.names.lookup x = _; rw [g.sco]; exact hg
  refine .plain rfl (fun _ _ _ z => by cases z) (fun _ => rfl) ?_
  cases es with
  | nil =>
    have e := h.nil_out
    subst e
    exact (pe_callG0 F g.room g.gd hgl hm hk hb hdv g.tk hd).mono fun σ H Q ⟨c, s, rel, hx, q⟩ => by
      unfold evE evL at q
      exact call_run (xs := []) g rel hx Dats.nil rfl hdd hn hφ q
  | cons e es =>
    exact (pe_callG F g.room g.gd hgl hm hk hb hdv g.tk h.pa hd (ok_plain X.env h.ok)).mono fun σ H Q ⟨c, s, rel, hx, q⟩ => by
      unfold evE at q
      exact ⟨c, s, rel, hx, q.bind.monoE fun xs s1 H1 c1 eq x1 r1 q1 hx1 vs hvs => call_run g r1 hx1 hvs (by rw [evL_length T.Φ eq, ← h.length]) hdd hn hφ q1⟩

/-! ### built-in defs -/
def bname : B → Str
  | .len => "len"
  | .abs => "abs"
  | .max => "max"
  | .min => "min"
  | .int => "int"
  | .sum => "sum"
  | .tuple => "tuple"
  | .list => "list"
  | .sorted => "sorted"
  | .all => "all"
  | .any => "any"
  | .repr => "repr"
  | .bool => "bool"
theorem bname_boot (b : B) : bootBuiltins (bname b) = some (bval b) ∧ bname b ≠ "__name__" ∧ (bname b == ("__debug__" : Str)) = false := by
  cases b <;> exact ⟨by decide +kernel, by decide +kernel, by decide +kernel⟩
theorem pe_blt {N : List Str} {sc : Scope} (g : GE X T N sc W) (b : B) {e : Expr} {es : List Expr} {t : TA} {p pos : Pos} (hg : sc.names.lookup (bname b) = some .globalImplicit) (hb : bname b ∈ T.nm.bl) (ha : PA X (e :: es) t) (hp : Plain (e :: es) X.env) :
    PE X (.Call (.Name (bname b) p) (e :: es) [] pos) (tCB (rBltD X.K b) t) := by
  have hgl : Gl X (bname b) := by show X.env.scope.names.lookup _ = _; rw [g.sco]; exact hg
  obtain ⟨b1, b2, b3⟩ := bname_boot b
  have hc := call_bltD g.calm g.gd g.hu b
  have hm := g.bl _ hb
  cases b <;> first
    | exact pe_callB hc hgl hm b1 ha b2 b3 hp.head (hp.tail.any pos)
    | exact pe_callTy hc hgl hm b1 ha b2 b3 hp.head (hp.tail.any pos)
theorem snd_blt {N : List Str} {sc : Scope} (g : GE X T N sc W) (b : B) {e : Expr} {es : List Expr} {ms : List E} {p pos : Pos} (hg : sc.names.lookup (bname b) = some .globalImplicit) (hb : bname b ∈ T.nm.bl) (h : SndL X T W (e :: es) ms) :
    Snd X T W (.Call (.Name (bname b) p) (e :: es) [] pos) (.blt b ms) :=
  .plain rfl (fun _ _ _ z => by cases z) (fun _ => rfl) ((pe_blt g b hg hb h.pas (ok_plain X.env h.ok)).mono fun σ H Q ⟨c, s, rel, hx, q⟩ => by
    unfold evE at q
    refine ⟨c, s, rel, hx, q.bind.mono fun xs s1 H1 c1 x1 r1 q1 hx1 vs hvs => ?_⟩
    obtain ⟨r, er, q2⟩ := q1.of
    exact ⟨c1, xs, r, r1.obs, hvs, er, wish_of (xa := T.xa) r1 hx1 q2⟩)

/-! ### isinstance -/
def tyS : Ty → String
  | .bool => "bool"
  | .int => "int"
  | .list => "list"
  | .tuple => "tuple"
  | .str => "str"
def dS : D → String
  | .non => "NoneType"
  | .bl _ => "bool"
  | .int _ => "int"
  | .str _ => "str"
  | .lst _ => "list"
  | .tup _ => "tuple"
  | .hand => "list"
  | .edic => "dict"
theorem kit_all (d : D) (t : Ty) : kitB (dS d) (tyS t) = isTy d t := by
  cases d <;> cases t <;> (simp only [dS, tyS, isTy]; decide +kernel)
theorem boot_ty (t : Ty) : bootBuiltins (Str.ofString (tyS t)) = some (.type (tyS t)) ∧ Str.ofString (tyS t) ≠ "__name__" ∧ ((Str.ofString (tyS t)) == ("__debug__" : Str)) = false := by
  cases t <;> exact ⟨by decide +kernel, by decide +kernel, by decide +kernel⟩
theorem tyX_of {K : Fr} {c : Cf} {s : Stt} {σ : L2.St} {H : Hp} {v : V} {d : D} (rel : Rel K c s σ H) (h : DatP K c H v d) : TyX K H v (.type (dS d)) := by
  cases d with
  | non => rw [h.non]; exact .base .non
  | bl b => rw [h.bl]; exact .base (.bl _)
  | int b => rw [h.int]; exact .base (.int _)
  | str b => rw [h.str]; exact .base (.str _)
  | lst ds => obtain ⟨a, xs, rfl, ha, _⟩ := h.lst; exact .base (.lst ha)
  | tup ds =>
    obtain ⟨a, xs, rfl, ha, _⟩ := h.tup
    rcases ha with (ha | ⟨o, ha⟩) | ⟨o, its, n, hk, hc, _⟩
    · exact .base (.tup ha)
    · exact .fTuple ha
    · exact .kTuple hk hc
  | hand => rw [h.hand]; exact .base (.lst rel.hnd.1)
  | edic => obtain ⟨a, rfl, ha⟩ := h.edic; exact .base (.dK ha)
theorem snd_isi {N : List Str} {sc : Scope} (g : GE X T N sc W) {a : Expr} {ma : E} (t : Ty) {p p2 pos : Pos} (hg : sc.names.lookup ("isinstance" : Str) = some .globalImplicit) (hb : ("isinstance" : Str) ∈ T.nm.bl) (hg2 : sc.names.lookup (Str.ofString (tyS t)) = some .globalImplicit)
    (hb2 : Str.ofString (tyS t) ∈ T.nm.bl) (ho : okE a = true) (ha : Snd X T W a ma) : Snd X T W (.Call (.Name "isinstance" p) [a, .Name (Str.ofString (tyS t)) p2] [] pos) (.isi ma t) := by
  have hgl : Gl X "isinstance" := by show X.env.scope.names.lookup _ = _; rw [g.sco]; exact hg
  have hgl2 : Gl X (Str.ofString (tyS t)) := by show X.env.scope.names.lookup _ = _; rw [g.sco]; exact hg2
  obtain ⟨b1, b2, b3⟩ := boot_ty t
  have hn : PE X (.Name (Str.ofString (tyS t)) p2) (tC (.ty (tyS t))) := pe_bltn hgl2 (g.bl _ hb2) b1 rfl b2 b3
  refine .plain rfl (fun _ _ _ z => by cases z) (fun _ => rfl) ((pe_callB call_isi hgl (g.bl _ hb) (by decide +kernel) (pa_cons ha.pp (pa_cons hn pa_nil) (ok_star ho _ _)) (by decide +kernel) (by decide +kernel) (ok_star ho _ _)).mono fun σ H Q ⟨c, s, rel, hx, q⟩ => ?_)
  unfold evE at q
  refine ⟨c, s, rel, hx, q.bind.mono fun x s1 H1 c1 x1 r1 q1 hx1 v hv => ?_⟩
  obtain ⟨b, eb, q2⟩ := q1.of_bind
  exact ⟨v, .ty (tyS t), .type (dS x), .type (tyS t), b, rfl, .ty _, tyX_of r1 hv, kit_ty (by rw [kit_all]; exact eb), q2 _ _ .refl r1 _ ⟨hx1, dat_bl.mpr rfl⟩⟩
end
end PD

set_option Elab.async false
set_option linter.all false
set_option maxRecDepth 100000
set_option maxHeartbeats 4000000
/-! PyS8: targets, what is walked, comprehensions. -/
namespace PD
open PySem PySem.Spec PyProof.Rows L2

/-! ### targets -/
def tgIs : Tg → List Nat
  | .nm i => [i]
  | .tp is => is
def gNames : List Nat → TGs
  | [] => gNil
  | i :: is => gCons (gName i) (gNames is)
def gT (K : Fr) : Tg → TG
  | .nm i => gName i
  | .tp is => gTup K is.length (gNames is)
/-- a name that may be stored, at its slot -/
def NmOk (X : Cx) (x : Str) (i : Nat) : Prop := X.N[i]? = some x ∧ Loc X.env.scope x ∧ (X.fn x = true ∨ X.env.scope.names.lookup x = some .local)
/-- names -/
inductive NmsOk (X : Cx) : List Expr → List Nat → Prop where
  | nil : NmsOk X [] []
  | cons {x : Str} {p : Pos} {i : Nat} {es : List Expr} {is : List Nat} (h : NmOk X x i) (t : NmsOk X es is) : NmsOk X (.Name x p :: es) (i :: is)
inductive TgOk (X : Cx) : Expr → Tg → Prop where
  | nm {x : Str} {p : Pos} {i : Nat} (h : NmOk X x i) : TgOk X (.Name x p) (.nm i)
  | tp {es : List Expr} {is : List Nat} {k : Nat} {p : Pos} (h : NmsOk X es is) : TgOk X (.Tuple es k p) (.tp is)
section
variable {X : Cx}
theorem NmOk.pg {x : Str} {i : Nat} {p : Pos} (nd : X.N.Nodup) (h : NmOk X x i) : PG X (.Name x p) (gName i) := pg_name nd h.1 h.2.1 h.2.2
theorem NmsOk.pgs (nd : X.N.Nodup) {es : List Expr} {is : List Nat} (h : NmsOk X es is) : PGs X es (gNames is) := by
  induction h with
  | nil => exact pgs_nil
  | cons h _ ih => exact pgs_cons (h.pg nd) ih rfl
theorem NmsOk.len {es : List Expr} {is : List Nat} (h : NmsOk X es is) : (assignEach es X.env).length = is.length ∧ (assignEach es X.env).findIdx? (·.1) = none := by
  induction h with
  | nil => exact ⟨rfl, rfl⟩
  | @cons x p i es is h _ ih =>
    have e : assignEach (.Name x p :: es) X.env = (false, assign (.Name x p) X.env) :: assignEach es X.env := rfl
    rw [e]
    refine ⟨by simp [ih.1], ?_⟩
    rw [List.findIdx?_cons]
    simp [ih.2]
theorem TgOk.pg (nd : X.N.Nodup) (hc : X.calm = true) {e : Expr} {t : Tg} (h : TgOk X e t) : PG X e (gT X.K t) := by
  cases h with
  | nm h => exact h.pg nd
  | tp h => exact pg_tup hc (h.pgs nd) h.len.1 h.len.2
end
section
variable {K : Fr} {σ : L2.St} {H : Hp}
theorem names_run {Q : L2.St → Hp → Prop} : ∀ {is : List Nat} {xs : List D} {vs : List V} {c : Cf} {s : Stt} {σ : L2.St}, Rel K c s σ H → Dats K c.ha (hid c.P H) vs xs → xs.length = is.length →
    (∀ σ2 c2, XS c H c2 H → c2.x = c.x → Rel K c2 ((is.zip xs).foldl (fun s p => s.put p.1 (.d p.2)) s) σ2 H → (∀ j, j ∉ is → σ2[j]? = σ[j]?) → Q σ2 H) → gNames is vs σ H Q
  | [], xs, vs, c, s, σ, rel, hd, hl, k => by
    have e : xs = [] := List.length_eq_zero_iff.mp hl
    subst e
    exact ⟨Dats.nil_iff.mp hd, k σ c .refl rfl rel fun _ _ => rfl⟩
  | i :: is, xs, vs, c, s, σ, rel, hd, hl, k => by
    cases xs with
    | nil => simp at hl
    | cons x xs =>
      obtain ⟨v, ws, rfl, h1, t⟩ := hd.cons_out
      obtain ⟨r1, x1⟩ := rel.store (i := i) h1
      refine ⟨v, ws, rfl, ?_⟩
      refine names_run (is := is) (xs := xs) r1 (by exact Dats.mono x1.same _ _ t) (by simpa using hl) fun σ2 c2 x2 hx2 r2 hs => k σ2 c2 (x1.trans x2) hx2 r2 fun j hj => ?_
      rw [hs j fun z => hj (List.mem_cons_of_mem _ z)]
      exact List.getElem?_set_ne fun z => hj (by rw [z]; exact List.mem_cons_self)
theorem bind_run {Q : L2.St → Hp → Prop} {t : Tg} {x : D} {v : V} {c : Cf} {s s1 : Stt} (rel : Rel K c s σ H) (hd : Dat K c.ha (hid c.P H) v x) (e : bindT t x s = some s1)
    (k : ∀ σ2 c2, XS c H c2 H → c2.x = c.x → Rel K c2 s1 σ2 H → (∀ j, j ∉ tgIs t → σ2[j]? = σ[j]?) → Q σ2 H) : gT K t v σ H Q := by
  cases t with
  | nm i =>
    cases e
    obtain ⟨r1, x1⟩ := rel.store (i := i) hd
    exact k _ _ x1 rfl r1 fun j hj => List.getElem?_set_ne fun z => hj (by rw [z]; exact List.mem_cons_self)
  | tp is =>
    cases x with
    | tup xs =>
      simp only [bindT] at e
      split at e
      · rename_i hl
        cases e
        obtain ⟨a, vs, rfl, hs, t⟩ := dat_tup.mp hd
        exact ⟨a, vs, rfl, sqT_same same_un hs, by rw [t.length, hl], names_run rel t hl k⟩
      · cases e
    | _ => cases e
end

theorem foldl_len : ∀ (l : List (Nat × D)) (s : Stt), (l.foldl (fun s p => s.put p.1 (.d p.2)) s).ρ.length = s.ρ.length
  | [], _ => rfl
  | p :: l, s => by
    rw [List.foldl_cons, foldl_len l]
    exact List.length_set
theorem bindT_len {t : Tg} {x : D} {s s1 : Stt} (e : bindT t x s = some s1) : s1.ρ.length = s.ρ.length := by
  cases t with
  | nm i =>
    cases e
    exact List.length_set
  | tp is =>
    cases x with
    | tup xs =>
      simp only [bindT] at e
      split at e
      · cases e
        exact foldl_len _ _
      · cases e
    | _ => cases e
/-! ### what is walked -/
def JOf (K : Fr) (k : Sk) (vs : List V) (H : Hp) (J : It) : Prop :=
  match k with
  | .seq => ∃ a, vs = [.ref a] ∧ (((∃ xs, SqL K H a xs) ∧ J = Itl K a) ∨ ((∃ xs, SqT K H a xs) ∧ J = Itt K a))
  | .rng => (∃ j : Int, vs = [.int j] ∧ -(2 ^ 62) ≤ j ∧ j < 2 ^ 62 ∧ J = Itr 0 j.toNat) ∨ ∃ i j : Int, vs = [.int i, .int j] ∧ (-(2 ^ 62) ≤ i ∧ i < 2 ^ 62 ∧ -(2 ^ 62) ≤ j ∧ j < 2 ^ 62) ∧ J = Itr i (j - i).toNat
  | .zip => ∃ a b xs ys, vs = [.ref a, .ref b] ∧ ((SqL K H a xs ∧ SqL K H b ys ∧ J = Itz K a b) ∨ (SqT K H a xs ∧ SqT K H b ys ∧ J = RZ.ItzT K a b))
  | .enum => ∃ a xs, vs = [.ref a] ∧ SqL K H a xs ∧ J = Ite K a
  | .rev => ∃ a xs, vs = [.ref a] ∧ ((SqL K H a xs ∧ J = Itv K a xs.length) ∨ (SqT K H a xs ∧ J = RT.ItvT K a xs.length))
/-- J walks ds, wherever G -/
def Walks1 (K : Fr) (J : It) (ds : List D) (c : Cf) (H : Hp) : Prop :=
  (∀ i (h : i < ds.length), J.go i H ∧ ∀ x H2, J.yld i H x H2 → (H2 = H ∨ ∃ p o, H p = none ∧ H2 = upd H p o) ∧ Dat K c.ha (hid c.P H2) x ds[i]) ∧ ∀ i, ds.length ≤ i → J.stop i H
section
variable {K : Fr} {c : Cf} {H : Hp}
theorem dats_at {ha : Addr} {H' : Hp} {ds : List D} {vs : List V} (t : Dats K ha H' vs ds) {i : Nat} (h : i < ds.length) : ∃ v, vs[i]? = some v ∧ Dat K ha H' v ds[i] := t.get (List.getElem?_eq_getElem h)
theorem walks_l {a : Addr} {xs : List V} {ds : List D} (h : SqL K H a xs) (t : Dats K c.ha (hid c.P H) xs ds) : Walks1 K (Itl K a) ds c H := by
  refine ⟨fun i hi => ?_, fun i hi => ⟨xs, h, by rw [t.length]; exact hi⟩⟩
  obtain ⟨v, hv, hd⟩ := dats_at t hi
  refine ⟨⟨xs, v, h, hv⟩, fun x H2 ⟨e, y⟩ => ?_⟩
  subst e
  have e2 : x = v := Option.some.inj ((y xs h).symm.trans hv)
  subst e2
  exact ⟨.inl rfl, hd⟩
theorem walks_t {a : Addr} {xs : List V} {ds : List D} (h : SqT K H a xs) (t : Dats K c.ha (hid c.P H) xs ds) : Walks1 K (Itt K a) ds c H := by
  refine ⟨fun i hi => ?_, fun i hi => ⟨xs, h, by rw [t.length]; exact hi⟩⟩
  obtain ⟨v, hv, hd⟩ := dats_at t hi
  refine ⟨⟨xs, v, h, hv⟩, fun x H2 ⟨e, y⟩ => ?_⟩
  subst e
  have e2 : x = v := Option.some.inj ((y xs h).symm.trans hv)
  subst e2
  exact ⟨.inl rfl, hd⟩
theorem walks_r (lo : Int) (n : Nat) : Walks1 K (Itr lo n) ((List.range n).map fun k => D.int (lo + (k : Nat))) c H := by
  refine ⟨fun i hi => ⟨?_, fun x H2 ⟨e, y⟩ => ?_⟩, fun i hi => ?_⟩
  · show i < n
    simpa using hi
  · subst e; subst y
    refine ⟨.inl rfl, ?_⟩
    simp only [List.getElem_map, List.getElem_range]
    exact dat_int.mpr rfl
  · show n ≤ i
    simpa using hi
theorem pair_dat (ho : Obs c H) {T : Addr} {x y : V} {d e : D} (hT : H T = none) (h1 : Dat K c.ha (hid c.P H) x d) (h2 : Dat K c.ha (hid c.P H) y e) : Dat K c.ha (hid c.P (upd H T (.tup [x, y]))) (.ref T) (.tup [d, e]) :=
  dat_tup.mpr ⟨T, [x, y], rfl, sqT_upd (ho T hT), Dats.cons (Dat.mono (same_upd1 hT) _ _ h1) (Dats.cons (Dat.mono (same_upd1 hT) _ _ h2) Dats.nil)⟩
theorem walks_z (ho : Obs c H) {a b : Addr} {xs ys : List V} {ds es : List D} (h : SqL K H a xs) (h' : SqL K H b ys) (t : Dats K c.ha (hid c.P H) xs ds) (t' : Dats K c.ha (hid c.P H) ys es) : Walks1 K (Itz K a b) ((ds.zip es).map fun p => .tup [p.1, p.2]) c H := by
  refine ⟨fun i hi => ?_, fun i hi => ⟨xs, ys, h, h', ?_⟩⟩
  · have hi' : i < ds.length ∧ i < es.length := by simp at hi; omega
    obtain ⟨v, hv, hd⟩ := dats_at t hi'.1
    obtain ⟨u, hu, he⟩ := dats_at t' hi'.2
    refine ⟨⟨xs, ys, v, u, h, h', hv, hu⟩, fun x H2 ⟨T, x1, y1, ex, hT, eH, f1, f2⟩ => ?_⟩
    subst ex; subst eH
    have e1 : x1 = v := Option.some.inj ((f1 xs h).symm.trans hv)
    have e2 : y1 = u := Option.some.inj ((f2 ys h').symm.trans hu)
    subst e1; subst e2
    refine ⟨.inr ⟨T, _, hT, rfl⟩, ?_⟩
    simp only [List.getElem_map, List.getElem_zip]
    exact pair_dat ho hT hd he
  · rw [t.length, t'.length]
    simp at hi
    omega
theorem walks_zt (ho : Obs c H) {a b : Addr} {xs ys : List V} {ds es : List D} (h : SqT K H a xs) (h' : SqT K H b ys) (t : Dats K c.ha (hid c.P H) xs ds) (t' : Dats K c.ha (hid c.P H) ys es) : Walks1 K (RZ.ItzT K a b) ((ds.zip es).map fun p => .tup [p.1, p.2]) c H := by
  refine ⟨fun i hi => ?_, fun i hi => ⟨xs, ys, h, h', ?_⟩⟩
  · have hi' : i < ds.length ∧ i < es.length := by simp at hi; omega
    obtain ⟨v, hv, hd⟩ := dats_at t hi'.1
    obtain ⟨u, hu, he⟩ := dats_at t' hi'.2
    refine ⟨⟨xs, ys, v, u, h, h', hv, hu⟩, fun x H2 ⟨T, x1, y1, ex, hT, eH, f1, f2⟩ => ?_⟩
    subst ex; subst eH
    have e1 : x1 = v := Option.some.inj ((f1 xs h).symm.trans hv)
    have e2 : y1 = u := Option.some.inj ((f2 ys h').symm.trans hu)
    subst e1; subst e2
    refine ⟨.inr ⟨T, _, hT, rfl⟩, ?_⟩
    simp only [List.getElem_map, List.getElem_zip]
    exact pair_dat ho hT hd he
  · rw [t.length, t'.length]
    simp at hi
    omega
theorem walks_e (ho : Obs c H) {a : Addr} {xs : List V} {ds : List D} (h : SqL K H a xs) (t : Dats K c.ha (hid c.P H) xs ds) : Walks1 K (Ite K a) (ds.zipIdx.map fun p => .tup [.int p.2, p.1]) c H := by
  refine ⟨fun i hi => ?_, fun i hi => ⟨xs, h, by rw [t.length]; simpa using hi⟩⟩
  obtain ⟨v, hv, hd⟩ := dats_at t (by simpa using hi)
  refine ⟨⟨xs, v, h, hv⟩, fun x H2 ⟨T, x1, ex, hT, eH, f1⟩ => ?_⟩
  subst ex; subst eH
  have e1 : x1 = v := Option.some.inj ((f1 xs h).symm.trans hv)
  subst e1
  refine ⟨.inr ⟨T, _, hT, rfl⟩, ?_⟩
  simp only [List.getElem_map, List.getElem_zipIdx]
  have e0 : ((0 + i : Nat) : Int) = ((i : Nat) : Int) := by omega
  rw [e0]
  exact pair_dat ho hT (dat_int.mpr rfl) hd
theorem walks_v {a : Addr} {xs : List V} {ds : List D} (h : SqL K H a xs) (t : Dats K c.ha (hid c.P H) xs ds) : Walks1 K (Itv K a xs.length) ds.reverse c H := by
  have hl := t.length
  refine ⟨fun i hi => ?_, fun i hi => ?_⟩
  · have hi' : i < ds.length := by simpa using hi
    obtain ⟨v, hv, hd⟩ := dats_at t (i := ds.length - 1 - i) (by omega)
    rw [← hl] at hv
    refine ⟨⟨by omega, xs, v, h, hv⟩, fun x H2 ⟨e, y⟩ => ?_⟩
    subst e
    have e2 : x = v := Option.some.inj ((y xs h).symm.trans hv)
    subst e2
    refine ⟨.inl rfl, ?_⟩
    simp only [List.getElem_reverse]
    exact hd
  · show xs.length ≤ i
    rw [hl]
    simpa using hi
theorem walks_vt {a : Addr} {xs : List V} {ds : List D} (h : SqT K H a xs) (t : Dats K c.ha (hid c.P H) xs ds) : Walks1 K (RT.ItvT K a xs.length) ds.reverse c H := by
  have hl := t.length
  refine ⟨fun i hi => ?_, fun i hi => ?_⟩
  · have hi' : i < ds.length := by simpa using hi
    obtain ⟨v, hv, hd⟩ := dats_at t (i := ds.length - 1 - i) (by omega)
    rw [← hl] at hv
    refine ⟨⟨by omega, xs, v, h, hv⟩, fun x H2 ⟨e, y⟩ => ?_⟩
    subst e
    have e2 : x = v := Option.some.inj ((y xs h).symm.trans hv)
    subst e2
    refine ⟨.inl rfl, ?_⟩
    simp only [List.getElem_reverse]
    exact hd
  · show xs.length ≤ i
    rw [hl]
    simpa using hi
theorem rng_out {i j : Int} (h : rngOk i j = true) : -(2 ^ 62) ≤ i ∧ i < 2 ^ 62 ∧ -(2 ^ 62) ≤ j ∧ j < 2 ^ 62 := by
  unfold rngOk at h
  simp only [Bool.and_eq_true, decide_eq_true_eq] at h
  exact ⟨h.1.1.1, h.1.1.2, h.1.2, h.2⟩
/-- what walks is there; it walks on while the sources may be looked at -/
theorem j_of_src {k : Sk} {xs ds : List D} {vs : List V} (h : DatPs K c H vs xs) (e : srcL k xs = some ds) :
    ∃ J, JOf K k vs H J ∧ ∀ c' H', DatPs K c' H' vs xs → Obs c' H' → Walks1 K J ds c' H' := by
  unfold srcL at e
  split at e
  · cases e
    obtain ⟨v, ws, rfl, d1, d2⟩ := h.cons_out
    cases d2.nil_out
    obtain ⟨a, zs, rfl, ha, t⟩ := d1.lst
    refine ⟨Itl K a, ⟨a, rfl, .inl ⟨⟨zs, SqL.of ha⟩, rfl⟩⟩, fun c' H' h' _ => ?_⟩
    obtain ⟨_, _, e, d1, _⟩ := h'.cons_out
    cases e
    obtain ⟨b, ys, e, ha, t⟩ := d1.lst
    cases e
    exact walks_l (SqL.of ha) t
  · cases e
    obtain ⟨v, ws, rfl, d1, d2⟩ := h.cons_out
    cases d2.nil_out
    obtain ⟨a, zs, rfl, ha, _, t⟩ := d1.tup
    refine ⟨Itt K a, ⟨a, rfl, .inr ⟨⟨zs, ha⟩, rfl⟩⟩, fun c' H' h' _ => ?_⟩
    obtain ⟨_, _, e, d1, _⟩ := h'.cons_out
    cases e
    obtain ⟨b, ys, e, ha, _, t⟩ := d1.tup
    cases e
    exact walks_t ha t
  · split at e
    · rename_i hz
      cases e
      obtain ⟨v, ws, rfl, d1, d2⟩ := h.cons_out
      cases d2.nil_out
      obtain ⟨z1, z2, z3, z4⟩ := rng_out hz
      refine ⟨_, .inl ⟨_, by rw [d1.int], z3, z4, rfl⟩, fun c' H' _ _ => ?_⟩
      unfold rngL
      rw [Int.sub_zero]
      exact walks_r 0 _
    · cases e
  · split at e
    · rename_i hz
      cases e
      obtain ⟨v, ws, rfl, d1, d2⟩ := h.cons_out
      obtain ⟨v2, ws2, rfl, d3, d4⟩ := d2.cons_out
      cases d4.nil_out
      exact ⟨_, .inr ⟨_, _, by rw [d1.int, d3.int], rng_out hz, rfl⟩, fun c' H' _ _ => walks_r _ _⟩
    · cases e
  · cases e
    obtain ⟨v, ws, rfl, d1, d2⟩ := h.cons_out
    obtain ⟨v2, ws2, rfl, d3, d4⟩ := d2.cons_out
    cases d4.nil_out
    obtain ⟨a, zs, rfl, ha, t⟩ := d1.lst
    obtain ⟨b, us, rfl, hb, t'⟩ := d3.lst
    refine ⟨Itz K a b, ⟨a, b, zs, us, rfl, .inl ⟨SqL.of ha, SqL.of hb, rfl⟩⟩, fun c' H' h' ho => ?_⟩
    obtain ⟨_, _, e, d1, d2⟩ := h'.cons_out
    cases e
    obtain ⟨_, _, e, d3, _⟩ := d2.cons_out
    cases e
    obtain ⟨_, ys, e, ha, t⟩ := d1.lst
    cases e
    obtain ⟨_, ys', e, hb, t'⟩ := d3.lst
    cases e
    exact walks_z ho (SqL.of ha) (SqL.of hb) t t'
  · cases e
    obtain ⟨v, ws, rfl, d1, d2⟩ := h.cons_out
    obtain ⟨v2, ws2, rfl, d3, d4⟩ := d2.cons_out
    cases d4.nil_out
    obtain ⟨a, zs, rfl, ha, _, t⟩ := d1.tup
    obtain ⟨b, us, rfl, hb, _, t'⟩ := d3.tup
    refine ⟨RZ.ItzT K a b, ⟨a, b, zs, us, rfl, .inr ⟨ha, hb, rfl⟩⟩, fun c' H' h' ho => ?_⟩
    obtain ⟨_, _, e, d1, d2⟩ := h'.cons_out
    cases e
    obtain ⟨_, _, e, d3, _⟩ := d2.cons_out
    cases e
    obtain ⟨_, ys, e, ha, _, t⟩ := d1.tup
    cases e
    obtain ⟨_, ys', e, hb, _, t'⟩ := d3.tup
    cases e
    exact walks_zt ho ha hb t t'
  · cases e
    obtain ⟨v, ws, rfl, d1, d2⟩ := h.cons_out
    cases d2.nil_out
    obtain ⟨a, zs, rfl, ha, t⟩ := d1.lst
    refine ⟨Ite K a, ⟨a, zs, rfl, SqL.of ha, rfl⟩, fun c' H' h' ho => ?_⟩
    obtain ⟨_, _, e, d1, _⟩ := h'.cons_out
    cases e
    obtain ⟨_, ys, e, ha, t⟩ := d1.lst
    cases e
    exact walks_e ho (SqL.of ha) t
  · rename_i ls
    cases e
    obtain ⟨v, ws, rfl, d1, d2⟩ := h.cons_out
    cases d2.nil_out
    obtain ⟨a, zs, rfl, ha, t⟩ := d1.lst
    refine ⟨Itv K a zs.length, ⟨a, zs, rfl, .inl ⟨SqL.of ha, rfl⟩⟩, fun c' H' h' _ => ?_⟩
    obtain ⟨_, _, e, d1, _⟩ := h'.cons_out
    cases e
    obtain ⟨_, ys, e, ha', t'⟩ := d1.lst
    cases e
    rw [show zs.length = ys.length from by rw [t.length, t'.length]]
    exact walks_v (SqL.of ha') t'
  · rename_i ls
    cases e
    obtain ⟨v, ws, rfl, d1, d2⟩ := h.cons_out
    cases d2.nil_out
    obtain ⟨a, zs, rfl, ha, _, t⟩ := d1.tup
    refine ⟨RT.ItvT K a zs.length, ⟨a, zs, rfl, .inr ⟨ha, rfl⟩⟩, fun c' H' h' _ => ?_⟩
    obtain ⟨_, _, e, d1, _⟩ := h'.cons_out
    cases e
    obtain ⟨_, ys, e, ha', _, t'⟩ := d1.tup
    cases e
    rw [show zs.length = ys.length from by rw [t.length, t'.length]]
    exact walks_vt ha' t'
  · cases e
end

/-! ### the iterators -/
theorem _root_.L2.PI.mono {X : Cx} {tg e : Expr} {t t' : TI} (h : PI X tg e t) (w : ∀ σ H R, t' σ H R → t σ H R) : PI X tg e t' := ⟨fun pins s σ H R I q => h.run pins s σ H R I (w σ H R q)⟩
/-- a list or a tuple, as it comes -/
def iSq (K : Fr) (te : TE) : TI := fun σ H R => te σ H fun x H1 => ∃ a, x = .ref a ∧ (((∃ xs, SqL K H1 a xs) ∧ R (Itl K a) H1) ∨ ((∃ xs, SqT K H1 a xs) ∧ R (Itt K a) H1))
section
variable {X : Cx} {tg : Expr}
theorem pi_sq {l : Expr} {te : TE} (hl : PE X l te) : PI X tg l (iSq X.K te) := by
  refine ⟨fun pins s σ H R I h => thn (hl.run pins s σ H _ I h) fun v s1 he => ?_⟩
  obtain ⟨x, H1, I1, rx, a, ex, hq⟩ := he
  subst ex
  have ev : v = Value.ref a := rx
  subst ev
  have spot : ∀ b ∈ [s1.heap.objs.size], FpOk X pins H1 b := fun b hb => by
    have e := List.mem_singleton.mp hb
    rw [e]
    exact I1.fpOk (Nat.le_refl _) (I1.hok.fresh (Nat.le_refl _))
  have more : ∀ o : Obj, Inv X pins σ H1 { s1 with heap := s1.heap.push o } := fun o => I1.kept (t' := s1.toks) fun _ _ q => Heap.get?_push_of_some _ q
  rcases hq with ⟨⟨xs, hs⟩, q⟩ | ⟨⟨xs, hs⟩, q⟩
  · obtain ⟨its, _, pl, _⟩ := I1.list hs
    exact wpAny_pyIter_list pl.isList ⟨_, [s1.heap.objs.size], _, Itl X.K a, H1, rfl, more _, turn_list a _, ⟨_, Heap.get?_push_size _ rfl, rfl, rfl⟩, spot, q⟩
  · obtain ⟨its, _, pt, _⟩ := I1.tuple hs
    exact wpAny_pyIter_tuple (items := its.toArray) pt ⟨_, [s1.heap.objs.size], _, Itt X.K a, H1, rfl, more _, turn_tuple a _, ⟨_, Heap.get?_push_size _ rfl, rfl, rfl⟩, spot, q⟩
end
end PD

set_option Elab.async false
set_option linter.all false
set_option maxRecDepth 100000
set_option maxHeartbeats 4000000
/-! PyS9: sources of loops, comprehensions. -/
namespace PD
open PySem PySem.Spec PyProof.Rows L2

section
variable (K : Fr) (T : Tb) (W : WX)
def rdSP (k : Sk) (ms : List E) : TI := fun σ H R => ∃ c s, Rel K c s σ H ∧ c.x = none ∧ Run K T.xa W c σ H (evPs T.Φ ms s) fun xs s' H' c' => c'.x = none → ∀ vs, DatPs K c' H' vs xs → ∃ J, JOf K k vs H' J ∧ R J H'
def rdSL (k : Sk) (ms : List E) : TI := fun σ H R => ∃ c s, Rel K c s σ H ∧ c.x = none ∧ Run K T.xa W c σ H (evL T.Φ ms s) fun xs s' H' c' => c'.x = none → ∀ vs, Dats K c'.ha (hid c'.P H') vs xs → ∃ J, JOf K k vs H' J ∧ R J H'
end
theorem evPs_length (Φ : FEnv) : ∀ {es : List E} {s s' : Stt} {xs : List D}, evPs Φ es s = .ok xs s' → xs.length = es.length
  | [], s, s', xs, h => by
    unfold evPs at h
    cases h; rfl
  | e :: es, s, s', xs, h => by
    unfold evPs at h
    cases h1 : pk e (evE Φ e) s with
    | bad => rw [h1] at h; cases h
    | ex _ _ => rw [h1] at h; cases h
    | ok r s1 =>
      rw [h1] at h
      simp only [Res.bind_ok] at h
      cases h2 : evPs Φ es s1 with
      | bad => rw [h2] at h; cases h
      | ex _ _ => rw [h2] at h; cases h
      | ok ys s2 =>
        rw [h2] at h
        simp only [Res.bind_ok] at h
        cases h
        simp [evPs_length Φ h2]
theorem DatPs.length {K : Fr} {c : Cf} {H : Hp} : ∀ {vs : List V} {ds : List D}, DatPs K c H vs ds → vs.length = ds.length
  | [], [], _ => rfl
  | _ :: _, _ :: _, h => by simp [DatPs.length h.2]
  | [], _ :: _, h => h.elim
  | _ :: _, [], h => h.elim
theorem Dats.ps {K : Fr} {c : Cf} {H : Hp} : ∀ {vs : List V} {ds : List D}, Dats K c.ha (hid c.P H) vs ds → DatPs K c H vs ds
  | vs, [], h => by
    have e := Dats.nil_iff.mp h
    subst e; trivial
  | vs, d :: ds, h => by
    obtain ⟨v, ws, rfl, h1, t⟩ := h.cons_out
    exact ⟨DatP.of h1, Dats.ps t⟩
inductive SrcOk (X : Cx) (T : Tb) (W : WX) (tg : Expr) : Expr → Sk → List E → Prop where
  | seq {e : Expr} {m : E} (h : Snd X T W e m) : SrcOk X T W tg e .seq [m]
  | rng1 {a : Expr} {ms : List E} {p pos : Pos} (hg : Gl X "range") (hm : X.mg "range" = none) (h : SndL X T W [a] ms) : SrcOk X T W tg (.Call (.Name "range" p) [a] [] pos) .rng ms
  | rng2 {a b : Expr} {ms : List E} {p pos : Pos} (hg : Gl X "range") (hm : X.mg "range" = none) (h : SndL X T W [a, b] ms) : SrcOk X T W tg (.Call (.Name "range" p) [a, b] [] pos) .rng ms
  | zip {a b : Expr} {ms : List E} {p pos tp : Pos} {es : List Expr} {k : Nat} (ht : tg = .Tuple es k tp) (hg : Gl X "zip") (hm : X.mg "zip" = none) (h : SndL X T W [a, b] ms) : SrcOk X T W tg (.Call (.Name "zip" p) [a, b] [] pos) .zip ms
  | enum {a : Expr} {ms : List E} {p pos tp : Pos} {es : List Expr} {k : Nat} (ht : tg = .Tuple es k tp) (hg : Gl X "enumerate") (hm : X.mg "enumerate" = none) (h : SndL X T W [a] ms) : SrcOk X T W tg (.Call (.Name "enumerate" p) [a] [] pos) .enum ms
  | rev {a : Expr} {m : E} {p pos : Pos} (hg : Gl X "reversed") (hm : X.mg "reversed" = none) (ho : okE a = true) (h : Snd X T W a m) : SrcOk X T W tg (.Call (.Name "reversed" p) [a] [] pos) .rev [m]
section
variable {X : Cx} {T : Tb} {W : WX} {tg : Expr}
theorem star1 {a : Expr} {ms : List E} (h : SndL X T W [a] ms) : starEach [a] X.env = [(false, eval a X.env)] := by
  obtain ⟨m, ms', rfl, o, _, _⟩ := h.cons_out
  rw [ok_star o]; rfl
theorem star2 {a b : Expr} {ms : List E} (h : SndL X T W [a, b] ms) : starEach [a, b] X.env = [(false, eval a X.env), (false, eval b X.env)] ∧ starEach [b] X.env = [(false, eval b X.env)] := by
  obtain ⟨m, ms', rfl, o, _, t⟩ := h.cons_out
  have q := star1 t
  exact ⟨by rw [ok_star o, q], q⟩
theorem SrcOk.p {iter : Expr} {k : Sk} {ms : List E} (h : SrcOk X T W tg iter k ms) : PI X tg iter (rdSP X.K T W k ms) := by
  cases h with
  | seq h =>
    refine (pi_sq h.pp).mono fun σ H R ⟨c, s, rel, hx, q⟩ => ?_
    unfold evPs at q
    refine ⟨c, s, rel, hx, q.bind.mono fun x s1 H1 c1 x1 r1 q1 hx1 v hv => ?_⟩
    unfold evPs at q1
    obtain ⟨J, hJ, hR⟩ := q1 _ _ .refl r1 hx1 [v] ⟨hv, trivial⟩
    obtain ⟨a, e, hJ⟩ := hJ
    cases e
    rcases hJ with ⟨hs, rfl⟩ | ⟨hs, rfl⟩
    · exact ⟨a, rfl, .inl ⟨hs, hR⟩⟩
    · exact ⟨a, rfl, .inr ⟨hs, hR⟩⟩
  | rng1 hg hm h =>
    refine (pi_range1 hg hm h.pas (star1 h)).mono fun σ H R ⟨c, s, rel, hx, q⟩ => ⟨c, s, rel, hx, q.monoE fun xs s1 H1 c1 eq x1 r1 q1 hx1 vs hvs => ?_⟩
    obtain ⟨J, hJ, hR⟩ := q1 hx1 vs hvs
    have hl := hvs.length
    rw [evPs_length T.Φ eq, ← h.length] at hl
    rcases hJ with ⟨j, e, b1, b2, rfl⟩ | ⟨i, j, e, _⟩
    · exact ⟨j, e, b1, b2, hR⟩
    · rw [e] at hl; simp at hl
  | rng2 hg hm h =>
    obtain ⟨s1, s2⟩ := star2 h
    refine (pi_range2 hg hm h.pas s1 s2).mono fun σ H R ⟨c, s, rel, hx, q⟩ => ⟨c, s, rel, hx, q.monoE fun xs s1 H1 c1 eq x1 r1 q1 hx1 vs hvs => ?_⟩
    obtain ⟨J, hJ, hR⟩ := q1 hx1 vs hvs
    have hl := hvs.length
    rw [evPs_length T.Φ eq, ← h.length] at hl
    rcases hJ with ⟨j, e, _⟩ | ⟨i, j, e, b, rfl⟩
    · rw [e] at hl; simp at hl
    · exact ⟨i, j, e, b, hR⟩
  | zip ht hg hm h =>
    subst ht
    obtain ⟨s1, s2⟩ := star2 h
    refine (RZ.pi_zipA hg hm h.pas (by rw [s1, s2]) (by rw [s2]; rfl)).mono fun σ H R ⟨c, s, rel, hx, q⟩ => ⟨c, s, rel, hx, q.mono fun xs s1 H1 c1 x1 r1 q1 hx1 vs hvs => ?_⟩
    obtain ⟨J, ⟨a, b, xs', ys', e, hJ⟩, hR⟩ := q1 hx1 vs hvs
    rcases hJ with ⟨h1, h2, rfl⟩ | ⟨h1, h2, rfl⟩
    · exact ⟨a, b, xs', ys', e, .inl ⟨h1, h2, hR⟩⟩
    · exact ⟨a, b, xs', ys', e, .inr ⟨h1, h2, hR⟩⟩
  | enum ht hg hm h =>
    subst ht
    refine (pi_enum hg hm h.pas (star1 h)).mono fun σ H R ⟨c, s, rel, hx, q⟩ => ⟨c, s, rel, hx, q.mono fun xs s1 H1 c1 x1 r1 q1 hx1 vs hvs => ?_⟩
    obtain ⟨J, ⟨a, xs', e, h1, rfl⟩, hR⟩ := q1 hx1 vs hvs
    exact ⟨a, xs', e, h1, hR⟩
  | rev hg hm ho h =>
    refine (RT.pi_revA hg hm h.pp (ok_star ho _ _)).mono fun σ H R ⟨c, s, rel, hx, q⟩ => ?_
    unfold evPs at q
    refine ⟨c, s, rel, hx, q.bind.mono fun x s1 H1 c1 x1 r1 q1 hx1 v hv => ?_⟩
    unfold evPs at q1
    obtain ⟨J, ⟨a, xs', e, hJ⟩, hR⟩ := q1 _ _ .refl r1 hx1 [v] ⟨hv, trivial⟩
    cases e
    rcases hJ with ⟨hs, rfl⟩ | ⟨hs, rfl⟩
    · exact ⟨a, xs', rfl, .inl ⟨hs, hR⟩⟩
    · exact ⟨a, xs', rfl, .inr ⟨hs, hR⟩⟩
theorem one_L {c : Cf} {s : Stt} {σ : L2.St} {H : Hp} {m : E} {k : Sk} {R : It → Hp → Prop} (q : Run X.K T.xa W c σ H (evL T.Φ [m] s) fun xs s' H' c' => c'.x = none → ∀ vs, Dats X.K c'.ha (hid c'.P H') vs xs → ∃ J, JOf X.K k vs H' J ∧ R J H') :
    Run X.K T.xa W c σ H (evE T.Φ m s) fun r s' H' c' => ∀ v, ValOk X.K c' H' r v → ∃ J, JOf X.K k [v] H' J ∧ R J H' := by
  unfold evL at q
  refine q.bind.mono fun r s1 H1 c1 x1 r1 q1 v hv => ?_
  unfold evL at q1
  obtain ⟨r2, x2⟩ := r1.nox
  have hd := hv.dat r1
  exact q1 _ _ x2 r2 rfl [v] (Dats.cons hd Dats.nil)
theorem SrcOk.l {iter : Expr} {k : Sk} {ms : List E} (h : SrcOk X T W tg iter k ms) : PI X tg iter (rdSL X.K T W k ms) := by
  cases h with
  | seq h =>
    refine (pi_sq h.ee).mono fun σ H R ⟨c, s, rel, hx, q⟩ => ⟨c, s, rel, hx, (one_L q).mono fun r s1 H1 c1 x1 r1 q1 v hv => ?_⟩
    obtain ⟨J, ⟨a, e, hJ⟩, hR⟩ := q1 v hv
    cases e
    rcases hJ with ⟨hs, rfl⟩ | ⟨hs, rfl⟩
    · exact ⟨a, rfl, .inl ⟨hs, hR⟩⟩
    · exact ⟨a, rfl, .inr ⟨hs, hR⟩⟩
  | rng1 hg hm h =>
    refine (pi_range1 hg hm h.pa (star1 h)).mono fun σ H R ⟨c, s, rel, hx, q⟩ => ⟨c, s, rel, hx, q.monoE fun xs s1 H1 c1 eq x1 r1 q1 hx1 vs hvs => ?_⟩
    obtain ⟨J, hJ, hR⟩ := q1 hx1 vs hvs
    have hl := hvs.length
    rw [evL_length T.Φ eq, ← h.length] at hl
    rcases hJ with ⟨j, e, b1, b2, rfl⟩ | ⟨i, j, e, _⟩
    · exact ⟨j, e, b1, b2, hR⟩
    · rw [e] at hl; simp at hl
  | rng2 hg hm h =>
    obtain ⟨s1, s2⟩ := star2 h
    refine (pi_range2 hg hm h.pa s1 s2).mono fun σ H R ⟨c, s, rel, hx, q⟩ => ⟨c, s, rel, hx, q.monoE fun xs s1 H1 c1 eq x1 r1 q1 hx1 vs hvs => ?_⟩
    obtain ⟨J, hJ, hR⟩ := q1 hx1 vs hvs
    have hl := hvs.length
    rw [evL_length T.Φ eq, ← h.length] at hl
    rcases hJ with ⟨j, e, _⟩ | ⟨i, j, e, b, rfl⟩
    · rw [e] at hl; simp at hl
    · exact ⟨i, j, e, b, hR⟩
  | zip ht hg hm h =>
    subst ht
    obtain ⟨s1, s2⟩ := star2 h
    refine (RZ.pi_zipA hg hm h.pa (by rw [s1, s2]) (by rw [s2]; rfl)).mono fun σ H R ⟨c, s, rel, hx, q⟩ => ⟨c, s, rel, hx, q.mono fun xs s1 H1 c1 x1 r1 q1 hx1 vs hvs => ?_⟩
    obtain ⟨J, ⟨a, b, xs', ys', e, hJ⟩, hR⟩ := q1 hx1 vs hvs
    rcases hJ with ⟨h1, h2, rfl⟩ | ⟨h1, h2, rfl⟩
    · exact ⟨a, b, xs', ys', e, .inl ⟨h1, h2, hR⟩⟩
    · exact ⟨a, b, xs', ys', e, .inr ⟨h1, h2, hR⟩⟩
  | enum ht hg hm h =>
    subst ht
    refine (pi_enum hg hm h.pa (star1 h)).mono fun σ H R ⟨c, s, rel, hx, q⟩ => ⟨c, s, rel, hx, q.mono fun xs s1 H1 c1 x1 r1 q1 hx1 vs hvs => ?_⟩
    obtain ⟨J, ⟨a, xs', e, h1, rfl⟩, hR⟩ := q1 hx1 vs hvs
    exact ⟨a, xs', e, h1, hR⟩
  | rev hg hm ho h =>
    refine (RT.pi_revA hg hm h.ee (ok_star ho _ _)).mono fun σ H R ⟨c, s, rel, hx, q⟩ => ⟨c, s, rel, hx, (one_L q).mono fun r s1 H1 c1 x1 r1 q1 v hv => ?_⟩
    obtain ⟨J, ⟨a, xs', e, hJ⟩, hR⟩ := q1 v hv
    cases e
    rcases hJ with ⟨hs, rfl⟩ | ⟨hs, rfl⟩
    · exact ⟨a, xs', rfl, .inl ⟨hs, hR⟩⟩
    · exact ⟨a, xs', rfl, .inr ⟨hs, hR⟩⟩
end

/-! ### the block of a comprehension -/
theorem GE.blk {X : Cx} {T : Tb} {N : List Str} {sc scope : Scope} {W : WX} (g : GE X T N sc W) (s : Shared) (H : Hp) (C : Addr) (cl : List (Str × Addr)) (fp : List Addr) : GE (X.blk s H scope (compEnvC scope cl C X.env) fp) T N (relS scope sc) (fun _ _ _ _ => False) :=
  ⟨g.nN, g.nd, by rw [← g.sco]; rfl, g.calm, g.room, g.gd, takes0, g.fns, g.bl⟩
theorem forget_no (s : Stt) : ∀ (vs : List Nat) (j : Nat), j ∈ vs → (s.forget vs).ρ[j]? = some .no ∨ (s.forget vs).ρ[j]? = none
  | i :: vs, j, h => by
    unfold Stt.forget
    by_cases z : j = i
    · subst z
      by_cases q : j < (s.forget vs).ρ.length
      · exact .inl (put_get q)
      · exact .inr (List.getElem?_eq_none (by unfold Stt.put; rw [List.length_set]; omega))
    · rw [put_get_ne z]
      exact forget_no s vs j (by rcases List.mem_cons.mp h with h | h; exact absurd h z; exact h)
theorem wipe_len (σ : L2.St) (vs : List Nat) : (wipe σ vs).length = σ.length := wipe_length σ vs
theorem wipe_in {σ : L2.St} : ∀ {vs : List Nat} {j : Nat}, j ∈ vs → j < σ.length → (wipe σ vs)[j]? = some none
  | i :: vs, j, h, hl => by
    unfold wipe
    by_cases z : i = j
    · subst z
      exact List.getElem?_set_self (by rw [wipe_length]; exact hl)
    · rw [List.getElem?_set_ne z]
      exact wipe_in (by rcases List.mem_cons.mp h with h | h; exact absurd h.symm z; exact h) hl
theorem wipe_eq {σ τ : L2.St} {vs : List Nat} (hl : τ.length = σ.length) (h : ∀ j, j ∉ vs → τ[j]? = σ[j]?) : wipe τ vs = wipe σ vs := by
  apply List.ext_getElem?
  intro j
  by_cases q : j ∈ vs
  · by_cases l : j < σ.length
    · rw [wipe_in q l, wipe_in q (by omega)]
    · rw [List.getElem?_eq_none (by rw [wipe_length]; omega), List.getElem?_eq_none (by rw [wipe_length]; omega)]
  · rw [wipe_out q, wipe_out q]
    exact h j q
theorem wipe_wipe (σ : L2.St) (vs : List Nat) : wipe (wipe σ vs) vs = wipe σ vs := wipe_eq (wipe_length σ vs) fun j hj => wipe_out hj
section
variable {K : Fr} {c : Cf} {s : Stt} {σ : L2.St} {H : Hp}
theorem Rel.wipe (r : Rel K c s σ H) : ∀ vs : List Nat, ∃ c', XS c H c' H ∧ c'.x = c.x ∧ Rel K c' (s.forget vs) (wipe σ vs) H
  | [] => ⟨c, .refl, rfl, r⟩
  | i :: vs => by
    obtain ⟨c', x1, hx, r1⟩ := Rel.wipe r vs
    obtain ⟨r2, x2⟩ := r1.rid (i := i) (cl := .no) (σ' := (L2.wipe σ vs).set i none) List.length_set (fun j hj => List.getElem?_set_ne (Ne.symm hj)) celOk_no (fun _ z => by cases z)
    exact ⟨_, x1.trans x2, hx, r2⟩
theorem Rel.unwipe {vs : List Nat} (r : Rel K c s (L2.wipe σ vs) H) (h : ∀ j, j ∈ vs → s.ρ[j]? = some .no ∨ s.ρ[j]? = none) : Rel K c s σ H :=
  ⟨by rw [r.len, wipe_length], fun i => by
    by_cases q : i ∈ vs
    · rcases h i q with e | e
      · rw [e]; exact celOk_no
      · rw [e]; exact celOk_none
    · have z := r.cel i
      rw [wipe_out q] at z
      exact z, r.hnd, r.hca, r.inj, r.own, r.new, r.xne, r.keep, r.p0, r.cah, r.hah, r.xh, r.yy⟩
theorem DatP.go2 {c' : Cf} {H' : Hp} {v : V} {d : D} (hha : c'.ha = c.ha) (same : Same (hid c.P H) (hid c'.P H')) (ext : ∀ b o, b ≠ c.ha → H b = some o → H' b = some o) (h : DatP K c H v d) : DatP K c' H' v d := by
  cases d with
  | lst ds =>
    obtain ⟨a, xs, e, n, q, t⟩ := h
    exact ⟨a, xs, e, by rw [hha]; exact n, ext _ _ n q, by rw [hha]; exact Dats.mono same ds xs t⟩
  | _ =>
    show Dat K c'.ha (hid c'.P H') v _
    rw [hha]
    exact Dat.mono same _ _ h
theorem DatPs.go2 {c' : Cf} {H' : Hp} (hha : c'.ha = c.ha) (same : Same (hid c.P H) (hid c'.P H')) (ext : ∀ b o, b ≠ c.ha → H b = some o → H' b = some o) : ∀ {vs : List V} {ds : List D}, DatPs K c H vs ds → DatPs K c' H' vs ds
  | [], [], _ => trivial
  | v :: vs, d :: ds, h => ⟨h.1.go2 hha same ext, DatPs.go2 hha same ext h.2⟩
  | [], _ :: _, h => h.elim
  | _ :: _, [], h => h.elim
end
theorem compL_no_ex {f : Stt → Res (Option D)} {t : Tg} {vs : List Nat} : ∀ {ds acc : List D} {s s' : Stt} {e : Exc}, compL f t vs ds acc s ≠ .ex e s'
  | [], acc, s, s', e, h => by unfold compL at h; cases h
  | d :: ds, acc, s, s', e, h => by
    unfold compL at h
    split at h
    · cases h
    · split at h
      · split at h
        · exact compL_no_ex h
        · cases h
      · exact compL_no_ex h
      · cases h
/-- a clause's test, or none -/
def SndOb (X : Cx) (T : Tb) (W : WX) : List Expr → Option E → Prop
  | [], none => True
  | [e], some m => Snd X T W e m
  | _, _ => False
def rdT1 (K : Fr) (T : Tb) (W : WX) (o : Option E) : TT := fun σ H Q => ∃ c s, Rel K c s σ H ∧ c.x = none ∧ Run K T.xa W c σ H (evO1 T.Φ o s) fun b s' H' c' => c'.x = none → Q b H'
theorem SndOb.pts {X : Cx} {T : Tb} {W : WX} : ∀ {ifs : List Expr} {o : Option E}, SndOb X T W ifs o → PTs X ifs (rdT1 X.K T W o)
  | [], none, _ => ⟨fun pins s σ H Q I ⟨c, st, rel, hx, q⟩ => pts_nil.run pins s σ H Q I (by unfold evO1 at q; exact q _ _ .refl rel hx)⟩
  | [e], some m, h => ⟨fun pins s σ H Q I ⟨c, st, rel, hx, q⟩ => (pts_one (Snd.tt h)).run pins s σ H Q I ⟨c, st, rel, hx, by unfold evO1 at q; exact q⟩⟩
  | [], some _, h => h.elim
  | [_], none, h => h.elim
  | _ :: _ :: _, none, h => h.elim
  | _ :: _ :: _, some _, h => h.elim
def cF (Φ : FEnv) (mc : Option E) (me : E) : Stt → Res (Option D) := fun s => (evO1 Φ mc s).bind fun b s3 => match b with
        | true => (evE Φ me s3).bind fun y s4 => .ok (some y.D) s4
        | false => .ok none s3
theorem e_comp {X : Cx} {T : Tb} {N : List Str} {sc scope : Scope} {W : WX} (g : GE X T N sc W) {tg iter elt : Expr} {ifs : List Expr} {pos : Pos} {own : List (Str × Nat)} {k : Sk} {ms : List E} {mc : Option E} {me : E} {t : Tg}
    (hi : SrcOk X T W tg iter k ms) (hfo : okE iter = true) (ok : BlkOk X.N X.env.scope scope own)
    (htg : ∀ s H C cl fp, TgOk (X.blk s H scope (compEnvC scope cl C X.env) fp) tg t) (hts : ∀ j, j ∈ tgIs t → j ∈ own.map (·.2))
    (hc : ∀ s H C cl fp, SndOb (X.blk s H scope (compEnvC scope cl C X.env) fp) T (fun _ _ _ _ => False) ifs mc) (he : ∀ s H C cl fp, Snd (X.blk s H scope (compEnvC scope cl C X.env) fp) T (fun _ _ _ _ => False) elt me) :
    ∀ σ H Q, rdE X.K T W (.comp (own.map (·.2)) t k ms mc me) σ H Q → tLc (rdSP X.K T W k ms) (gT X.K t) (rdT1 X.K T (fun _ _ _ _ => False) mc) (rdE X.K T (fun _ _ _ _ => False) me) (own.map (·.2)) σ H Q := by
  intro σ H Q ⟨c, s, rel, hx, q⟩
  generalize hvs : own.map (·.2) = ws at *
  unfold evE at q
  refine ⟨c, s, rel, hx, q.bind.mono fun xs s1 H1 c1 x1 r1 q1 hx1 vs' hvs' => ?_⟩
  obtain ⟨ds, eds, q2⟩ := q1.of_bind
  obtain ⟨J, hJ, hw⟩ := j_of_src hvs' eds
  refine ⟨J, hJ, fun D hD => ?_⟩
  have q2 : Run X.K T.xa W c1 σ H1 ((compL (cF T.Φ mc me) t ws ds [] (s1.forget ws)).bind fun ys s3 => .ok (.f ys) s3) fun r s' H' c' => ∀ v, ValOk X.K c' H' r v → Q v H' := q2
  cases hcp : compL (cF T.Φ mc me) t ws ds [] (s1.forget ws) with
  | bad => rw [hcp] at q2; exact q2.elim
  | ex e s' => exact absurd hcp compL_no_ex
  | ok ys s3 =>
    rw [hcp] at q2
    have q3 : ∀ H' c', XS c1 H1 c' H' → Rel X.K c' s3 σ H' → ∀ v, ValOk X.K c' H' (.f ys) v → Q v H' := q2
    have nDha : D ≠ c1.ha := fun z => by rw [z, r1.hnd.1] at hD; cases hD
    have nDy : D ∉ c1.y := fun z => by
      obtain ⟨_, _, _, _, _, _, e⟩ := r1.yy D z
      rw [hD] at e; cases e
    -- what holds ahead of turn i
    let Inv1 : Nat → Hp → Prop := fun i H' => ∃ c' s' acc accD, Rel X.K c' s' (wipe σ ws) H' ∧ c'.x = none ∧ c'.y = D :: c1.y ∧ c'.ha = c1.ha ∧ c'.ca = c1.ca ∧ c'.P0 = c1.P0 ∧ c'.H0 = c1.H0 ∧ Same (hid c1.P H1) (hid c'.P H') ∧
      (∀ b o, b ≠ c1.ha → H1 b = some o → H' b = some o) ∧ H' D = some (.lst acc) ∧ Dats X.K c1.ha (hid c'.P H') acc accD ∧ compL (cF T.Φ mc me) t ws (ds.drop i) accD s' = .ok ys s3 ∧ ∀ j, j ∈ ws → s'.ρ[j]? = some .no ∨ s'.ρ[j]? = none
    refine ⟨fun i m H' => m = ds.length - i ∧ i ≤ ds.length ∧ Inv1 i H', ⟨_, rfl, Nat.zero_le _, ?_⟩, fun i m H' ⟨em, hi, c', s', acc, accD, rl, ex0, ey, e1, e2, e3, e4, same, ext, hDa, hda, hcl, hno⟩ => ?_⟩
    · obtain ⟨cw, xw, hxw, rw1⟩ := r1.wipe ws
      obtain ⟨r2, sm⟩ := rw1.openY (p := D) (vs := []) hD
      have ext0 : ∀ b o, H1 b = some o → upd H1 D (.lst []) b = some o := fun b o z => by rw [upd_ne (ne_of_none z hD)]; exact z
      exact ⟨_, s1.forget ws, [], [], r2, hxw.trans hx1, by rw [← xw.y], xw.ha, xw.ca, xw.P0, xw.H0, xw.same.trans sm, fun b o _ z => ext0 b o z, upd_same, Dats.nil, by rw [List.drop_zero]; exact hcp, forget_no s1 ws⟩
    · obtain ⟨go, stop⟩ := hw c' H' (hvs'.go2 e1 same ext) rl.obs
      by_cases hlt : i < ds.length
      · obtain ⟨g1, g2⟩ := go i hlt
        refine .inr ⟨g1, fun H'' => Inv1 (i + 1) H'', fun H'' hI => ⟨ds.length - (i + 1), by omega, rfl, hlt, hI⟩, fun x H2 hy => ?_⟩
        obtain ⟨hgr, hdx⟩ := g2 x H2 hy
        have dr : ds.drop i = ds[i] :: ds.drop (i + 1) := List.drop_eq_getElem_cons hlt
        rw [dr] at hcl
        unfold compL at hcl
        cases hb : bindT t ds[i] s' with
        | none => rw [hb] at hcl; cases hcl
        | some s1' =>
          rw [hb] at hcl
          simp only at hcl
          -- the heap with the item
          obtain ⟨rl2, same2, ext2⟩ : Rel X.K c' s' (wipe σ ws) H2 ∧ Same (hid c'.P H') (hid c'.P H2) ∧ ∀ b o, H' b = some o → H2 b = some o := by
            rcases hgr with rfl | ⟨p, o, hp, rfl⟩
            · exact ⟨rl, fun _ _ z => z, fun _ _ z => z⟩
            · obtain ⟨a1, a2⟩ := rl.new1 (o := o) hp
              exact ⟨a1, a2.same, fun b u z => by rw [upd_ne (ne_of_none z hp)]; exact z⟩
          refine bind_run rl2 hdx hb fun σ2 c2 x2 hx2 r2 hout => ?_
          have ew : wipe σ2 ws = wipe σ ws := by
            have l2 : σ2.length = (wipe σ ws).length := by rw [← r2.len, ← rl2.len]; exact bindT_len hb
            rw [← wipe_wipe σ ws]
            exact wipe_eq l2 fun j hj => hout j fun z => hj (hts j z)
          refine ⟨ew, c2, s1', r2, hx2.trans ex0, ?_⟩
          have fin : ∀ {c5 : Cf} {s5 : Stt} {H5 : Hp} {ac : List V} {acD : List PD.D}, Rel X.K c5 s5 σ2 H5 → c5.x = none → XS c2 H2 c5 H5 → (H5 D = some (.lst ac)) → Dats X.K c1.ha (hid c5.P H5) ac acD →
              compL (cF T.Φ mc me) t ws (ds.drop (i + 1)) acD (s5.forget ws) = .ok ys s3 → Inv1 (i + 1) H5 := fun {c5 s5 H5 ac acD} r5 hx5 x5 hD5 hd5 hc5 => by
            obtain ⟨cw, xw, hxw, rw1⟩ := r5.wipe ws
            rw [ew] at rw1
            refine ⟨cw, s5.forget ws, ac, acD, rw1, hxw.trans hx5, by rw [xw.y, x5.y, x2.y, ey], by rw [xw.ha, x5.ha, x2.ha, e1], by rw [xw.ca, x5.ca, x2.ca, e2], by rw [xw.P0, x5.P0, x2.P0, e3], by rw [xw.H0, x5.H0, x2.H0, e4],
              same.trans (same2.trans (x2.same.trans (x5.same.trans xw.same))), fun b o n z => ?_, hD5, Dats.mono xw.same _ _ hd5, hc5, forget_no s5 ws⟩
            exact x5.ext b o (by rw [x2.ha, e1]; exact n) (ext2 b o (ext b o n z))
          cases h4 : evO1 T.Φ mc s1' with
          | bad => simp only [cF, h4, Res.bind_bad] at hcl; cases hcl
          | ex e s4 => simp only [cF, h4, Res.bind_ex] at hcl; cases hcl
          | ok b s4 =>
            simp only [cF, h4, Res.bind_ok] at hcl
            intro H3 c3 x3 r3 hx3
            have hD3 : H3 D = some (.lst acc) := x3.ext D _ (by rw [x2.ha, e1]; exact nDha) (ext2 _ _ hDa)
            have hd3 : Dats X.K c1.ha (hid c3.P H3) acc accD := Dats.mono (same2.trans (x2.same.trans x3.same)) _ _ hda
            cases b with
            | false =>
              rw [if_neg Bool.false_ne_true]
              exact fin r3 hx3 x3 hD3 hd3 hcl
            | true =>
              rw [if_pos rfl]
              refine ⟨c3, s4, r3, hx3, ?_⟩
              cases h5 : evE T.Φ me s4 with
              | bad => simp only [h5, Res.bind_bad] at hcl; cases hcl
              | ex e s5 => simp only [h5, Res.bind_ex] at hcl; cases hcl
              | ok r s5 =>
                simp only [h5, Res.bind_ok] at hcl
                split at hcl
                · rename_i hsz
                  intro H4 c4 x4 r4 v hv
                  have nD3 : D ≠ c3.ha := by rw [x3.ha, x2.ha, e1]; exact nDha
                  have hD4 : H4 D = some (.lst acc) := x4.ext D _ nD3 hD3
                  refine ⟨acc, hD4, by rw [hda.length]; exact hsz, ?_⟩
                  obtain ⟨r5, x5⟩ := r4.nox
                  have hdv := hv.dat r4
                  have hDy : D ∈ (Cf.y { c4 with x := none }) := by
                    show D ∈ c4.y
                    rw [x4.y, x3.y, x2.y, ey]
                    exact List.mem_cons_self
                  obtain ⟨r6, sm6, ex6⟩ := r5.growY (ws := acc ++ [v]) hDy
                  -- as a step from c2, H2 it changes D; so the invariant is built by hand
                  obtain ⟨cw, xw, hxw, rw1⟩ := r6.wipe ws
                  rw [ew] at rw1
                  have y4 : c4.ha = c1.ha := by rw [x4.ha, x3.ha, x2.ha, e1]
                  refine ⟨cw, s5.forget ws, acc ++ [v], accD ++ [r.D], rw1, hxw, by rw [xw.y]; show c4.y = _; rw [x4.y, x3.y, x2.y, ey], by rw [xw.ha]; exact y4, by rw [xw.ca]; show c4.ca = _; rw [x4.ca, x3.ca, x2.ca, e2], by rw [xw.P0]; show c4.P0 = _; rw [x4.P0, x3.P0, x2.P0, e3],
                    by rw [xw.H0]; show c4.H0 = _; rw [x4.H0, x3.H0, x2.H0, e4], same.trans (same2.trans (x2.same.trans (x3.same.trans (x4.same.trans (x5.same.trans (sm6.trans xw.same)))))), fun b o n z => ?_, upd_same, ?_, hcl, forget_no s5 ws⟩
                  · have nb : b ≠ D := fun w => by rw [w, hD] at z; cases z
                    refine ex6 b o nb (x4.ext b o (by rw [x3.ha, x2.ha, e1]; exact n) (x3.ext b o (by rw [x2.ha, e1]; exact n) (ext2 b o (ext b o n z))))
                  · refine Dats.append (Dats.mono (x4.same.trans (x5.same.trans (sm6.trans xw.same))) _ _ hd3) (Dats.cons ?_ Dats.nil)
                    rw [← y4]
                    exact Dat.mono (sm6.trans xw.same) _ _ hdv
                · cases hcl
      · have ei : i = ds.length := by omega
        subst ei
        refine .inl ⟨stop _ (Nat.le_refl _), ?_⟩
        rw [List.drop_length] at hcl
        unfold compL at hcl
        cases hcl
        obtain ⟨r2, pP⟩ := rl.shutY (p := D) (y0 := c1.y) ey nDy ex0
        have r3 := r2.unwipe hno
        have sm : Same (hid c'.P H') (hid (Cf.P { c' with y := c1.y, x := some D }) H') := same_hid fun b o n z => ⟨fun w => n ((pP b).mp w), z⟩
        refine q3 H' { c' with y := c1.y, x := some D } ⟨e1, e2, e3, e4, rfl, same.trans sm, ext⟩ r3 _ ⟨D, acc, rfl, rfl, hDa, ?_⟩
        have hd9 : Dats X.K c'.ha (hid c'.P H') acc ys := by rw [e1]; exact hda
        exact Dats.mono sm _ _ hd9
end PD

set_option Elab.async false
set_option linter.all false
set_option maxRecDepth 100000
set_option maxHeartbeats 4000000
/-! PyS10: expressions of the program into the language, and that it is right. -/
namespace PD
open PySem PySem.Spec PyProof.Rows L2

def vis (sc : Scope) (x : Str) : Bool :=
  match sc.names.lookup x with
  | some .local => true
  | some .cell => true
  | some .free => true
  | _ => false
def okNm (x : Str) : Bool := !(x == ("__debug__" : Str)) && !(x == ("__classdict__" : Str))
def ixOf (N : List Str) (x : Str) : Option Nat := N.findIdx? fun y => decide (y = x)
def slotOf (N : List Str) (sc : Scope) (x : Str) : Option Nat := if vis sc x && okNm x then ixOf N x else none
def isGl (sc : Scope) (x : Str) : Bool :=
  match sc.names.lookup x with
  | some .globalImplicit => true
  | _ => false
def mapO {α β : Type} (f : α → Option β) : List α → Option (List β)
  | [] => some []
  | a :: as => (f a).bind fun b => (mapO f as).map (b :: ·)
def cArgs (r : Expr → Option E) (es : List Expr) : Option (List E) := mapO (fun e => if okE e then r e else none) es
def isB (nm : Nm) (sc : Scope) (f : Str) : Bool := isGl sc f && decide (f ∈ nm.bl)
def isTp : Expr → Bool
  | .Tuple _ _ _ => true
  | _ => false
def cSeq (r : Expr → Option E) (iter : Expr) : Option (Sk × List E) := (r iter).map fun m => (.seq, [m])
def cSrc (nm : Nm) (sc : Scope) (r : Expr → Option E) (tg : Expr) (iter : Expr) : Option (Sk × List E) :=
  match iter with
  | .Call (.Name f _) args [] _ =>
    if isB nm sc f then
      if f = "range" then (match args with
        | [_] => (cArgs r args).map fun ms => (.rng, ms)
        | [_, _] => (cArgs r args).map fun ms => (.rng, ms)
        | _ => none)
      else if f = "zip" then (match args with
        | [_, _] => if isTp tg then (cArgs r args).map fun ms => (.zip, ms) else none
        | _ => none)
      else if f = "enumerate" then (match args with
        | [_] => if isTp tg then (cArgs r args).map fun ms => (.enum, ms) else none
        | _ => none)
      else if f = "reversed" then (match args with
        | [a] => if okE a then (r a).map fun m => (.rev, [m]) else none
        | _ => none)
      else cSeq r iter
    else cSeq r iter
  | _ => cSeq r iter
def tgB1 (N : List Str) (scope : Scope) (x : Str) : Option Nat :=
  match scope.names.lookup x with
  | some .local => ixOf N x
  | some .cell => ixOf N x
  | _ => none
def nmX (f : Str → Option Nat) : Expr → Option Nat
  | .Name x _ => f x
  | _ => none
def cTg (f : Str → Option Nat) : Expr → Option Tg
  | .Name x _ => (f x).map .nm
  | .Tuple es _ _ => (mapO (nmX f) es).map .tp
  | _ => none
def ownOf (N : List Str) (scope : Scope) : List (Str × Nat) := N.zipIdx.filter fun p =>
  match scope.names.lookup p.1 with
  | some .local => true
  | some .cell => true
  | _ => false
def allB : List B := [.len, .abs, .max, .min, .int, .sum, .tuple, .list, .sorted, .all, .any, .repr, .bool]
def bltOf (f : Str) : Option B := allB.find? fun b => decide (bname b = f)
def tyN (f : Str) : Option Ty := [Ty.bool, .int, .list, .tuple, .str].find? fun t => decide (Str.ofString (tyS t) = f)
def cCall (nm : Nm) (sc : Scope) (r : Expr → Option E) (f : Str) (args : List Expr) : Option E :=
  if isGl sc f && okNm f then
    if f ∈ nm.bl then
      if f = "isinstance" then (match args with
        | [a, .Name t _] => (tyN t).bind fun ty => if okE a && isB nm sc t then (r a).map fun m => .isi m ty else none
        | _ => none)
      else (bltOf f).bind fun b => (match args with
        | [] => none
        | _ :: _ => (cArgs r args).map (.blt b))
    else (nm.fns.find? fun e => decide (e.1 = f) && decide (e.2.1 = args.length)).bind fun e => (cArgs r args).map (.call e.2.2)
  else none
def cOpt (r : Expr → Option E) : Option Expr → Option (Option E)
  | none => some none
  | some e => (r e).map some
def cIfs (r : Expr → Option E) : List Expr → Option (Option E)
  | [] => some none
  | [e] => (r e).map some
  | _ => none
def cComp (nm : Nm) (N : List Str) (r : Scope → Expr → Option E) (sc : Scope) (elt tg iter : Expr) (ifs : List Expr) (scope : Scope) : Option E :=
  if blkC N sc scope (ownOf N scope) && okE iter then
    (cTg (tgB1 N scope) tg).bind fun t => if (tgIs t).all (fun j => decide (j ∈ (ownOf N scope).map (·.2))) then
      (cSrc nm sc (r sc) tg iter).bind fun s => (cIfs (r (relS scope sc)) ifs).bind fun c => (r (relS scope sc) elt).map fun m => .comp ((ownOf N scope).map (·.2)) t s.1 s.2 c m
    else none
  else none
def stepE (nm : Nm) (N : List Str) (r : Scope → Expr → Option E) (sc : Scope) (e : Expr) : Option E :=
  match e with
  | .Name x _ => (slotOf N sc x).map .var
  | .Constant .none _ _ => some (.k .non)
  | .Constant (.bool b) _ _ => some (.k (.bl b))
  | .Constant (.int i) _ _ => some (.k (.int i))
  | .Constant (.str x) _ _ => some (.k (.str x))
  | .BinOp a op b _ => (r sc a).bind fun x => (r sc b).map fun y => .bin op x y
  | .UnaryOp .Not a _ => (r sc a).map .not
  | .UnaryOp .USub a _ => (r sc a).map .neg
  | .BoolOp _ [a] _ => r sc a
  | .BoolOp .And (a :: b :: rest) pos => (r sc a).bind fun x => (r sc (.BoolOp .And (b :: rest) pos)).map fun y => .and x y
  | .BoolOp .Or (a :: b :: rest) pos => (r sc a).bind fun x => (r sc (.BoolOp .Or (b :: rest) pos)).map fun y => .or x y
  | .Compare a [op] [b] _ => if behindInMarks op b then none else (r sc a).bind fun x => (r sc b).map fun y => .cmp op x y
  | .Compare a [op, op'] [b, d] _ => if lastMarks [op, op'] [b, d] then none else (r sc a).bind fun x => (r sc b).bind fun y => (r sc d).map fun z => .chain op op' x y z
  | .IfExp c a b _ => (r sc c).bind fun x => (r sc a).bind fun y => (r sc b).map fun z => .ife x y z
  | .Tuple es _ _ => (cArgs (r sc) es).map .tup
  | .List es _ => (cArgs (r sc) es).map .lst
  | .Subscript a (.Slice lo hi none _) _ => (r sc a).bind fun x => (cOpt (r sc) lo).bind fun l => (cOpt (r sc) hi).map fun h => .sl x l h
  | .Subscript a (.Slice none none (some (.UnaryOp .USub (.Constant (.int i) _ _) _)) _) _ => if i = 1 then (r sc a).map .rvs else none
  | .Subscript a i _ => if okE i then (r sc a).bind fun x => (r sc i).map fun y => .ix x y else none
  | .Call (.Name f _) args [] _ => cCall nm sc (r sc) f args
  | .ListComp elt [⟨tg, iter, ifs, n⟩] scope _ => if n = 0 then cComp nm N r sc elt tg iter ifs scope else none
  | _ => none
def compE (nm : Nm) (N : List Str) : Nat → Scope → Expr → Option E
  | 0 => fun _ _ => none
  | n + 1 => stepE nm N (compE nm N n)

/-! ### it is right -/
theorem mapO_nil {α β : Type} {f : α → Option β} {bs : List β} (h : mapO f [] = some bs) : bs = [] := (Option.some.inj h).symm
theorem mapO_cons {α β : Type} {f : α → Option β} {a : α} {as : List α} {bs : List β} (h : mapO f (a :: as) = some bs) : ∃ b bs', f a = some b ∧ mapO f as = some bs' ∧ bs = b :: bs' := by
  unfold mapO at h
  rw [Option.bind_eq_some_iff] at h
  obtain ⟨b, h1, h2⟩ := h
  rw [Option.map_eq_some_iff] at h2
  obtain ⟨bs', h2, h3⟩ := h2
  exact ⟨b, bs', h1, h2, h3.symm⟩
theorem ixOf_at {N : List Str} {x : Str} {i : Nat} (h : ixOf N x = some i) : N[i]? = some x := by
  unfold ixOf at h
  obtain ⟨hi, hp, _⟩ := List.findIdx?_eq_some_iff_getElem.mp h
  rw [List.getElem?_eq_getElem hi, of_decide_eq_true hp]
theorem vis_of {sc : Scope} {x : Str} (h : vis sc x = true) : Vis sc x := by
  unfold vis at h
  split at h
  · exact .inl (by assumption)
  · exact .inr (.inl (by assumption))
  · exact .inr (.inr (by assumption))
  · cases h
theorem okNm_of {x : Str} (h : okNm x = true) : (x == ("__debug__" : Str)) = false ∧ (x == ("__classdict__" : Str)) = false := by
  unfold okNm at h
  rw [Bool.and_eq_true] at h
  exact ⟨by cases q : (x == ("__debug__" : Str)) <;> simp_all, by cases q : (x == ("__classdict__" : Str)) <;> simp_all⟩
theorem isGl_of {sc : Scope} {x : Str} (h : isGl sc x = true) : sc.names.lookup x = some .globalImplicit := by
  unfold isGl at h
  split at h
  · assumption
  · cases h
section
variable {X : Cx} {T : Tb} {N : List Str} {sc : Scope} {W : WX}
theorem GE.gl (g : GE X T N sc W) {x : Str} (h : isGl sc x = true) : Gl X x := by
  show X.env.scope.names.lookup x = _
  rw [g.sco]
  exact isGl_of h
theorem isB_of (g : GE X T N sc W) {x : Str} (h : isB T.nm sc x = true) : Gl X x ∧ X.mg x = none := by
  unfold isB at h
  rw [Bool.and_eq_true] at h
  exact ⟨g.gl h.1, g.bl _ (of_decide_eq_true h.2)⟩
theorem sndL_of {r : Expr → Option E} (hr : ∀ e m, r e = some m → Snd X T W e m) : ∀ {es : List Expr} {ms : List E}, cArgs r es = some ms → SndL X T W es ms
  | [], ms, h => by
    have e := mapO_nil h
    subst e; trivial
  | e :: es, ms, h => by
    obtain ⟨m, ms', h1, h2, rfl⟩ := mapO_cons h
    split at h1
    · exact ⟨by assumption, hr _ _ h1, sndL_of hr h2⟩
    · cases h1
theorem cSeq_ok {r : Expr → Option E} (hr : ∀ e m, r e = some m → Snd X T W e m) {tg iter : Expr} {k : Sk} {ms : List E} (h : cSeq r iter = some (k, ms)) : SrcOk X T W tg iter k ms := by
  unfold cSeq at h
  rw [Option.map_eq_some_iff] at h
  obtain ⟨m, h1, h2⟩ := h
  cases h2
  exact .seq (hr _ _ h1)
theorem cSrc_ok (g : GE X T N sc W) {r : Expr → Option E} (hr : ∀ e m, r e = some m → Snd X T W e m) {tg iter : Expr} {k : Sk} {ms : List E} (h : cSrc T.nm sc r tg iter = some (k, ms)) : SrcOk X T W tg iter k ms := by
  unfold cSrc at h
  split at h
  · rename_i f p args pos
    split at h
    · rename_i hb
      obtain ⟨gl, hm⟩ := isB_of g hb
      split at h
      · rename_i e
        subst e
        split at h
        · rw [Option.map_eq_some_iff] at h
          obtain ⟨m, h1, h2⟩ := h
          cases h2
          exact .rng1 gl hm (sndL_of hr h1)
        · rw [Option.map_eq_some_iff] at h
          obtain ⟨m, h1, h2⟩ := h
          cases h2
          exact .rng2 gl hm (sndL_of hr h1)
        · cases h
      · split at h
        · rename_i e
          subst e
          split at h
          · split at h
            · rename_i ht
              rw [Option.map_eq_some_iff] at h
              obtain ⟨m, h1, h2⟩ := h
              cases h2
              cases tg with
              | Tuple es k tp => exact .zip rfl gl hm (sndL_of hr h1)
              | _ => cases ht
            · cases h
          · cases h
        · split at h
          · rename_i e
            subst e
            split at h
            · split at h
              · rename_i ht
                rw [Option.map_eq_some_iff] at h
                obtain ⟨m, h1, h2⟩ := h
                cases h2
                cases tg with
                | Tuple es k tp => exact .enum rfl gl hm (sndL_of hr h1)
                | _ => cases ht
              · cases h
            · cases h
          · split at h
            · rename_i e
              subst e
              split at h
              · split at h
                · rename_i ho
                  rw [Option.map_eq_some_iff] at h
                  obtain ⟨m, h1, h2⟩ := h
                  cases h2
                  exact .rev gl hm ho (hr _ _ h1)
                · cases h
              · cases h
            · exact cSeq_ok hr h
    · exact cSeq_ok hr h
  · exact cSeq_ok hr h
theorem cCall_ok (g : GE X T N sc W) {r : Expr → Option E} (hr : ∀ e m, r e = some m → Snd X T W e m) {f : Str} {args : List Expr} {m : E} {p pos : Pos} (h : cCall T.nm sc r f args = some m) : Snd X T W (.Call (.Name f p) args [] pos) m := by
  unfold cCall at h
  split at h
  · rename_i hg
    rw [Bool.and_eq_true] at hg
    have gl := isGl_of hg.1
    have hd := (okNm_of hg.2).1
    split at h
    · rename_i hb
      split at h
      · rename_i e
        subst e
        split at h
        · rename_i a t tp
          rw [Option.bind_eq_some_iff] at h
          obtain ⟨ty, h1, h2⟩ := h
          split at h2
          · rename_i ho
            rw [Bool.and_eq_true] at ho
            have ht : Str.ofString (tyS ty) = t := by
              unfold tyN at h1
              have h1' := List.find?_some (p := fun t' => decide (Str.ofString (tyS t') = t)) h1
              exact of_decide_eq_true h1'
            subst ht
            have hob := ho.2
            unfold isB at hob
            rw [Bool.and_eq_true] at hob
            rw [Option.map_eq_some_iff] at h2
            obtain ⟨m', h3, h4⟩ := h2
            cases h4
            exact snd_isi g ty gl hb (isGl_of hob.1) (of_decide_eq_true hob.2) ho.1 (hr _ _ h3)
          · cases h2
        · cases h
      · rw [Option.bind_eq_some_iff] at h
        obtain ⟨b, h1, h2⟩ := h
        have hn : bname b = f := by
          unfold bltOf at h1
          have h1' := List.find?_some (p := fun b => decide (bname b = f)) h1
          exact of_decide_eq_true h1'
        subst hn
        split at h2
        · cases h2
        · rw [Option.map_eq_some_iff] at h2
          obtain ⟨ms, h3, h4⟩ := h2
          cases h4
          exact snd_blt g b gl hb (sndL_of hr h3)
    · rw [Option.bind_eq_some_iff] at h
      obtain ⟨e, h1, h2⟩ := h
      have hm := List.mem_of_find?_eq_some h1
      have hp := List.find?_some h1
      simp only [Bool.and_eq_true, decide_eq_true_eq] at hp
      obtain ⟨x, ar, id⟩ := e
      obtain ⟨e1, e2⟩ := hp
      dsimp only at e1 e2
      subst e1; subst e2
      rw [Option.map_eq_some_iff] at h2
      obtain ⟨ms, h3, h4⟩ := h2
      cases h4
      exact snd_call g hm gl hd (sndL_of hr h3)
  · cases h
theorem sndO_of {r : Expr → Option E} (hr : ∀ e m, r e = some m → Snd X T W e m) {o : Option Expr} {m : Option E} (h : cOpt r o = some m) : SndO X T W o m := by
  cases o with
  | none => cases h; trivial
  | some e =>
    unfold cOpt at h
    rw [Option.map_eq_some_iff] at h
    obtain ⟨m', h1, h2⟩ := h
    cases h2
    exact hr _ _ h1
theorem sndOb_of {r : Expr → Option E} (hr : ∀ e m, r e = some m → Snd X T W e m) {o : List Expr} {m : Option E} (h : cIfs r o = some m) : SndOb X T W o m := by
  unfold cIfs at h
  split at h
  · cases h; trivial
  · rw [Option.map_eq_some_iff] at h
    obtain ⟨m', h1, h2⟩ := h
    cases h2
    exact hr _ _ h1
  · cases h
theorem lookup_keep {scope sc : Scope} {x : Str} {k : NameKind} (hk : k ≠ .free) (h : scope.names.lookup x = some k) : (relS scope sc).names.lookup x = some k := lookup_relS_keep hk h
theorem nmB_ok (g : GE X T N sc W) {scope : Scope} {x : Str} {i : Nat} (h : tgB1 N scope x = some i) (s : Shared) (H : Hp) (C : Addr) (cl : List (Str × Addr)) (fp : List Addr) : NmOk (X.blk s H scope (compEnvC scope cl C X.env) fp) x i := by
  have esc : (X.blk s H scope (compEnvC scope cl C X.env) fp).env.scope = relS scope sc := by rw [← g.sco]; rfl
  unfold tgB1 at h
  split at h
  · rename_i q
    have e := ixOf_at h
    have l := lookup_keep (sc := sc) (by decide) q
    refine ⟨by show X.N[i]? = _; rw [g.nN]; exact e, ?_, .inr ?_⟩
    · left; rw [esc]; exact l
    · rw [esc]; exact l
  · rename_i q
    have e := ixOf_at h
    have l := lookup_keep (sc := sc) (by decide) q
    refine ⟨by show X.N[i]? = _; rw [g.nN]; exact e, ?_, .inl ?_⟩
    · right; rw [esc]; exact l
    · show (scope.names.lookup x == some .cell) = true
      rw [q]; rfl
  · cases h
theorem nmsOk_of {f : Str → Option Nat} (hf : ∀ x i, f x = some i → NmOk X x i) : ∀ {es : List Expr} {is : List Nat}, mapO (nmX f) es = some is → NmsOk X es is
  | [], is, h => by
    have e := mapO_nil h
    subst e; exact .nil
  | e :: es, is, h => by
    obtain ⟨i, is', h1, h2, rfl⟩ := mapO_cons h
    cases e with
    | Name x p => exact .cons (hf _ _ h1) (nmsOk_of hf h2)
    | _ => cases h1
theorem tgOk_of {f : Str → Option Nat} (hf : ∀ x i, f x = some i → NmOk X x i) {e : Expr} {t : Tg} (h : cTg f e = some t) : TgOk X e t := by
  unfold cTg at h
  split at h
  · rw [Option.map_eq_some_iff] at h
    obtain ⟨i, h1, h2⟩ := h
    cases h2
    exact .nm (hf _ _ h1)
  · rw [Option.map_eq_some_iff] at h
    obtain ⟨i, h1, h2⟩ := h
    cases h2
    exact .tp (nmsOk_of hf h1)
  · cases h
/-- what is proved of a compiler of expressions -/
def RtE (T : Tb) (N : List Str) (r : Scope → Expr → Option E) : Prop := ∀ sc e m, r sc e = some m → okE e = true ∧ ∀ X W, GE X T N sc W → Snd X T W e m
/-- a comprehension, its parts -/
structure CompOk (X : Cx) (T : Tb) (W : WX) (elt tg iter : Expr) (ifs : List Expr) (scope : Scope) (own : List (Str × Nat)) (t : Tg) (k : Sk) (ms : List E) (mc : Option E) (me : E) : Prop where
  src : SrcOk X T W tg iter k ms
  fo : okE iter = true
  blk : BlkOk X.N X.env.scope scope own
  tg : ∀ s H C cl fp, TgOk (X.blk s H scope (compEnvC scope cl C X.env) fp) tg t
  ts : ∀ j, j ∈ tgIs t → j ∈ own.map (·.2)
  ifs : ∀ s H C cl fp, SndOb (X.blk s H scope (compEnvC scope cl C X.env) fp) T (fun _ _ _ _ => False) ifs mc
  elt : ∀ s H C cl fp, Snd (X.blk s H scope (compEnvC scope cl C X.env) fp) T (fun _ _ _ _ => False) elt me
theorem cComp_ok {r : Scope → Expr → Option E} (hr : RtE T N r) (g : GE X T N sc W) {elt tg iter : Expr} {ifs : List Expr} {scope : Scope} {m : E} (h : cComp T.nm N r sc elt tg iter ifs scope = some m) :
    ∃ own t k ms mc me, m = .comp (own.map (·.2)) t k ms mc me ∧ CompOk X T W elt tg iter ifs scope own t k ms mc me := by
  unfold cComp at h
  split at h
  · rename_i hb
    rw [Bool.and_eq_true] at hb
    rw [Option.bind_eq_some_iff] at h
    obtain ⟨t, h1, h2⟩ := h
    split at h2
    · rename_i hts
      rw [Option.bind_eq_some_iff] at h2
      obtain ⟨⟨k, ms⟩, h3, h4⟩ := h2
      rw [Option.bind_eq_some_iff] at h4
      obtain ⟨mc, h5, h6⟩ := h4
      rw [Option.map_eq_some_iff] at h6
      obtain ⟨me, h7, h8⟩ := h6
      subst h8
      refine ⟨_, t, k, ms, mc, me, rfl, cSrc_ok g (fun e m q => (hr _ _ _ q).2 X W g) h3, hb.2, by rw [g.nN, g.sco]; exact blkOk_by hb.1, fun s H C cl fp => tgOk_of (fun x i q => nmB_ok g q s H C cl fp) h1, fun j hj => ?_,
        fun s H C cl fp => sndOb_of (fun e m q => (hr _ _ _ q).2 _ _ (g.blk s H C cl fp)) h5, fun s H C cl fp => (hr _ _ _ h7).2 _ _ (g.blk s H C cl fp)⟩
      exact of_decide_eq_true (List.all_eq_true.mp hts j hj)
    · cases h2
  · cases h
theorem CompOk.nd (g : GE X T N sc W) : X.N.Nodup := by rw [g.nN]; exact g.nd
theorem CompOk.ee (g : GE X T N sc W) {elt tg iter : Expr} {ifs : List Expr} {scope : Scope} {own : List (Str × Nat)} {t : Tg} {k : Sk} {ms : List E} {mc : Option E} {me : E} {pos : Pos} (h : CompOk X T W elt tg iter ifs scope own t k ms mc me) :
    PE X (.ListComp elt [⟨tg, iter, ifs, 0⟩] scope pos) (rdE X.K T W (.comp (own.map (·.2)) t k ms mc me)) :=
  (pe_lc g.calm (CompOk.nd g) h.src.p h.blk (fun s H C cl fp => TgOk.pg (X := X.blk s H scope (compEnvC scope cl C X.env) fp) (by show X.N.Nodup; exact CompOk.nd g) g.calm (h.tg s H C cl fp)) (fun s H C cl fp => (h.ifs s H C cl fp).pts) (fun s H C cl fp => (h.elt s H C cl fp).ee) (ok_folded h.fo _)).mono
    (e_comp g (pos := pos) h.src h.fo h.blk h.tg h.ts h.ifs h.elt)
end
theorem stepE_ok {T : Tb} {N : List Str} {r : Scope → Expr → Option E} (hr : RtE T N r) : RtE T N (stepE T.nm N r) := by
  intro sc e m h
  unfold stepE at h
  split at h
  · refine ⟨rfl, fun X W g => ?_⟩
    rw [Option.map_eq_some_iff] at h
    obtain ⟨i, h1, h2⟩ := h
    cases h2
    unfold slotOf at h1
    split at h1
    · rename_i q
      rw [Bool.and_eq_true] at q
      obtain ⟨d1, d2⟩ := okNm_of q.2
      exact snd_var g (ixOf_at h1) (vis_of q.1) d1 d2
    · cases h1
  · cases h; exact ⟨rfl, fun X W g => snd_k pe_non fun _ _ _ => dat_non.mpr rfl⟩
  · cases h; exact ⟨rfl, fun X W g => snd_k pe_bl fun _ _ _ => dat_bl.mpr rfl⟩
  · cases h; exact ⟨rfl, fun X W g => snd_k pe_int fun _ _ _ => dat_int.mpr rfl⟩
  · cases h; exact ⟨rfl, fun X W g => snd_k pe_str fun _ _ _ => dat_str.mpr rfl⟩
  · simp only [Option.bind_eq_some_iff, Option.map_eq_some_iff] at h
    obtain ⟨x, h1, y, h2, rfl⟩ := h
    exact ⟨rfl, fun X W g => snd_bin ((hr _ _ _ h1).2 X W g) ((hr _ _ _ h2).2 X W g)⟩
  · simp only [Option.map_eq_some_iff] at h
    obtain ⟨x, h1, rfl⟩ := h
    exact ⟨rfl, fun X W g => snd_not ((hr _ _ _ h1).2 X W g)⟩
  · simp only [Option.map_eq_some_iff] at h
    obtain ⟨x, h1, rfl⟩ := h
    exact ⟨rfl, fun X W g => snd_neg ((hr _ _ _ h1).2 X W g)⟩
  · exact ⟨rfl, fun X W g => snd_one ((hr _ _ _ h).2 X W g)⟩
  · simp only [Option.bind_eq_some_iff, Option.map_eq_some_iff] at h
    obtain ⟨x, h1, y, h2, rfl⟩ := h
    exact ⟨rfl, fun X W g => snd_and ((hr _ _ _ h1).2 X W g) ((hr _ _ _ h2).2 X W g)⟩
  · simp only [Option.bind_eq_some_iff, Option.map_eq_some_iff] at h
    obtain ⟨x, h1, y, h2, rfl⟩ := h
    exact ⟨rfl, fun X W g => snd_or ((hr _ _ _ h1).2 X W g) ((hr _ _ _ h2).2 X W g)⟩
  · split at h
    · cases h
    · rename_i hm
      simp only [Option.bind_eq_some_iff, Option.map_eq_some_iff] at h
      obtain ⟨x, h1, y, h2, rfl⟩ := h
      exact ⟨rfl, fun X W g => snd_cmp g (by simpa using hm) ((hr _ _ _ h1).2 X W g) ((hr _ _ _ h2).2 X W g)⟩
  · split at h
    · cases h
    · rename_i hm
      simp only [Option.bind_eq_some_iff, Option.map_eq_some_iff] at h
      obtain ⟨x, h1, y, h2, z, h3, rfl⟩ := h
      exact ⟨rfl, fun X W g => snd_chain g (by simpa using hm) ((hr _ _ _ h1).2 X W g) ((hr _ _ _ h2).2 X W g) ((hr _ _ _ h3).2 X W g)⟩
  · simp only [Option.bind_eq_some_iff, Option.map_eq_some_iff] at h
    obtain ⟨x, h1, y, h2, z, h3, rfl⟩ := h
    exact ⟨rfl, fun X W g => snd_ife ((hr _ _ _ h1).2 X W g) ((hr _ _ _ h2).2 X W g) ((hr _ _ _ h3).2 X W g)⟩
  · simp only [Option.map_eq_some_iff] at h
    obtain ⟨x, h1, rfl⟩ := h
    exact ⟨rfl, fun X W g => snd_tup (sndL_of (fun e m q => (hr _ _ _ q).2 X W g) h1)⟩
  · simp only [Option.map_eq_some_iff] at h
    obtain ⟨x, h1, rfl⟩ := h
    exact ⟨rfl, fun X W g => snd_lst (sndL_of (fun e m q => (hr _ _ _ q).2 X W g) h1)⟩
  · simp only [Option.bind_eq_some_iff, Option.map_eq_some_iff] at h
    obtain ⟨x, h1, y, h2, z, h3, rfl⟩ := h
    exact ⟨rfl, fun X W g => snd_sl ((hr _ _ _ h1).2 X W g) (sndO_of (fun e m q => (hr _ _ _ q).2 X W g) h2) (sndO_of (fun e m q => (hr _ _ _ q).2 X W g) h3)⟩
  · split at h
    · rename_i e1
      subst e1
      simp only [Option.map_eq_some_iff] at h
      obtain ⟨x, h1, rfl⟩ := h
      exact ⟨rfl, fun X W g => snd_rvs ((hr _ _ _ h1).2 X W g)⟩
    · cases h
  · split at h
    · rename_i ho
      simp only [Option.bind_eq_some_iff, Option.map_eq_some_iff] at h
      obtain ⟨x, h1, y, h2, rfl⟩ := h
      exact ⟨rfl, fun X W g => snd_ix ((hr _ _ _ h1).2 X W g) ((hr _ _ _ h2).2 X W g) ho⟩
    · cases h
  · exact ⟨rfl, fun X W g => cCall_ok g (fun e m q => (hr _ _ _ q).2 X W g) h⟩
  · split at h
    · rename_i e1
      subst e1
      refine ⟨rfl, fun X W g => ?_⟩
      obtain ⟨own, t, k, ms, mc, me, rfl, hc⟩ := cComp_ok hr g h
      exact .plain rfl (fun _ _ _ z => by cases z) (fun _ => rfl) (hc.ee g)
    · cases h
  · cases h
theorem compE_ok (T : Tb) (N : List Str) : ∀ n, RtE T N (compE T.nm N n)
  | 0 => fun _ _ _ h => by cases h
  | n + 1 => stepE_ok (compE_ok T N n)
end PD

set_option Elab.async false
set_option linter.all false
set_option maxRecDepth 100000
set_option maxHeartbeats 4000000
/-! PyS11: statements: readings by the evaluator, and the rules for them. -/
namespace PD
open PySem PySem.Spec PyProof.Rows L2

/-- a context in which statements run -/
structure GS (X : Cx) (T : Tb) (N : List Str) (sc : Scope) (W : WX) : Prop extends GE X T N sc W where
  pass : PassesOwn (model X.prog X.w) X.A X.env X.xe
  fn : ∀ x, X.fn x = true

/-! ### what is wanted behind a statement -/
def KOf (K : Fr) (D : Ends) (f : Fl) (σ : L2.St) (H : Hp) (c : Cf) : Prop :=
  match f with
  | .nx => c.x = none → D.nx σ H
  | .bk => c.x = none → D.bk σ H
  | .ct => c.x = none → D.ct σ H
  | .rt r => ∀ v, ValOk K c H r v → D.rt v H
def RunS (K : Fr) (xa : XA) (W : WX) (c : Cf) (H : Hp) (r : Res Fl) (k : Fl → Stt → L2.St → Hp → Cf → Prop) : Prop :=
  match r with
  | .ok f s' => ∀ σ' H' c', SS c H c' H' → Rel K c' s' σ' H' → k f s' σ' H' c'
  | .ex e s' => ∀ cls d σ' H' c', SS c H c' H' → Rel K c' s' σ' H' → c'.x = none → xa e cls d (hid c'.P H') c'.ha → W cls d σ' H'
  | .bad => False
section
variable {K : Fr} {xa : XA} {W : WX} {c c1 : Cf} {σ : L2.St} {H H1 : Hp} {α : Type} {D : Ends}
abbrev KD (K : Fr) (D : Ends) : Fl → Stt → L2.St → Hp → Cf → Prop := fun f _ σ H c => KOf K D f σ H c
theorem RunS.weak {r : Res Fl} {k : Fl → Stt → L2.St → Hp → Cf → Prop} (x : SS c H c1 H1) (h : RunS K xa W c H r k) : RunS K xa W c1 H1 r k := by
  cases r with
  | ok a s => exact fun σ' H' c' y q => h σ' H' c' (x.trans y) q
  | ex e s => exact fun cls d σ' H' c' y q => h cls d σ' H' c' (x.trans y) q
  | bad => exact h
/-- an expression ahead -/
theorem RunS.bind {r : Res α} {f : α → Stt → Res Fl} {k : Fl → Stt → L2.St → Hp → Cf → Prop} (h : RunS K xa W c H (r.bind f) k) :
    Run K xa W c σ H r fun a s1 H1 c1 => RunS K xa W c1 H1 (f a s1) k := by
  cases r with
  | ok a s => exact fun H' c' x _ => RunS.weak x.ss h
  | ex e s => exact fun cls d H' c' x q hx hz => h cls d σ H' c' x.ss q hx hz
  | bad => exact h
theorem RunS.of {o : Option α} {s : Stt} {f : α → Stt → Res Fl} {k : Fl → Stt → L2.St → Hp → Cf → Prop} (h : RunS K xa W c H ((Res.of o s).bind f) k) : ∃ a, o = some a ∧ RunS K xa W c H (f a s) k := by
  cases o with
  | none => exact h.elim
  | some a => exact ⟨a, rfl, h⟩
end
section
variable (K : Fr) (T : Tb) (w : Nat) (W : WX)
def rdS (m : S) : TS := fun D σ H => ∃ c s, Rel K c s σ H ∧ c.x = none ∧ RunS K T.xa W c H (evS T.Φ w m s) (KD K D)
def rdB (ms : List S) : TS := fun D σ H => ∃ c s, Rel K c s σ H ∧ c.x = none ∧ RunS K T.xa W c H (evB T.Φ w ms s) (KD K D)
end
theorem _root_.L2.PS.mono {X : Cx} {e : Stmt} {t t' : TS} (h : PS X e t) (w : ∀ D σ H, t' D σ H → t D σ H) : PS X e t' := ⟨fun pins s σ H D I q => h.run pins s σ H D I (w D σ H q)⟩
theorem _root_.L2.PSs.mono {X : Cx} {e : List Stmt} {t t' : TS} (h : PSs X e t) (w : ∀ D σ H, t' D σ H → t D σ H) : PSs X e t' := ⟨fun pins s σ H D I q => h.run pins s σ H D I (w D σ H q)⟩

section
variable {K : Fr} {T : Tb} {w : Nat} {W : WX} {c : Cf} {s : Stt} {σ : L2.St} {H : Hp} {D : Ends}
theorem set_run {xa : XA} {t : Tg} {r : R} {v : V} {s2 : Stt} (rel : Rel K c s σ H) (hv : ValOk K c H r v) (e : setT t r s = some s2) (q : RunS K xa W c H (.ok .nx s2) (KD K D)) : gT K t v σ H D.nx := by
  cases r with
  | d x =>
    have e' : bindT t x s = some s2 := by cases t <;> exact e
    exact bind_run rel hv.2 e' fun σ2 c2 x2 hx2 r2 _ => q σ2 H c2 x2.ss r2 (hx2.trans hv.1)
  | f xs =>
    cases t with
    | tp is => cases e
    | nm i =>
      simp only [setT] at e
      split at e
      · rename_i hi
        cases e
        obtain ⟨p, vs, rfl, hx, hp, hd⟩ := hv
        obtain ⟨c', r', x', hx'⟩ := rel.storex (i := i) (by rw [← rel.len]; exact hi) hx hp hd
        exact q _ H c' x'.ss r' hx'
      · cases e
/-- an own list is handed out -/
theorem Rel.handx (r : Rel K c s σ H) (hx : c.x = none) {i : Nat} {xs : List PD.D} (e : s.ρ[i]? = some (.own xs)) :
    ∃ v c', σ[i]? = some (some v) ∧ Rel K c' (s.put i .no) σ H ∧ XS c H c' H ∧ ValOk K c' H (.f xs) v := by
  have q := r.cel i
  rw [e] at q
  obtain ⟨a, vs, ev, h1, h2, h3⟩ := celOk_own.mp q
  obtain ⟨n0, n1, n2⟩ := r.new a (.inl ⟨i, h1⟩)
  obtain ⟨r1, x1⟩ := r.forget1 i
  have nA : ∀ j, (c.rid i).A j ≠ some a := fun j z => by
    by_cases w : j = i
    · simp [Cf.rid, w] at z
    · simp [Cf.rid, w] at z
      exact w (r.inj j i a z h1)
  have pP : ∀ b, Cf.P { c.rid i with x := some a } b → c.P b := fun b z => by
    rcases z with z | z | ⟨j, z⟩ | z | z
    · exact .inl z
    · exact .inr (.inl z)
    · exact c.rid_P (i := i) (.inr (.inr (.inl ⟨j, z⟩)))
    · exact .inr (.inr (.inl ⟨i, by rw [h1]; exact z⟩))
    · exact .inr (.inr (.inr (.inr z)))
  have same : Same (hid c.P H) (hid (Cf.P { c.rid i with x := some a }) H) := same_hid fun b o n q => ⟨fun z => n (pP b z), q⟩
  refine ⟨_, { c.rid i with x := some a }, ev, ?_, ⟨rfl, rfl, rfl, rfl, rfl, same, fun _ _ _ z => z⟩, a, vs, rfl, rfl, h2, Dats.mono same _ _ h3⟩
  have get : ∀ j b, (c.rid i).A j = some b → j ≠ i ∧ c.A j = some b := fun j b z => by
    by_cases w : j = i
    · simp [Cf.rid, w] at z
    · simp [Cf.rid, w] at z
      exact ⟨w, z⟩
  refine ⟨by unfold Stt.put; rw [List.length_set]; exact r.len, fun j => ?_, r.hnd, fun z => r.hca (pP _ z), fun j k b z1 z2 => r.inj j k b (get j b z1).2 (get k b z2).2, fun j b z => ?_, fun b z => ?_, fun j b z1 z2 => ?_, r.keep, r.p0, r.cah, r.hah, fun p z => ?_, fun b z => ?_⟩
  · by_cases z : j = i
    · subst z
      rw [put_get (List.getElem?_eq_some_iff.mp e).1]
      exact celOk_no
    · rw [put_get_ne z]
      exact (r.cel j).go rfl same fun b us k1 k2 => ⟨by simp [Cf.rid, z, k1], k2⟩
  · obtain ⟨us, eu⟩ := r.own j b (get j b z).2
    exact ⟨us, by rw [put_get_ne (get j b z).1]; exact eu⟩
  · rcases z with ⟨j, z⟩ | z
    · exact r.new b (.inl ⟨j, (get j b z).2⟩)
    · have e2 : a = b := Option.some.inj z
      subst e2
      exact ⟨n0, n1, n2⟩
  · have e2 : a = b := Option.some.inj z2
    subst e2
    exact nA j z1
  · have e2 : a = p := Option.some.inj z
    subst e2
    exact ⟨vs, h2⟩
  · obtain ⟨y0, y1, y2, y3, y4, y5⟩ := r.yy b z
    exact ⟨y0, y1, y2, fun j q => y3 j (get j b q).2, fun q => by
      have e2 : a = b := Option.some.inj q
      subst e2
      exact y3 i h1, y5⟩
end
/-! ### the rules -/
/-- at the end of a statement -/
theorem nx_of {K : Fr} {xa : XA} {W : WX} {c : Cf} {s : Stt} {σ : L2.St} {H : Hp} {D : Ends} (rel : Rel K c s σ H) (hx : c.x = none) (q : RunS K xa W c H (.ok .nx s) (KD K D)) : D.nx σ H := q σ H c .refl rel hx
section
variable {X : Cx} {T : Tb} {N : List Str} {sc : Scope} {W : WX} {w : Nat} {e : Expr} {m : E} {pos pos' : Pos}
def isComp : Expr → Bool
  | .ListComp _ _ _ _ => true
  | .SetComp _ _ _ _ => true
  | .DictComp _ _ _ _ _ => true
  | _ => false
theorem sw_no (h : isComp e = false) (t : Option Expr) (l : Nat) (env : Env) : swapsWith e t l env = pure false := by
  cases e <;> first | rfl | cases h
theorem rd_set {t : Tg} {stm : Stmt} (ps : PS X stm (tAsg (rdE X.K T W m) (gT X.K t))) : PS X stm (rdS X.K T w W (.set t m)) := ps.mono fun D σ H ⟨c, s, rel, hx, q⟩ => by
  unfold evS at q
  refine ⟨c, s, rel, hx, (RunS.bind q).mono fun r s1 H1 c1 x1 r1 q1 v hv => ?_⟩
  obtain ⟨s2, e2, q2⟩ := q1.of
  exact set_run r1 hv e2 q2
theorem rs_set (g : GS X T N sc W) {t : Tg} {tg : Expr} (ht : TgOk X tg t) (he : Snd X T W e m) (hs : swapsWith e (some tg) pos.line X.env = pure false) (hw : swappedStores [tg] e X.env = pure none) (h1 : (assignEach [tg] X.env).map (·.2) = [assign tg X.env]) :
    PS X (.Assign [tg] e pos) (rdS X.K T w W (.set t m)) :=
  rd_set (ps_asg he.ee (ht.pg (by rw [g.nN]; exact g.nd) g.calm) hs hw h1)
theorem rs_exp (he : Snd X T W e m) (hc : isComp e = false) : PS X (.Expr e pos) (rdS X.K T w W (.exp m)) := (ps_expr he.ee (sw_no hc _ _ _)).mono fun D σ H ⟨c, s, rel, hx, q⟩ => by
  unfold evS at q
  refine ⟨c, s, rel, hx, (RunS.bind q).mono fun r s1 H1 c1 x1 r1 q1 v hv => ?_⟩
  obtain ⟨r2, x2⟩ := r1.nox
  exact nx_of r2 rfl (q1.weak x2.ss)
theorem rs_ret (he : Snd X T W e m) (hv : isVar m = false) : PS X (.Return (some e) pos) (rdS X.K T w W (.ret m)) := by
  refine (ps_ret he.ee).mono fun D σ H ⟨c, s, rel, hx, q⟩ => ?_
  have q : RunS X.K T.xa W c H ((evE T.Φ m s).bind fun r s1 => .ok (.rt r) s1) (KD X.K D) := by
    unfold evS at q
    cases m <;> first | exact q | cases hv
  exact ⟨c, s, rel, hx, (RunS.bind q).mono fun r s1 H1 c1 x1 r1 q1 v hv => q1 σ H1 c1 .refl r1 v hv⟩
theorem rs_retV {i : Nat} {x : Str} (hi : X.N[i]? = some x) (hv : Vis X.env.scope x) (hd : (x == ("__debug__" : Str)) = false) (hc : (x == ("__classdict__" : Str)) = false) : PS X (.Return (some (.Name x pos')) pos) (rdS X.K T w W (.ret (.var i))) :=
  (ps_ret (pe_var hi hv hd hc)).mono fun D σ H ⟨c, s, rel, hx, q⟩ => by
    unfold evS at q
    split at q
    · rename_i xs hy
      obtain ⟨v, c', ev, r', x', hv⟩ := rel.handx hx hy
      exact ⟨v, ev, q σ H c' x'.ss r' v hv⟩
    · rename_i y hy
      obtain ⟨v, ev, hd⟩ := rel.get hy
      exact ⟨v, ev, q σ H c .refl rel v ⟨hx, hd⟩⟩
    · exact q.elim
theorem rs_retN : PS X (.Return none pos) (rdS X.K T w W .retN) := ps_retN.mono fun D σ H ⟨c, s, rel, hx, q⟩ => by
  unfold evS at q
  exact q σ H c .refl rel .non ⟨hx, dat_non.mpr rfl⟩
theorem rs_pass : PS X (.Pass pos) (rdS X.K T w W .pss) := ps_pass.mono fun D σ H ⟨c, s, rel, hx, q⟩ => by
  unfold evS at q
  exact nx_of rel hx q
theorem rs_brk : PS X (.Break pos) (rdS X.K T w W .brk) := ps_break.mono fun D σ H ⟨c, s, rel, hx, q⟩ => by
  unfold evS at q
  exact q σ H c .refl rel hx
theorem rs_cnt : PS X (.Continue pos) (rdS X.K T w W .cnt) := ps_continue.mono fun D σ H ⟨c, s, rel, hx, q⟩ => by
  unfold evS at q
  exact q σ H c .refl rel hx
theorem rs_bad {stm : Stmt} : PS X stm (rdS X.K T w W .bad) := ps_never.mono fun D σ H ⟨c, s, rel, hx, q⟩ => by
  unfold evS at q
  exact q
theorem rs_if {a b : List Stmt} {ma mb : List S} (hc : Snd X T W e m) (ha : PSs X a (rdB X.K T w W ma)) (hb : PSs X b (rdB X.K T w W mb)) : PS X (.If e a b pos) (rdS X.K T w W (.ifS m ma mb)) :=
  (ps_if hc.tt ha hb).mono fun D σ H ⟨c, s, rel, hx, q⟩ => by
    unfold evS at q
    refine ⟨c, s, rel, hx, (RunS.bind q).mono fun b s1 H1 c1 x1 r1 q1 hx1 => ?_⟩
    cases b with
    | true => exact ⟨c1, s1, r1, hx1, q1⟩
    | false => exact ⟨c1, s1, r1, hx1, q1⟩
theorem rs_par (g : GS X T N sc W) {i j : Nat} {x y : Str} {a b : Expr} {ma mb : E} {px py pt : Pos} {kt k2 pt2} (hi : X.N[i]? = some x) (hj : X.N[j]? = some y) (hij : i ≠ j)
    (hx : X.env.scope.names.lookup x = some .local) (hy : X.env.scope.names.lookup y = some .local) (ha : SndL X T W [a, b] [ma, mb])
    (hw : swappedStores [.Tuple [.Name x px, .Name y py] kt pt] (.Tuple [a, b] k2 pt2) X.env = pure (some [x, y])) :
    PS X (.Assign [.Tuple [.Name x px, .Name y py] kt pt] (.Tuple [a, b] k2 pt2) pos) (rdS X.K T w W (.par i j ma mb)) :=
  (ps_par g.calm (by rw [g.nN]; exact g.nd) hi hj hij hx hy ha.pa hw).mono fun D σ H ⟨c, s, rel, hx, q⟩ => by
    unfold evS at q
    refine ⟨c, s, rel, hx, (RunS.bind q).mono fun xs s1 H1 c1 x1 r1 q1 hx1 vs hvs => ?_⟩
    split at q1
    · obtain ⟨v, vs', rfl, d1, d2⟩ := hvs.cons_out
      obtain ⟨v2, vs'', rfl, d3, d4⟩ := d2.cons_out
      have e0 := Dats.nil_iff.mp d4
      subst e0
      obtain ⟨r2, x2⟩ := r1.store (i := i) d1
      obtain ⟨r3, x3⟩ := r2.store (i := j) (Dat.mono x2.same _ _ d3)
      exact ⟨v, v2, rfl, nx_of r3 hx1 (q1.weak (x2.trans x3).ss)⟩
    · exact q1.elim
theorem rs_aug (g : GS X T N sc W) {i : Nat} {x : Str} {op : Operator} (hi : X.N[i]? = some x) (hx : Loc X.env.scope x) (ho : op = .Add ∨ op = .Sub) (he : Snd X T W e m) : PS X (.AugAssign (.Name x pos') op e pos) (rdS X.K T w W (.aug i op m)) :=
  (ps_aug (by rw [g.nN]; exact g.nd) hi hx he.pp (iop_augD op ho) (.inl (g.fn x))).mono fun D σ H ⟨c, s, rel, hx, q⟩ => by
    unfold evS at q
    obtain ⟨x, ex, q1⟩ := q.of
    obtain ⟨v, ev, hd⟩ := rel.peek ex
    refine ⟨v, ev, c, s, rel, hx, (RunS.bind q1).mono fun y s1 H1 c1 x1 r1 q2 hx1 u hu => ?_⟩
    obtain ⟨n, en, q3⟩ := q2.of
    obtain ⟨r, er, q4⟩ := q3.of
    cases x with
    | int k =>
      refine ⟨c1, k, y, r, hd.int, hu, er, wish_of (xa := T.xa) r1 hx1 fun H2 c2 x2 r2 z hz => ?_⟩
      obtain ⟨r3, x3⟩ := r2.nox
      have hz' := hz.dat r2
      obtain ⟨r4, x4⟩ := r3.store (i := i) hz'
      exact nx_of r4 rfl (q4.weak ((x2.trans x3).trans x4).ss)
    | _ => cases en
/-! methods of own lists -/
theorem own_of {s : Stt} {i : Nat} {xs : List PD.D} (h : ownAt s i = some xs) : s.ρ[i]? = some (.own xs) := by
  unfold ownAt at h
  split at h
  · cases h; assumption
  · cases h
theorem rs_app (g : GS X T N sc W) {i : Nat} {x : Str} {p1 p2 cp : Pos} (hi : X.N[i]? = some x) (hv : Vis X.env.scope x) (hd : (x == ("__debug__" : Str)) = false) (hc : (x == ("__classdict__" : Str)) = false) (hl : (p2.endLine == cp.line) = true) (o : okE e = true) (he : Snd X T W e m) :
    PS X (.Expr (.Call (.Attribute (.Name x p1) "append" p2) [e] [] cp) pos) (rdS X.K T w W (.app i m)) :=
  (ps_expr (pe_bm F.plainAttrs_list F.slot_list_append F.type_list_append mt_append (pe_var hi hv hd hc) (pa_cons he.ee pa_nil (ok_star o _ _)) rfl (by rw [ok_star o]; rfl) hl (ok_star o _ _) rfl)).mono fun D σ H ⟨c, s, rel, hx, q⟩ => by
    unfold evS at q
    obtain ⟨xs, ex, q1⟩ := q.of
    obtain ⟨a, vs, ev, na, ha, hds, _⟩ := rel.write hx (own_of ex)
    refine ⟨_, ev, .inl ⟨rfl, vs, SqL.of ha⟩, c, s, rel, hx, (RunS.bind q1).mono fun r s1 H1 c1 x1 r1 q2 v hv => ?_⟩
    obtain ⟨ys, ey, q3⟩ := q2.of
    obtain ⟨r2, x2⟩ := r1.nox
    obtain ⟨a', vs', ev', na', ha', hds', wr⟩ := r2.write rfl (own_of ey)
    rw [ev] at ev'
    have ea : a = a' := by injection ev' with z; injection z with z; injection z
    subst ea
    split at q3
    · rename_i hz
      have hv' := hv.dat r1
      obtain ⟨r3, x3⟩ := wr (ys ++ [r.D]) (vs' ++ [v]) (Dats.append hds' (Dats.cons hv' Dats.nil))
      exact ⟨a, vs', v, rfl, rfl, ha', by rw [hds'.length]; exact hz, nx_of r3 rfl (q3.weak (x2.ss.trans x3))⟩
    · exact q3.elim
theorem rs_ext (g : GS X T N sc W) {i : Nat} {x : Str} {p1 p2 cp : Pos} (hi : X.N[i]? = some x) (hv : Vis X.env.scope x) (hd : (x == ("__debug__" : Str)) = false) (hc : (x == ("__classdict__" : Str)) = false) (hl : (p2.endLine == cp.line) = true) (o : okE e = true) (he : Snd X T W e m) :
    PS X (.Expr (.Call (.Attribute (.Name x p1) "extend" p2) [e] [] cp) pos) (rdS X.K T w W (.ext i m)) :=
  (ps_expr (pe_bm F.plainAttrs_list F.slot_list_extend F.type_list_extend mt_extend (pe_var hi hv hd hc) (pa_cons he.ee pa_nil (ok_star o _ _)) rfl (by rw [ok_star o]; rfl) hl (ok_star o _ _) rfl)).mono fun D σ H ⟨c, s, rel, hx, q⟩ => by
    unfold evS at q
    obtain ⟨xs, ex, q1⟩ := q.of
    obtain ⟨a, vs, ev, na, ha, hds, _⟩ := rel.write hx (own_of ex)
    refine ⟨_, ev, .inl ⟨rfl, vs, SqL.of ha⟩, c, s, rel, hx, (RunS.bind q1).mono fun r s1 H1 c1 x1 r1 q2 v hv => ?_⟩
    obtain ⟨ys, ey, q3⟩ := q2.of
    obtain ⟨zs, ez, q4⟩ := q3.of
    obtain ⟨r2, x2⟩ := r1.nox
    obtain ⟨a', vs', ev', na', ha', hds', wr⟩ := r2.write rfl (own_of ey)
    rw [ev] at ev'
    have ea : a = a' := by injection ev' with z; injection z with z; injection z
    subst ea
    have hd0 := hv.dat r1
    obtain ⟨ds, ed⟩ : ∃ ds, r.D = .lst ds := by
      cases hr : r.D with
      | lst ds => exact ⟨ds, rfl⟩
      | _ => rw [hr] at ez; cases ez
    rw [ed] at ez hd0
    cases ez
    obtain ⟨b, us, rfl, hb, hdu⟩ := dat_lst.mp hd0
    obtain ⟨_, hb'⟩ := hid_some hb
    split at q4
    · rename_i hz
      obtain ⟨r3, x3⟩ := wr (ys ++ zs) (vs' ++ us) (Dats.append hds' hdu)
      exact ⟨a, b, vs', us, rfl, rfl, ha', hb', by rw [hds'.length, hdu.length]; exact hz, nx_of r3 rfl (q4.weak (x2.ss.trans x3))⟩
    · exact q4.elim
theorem rs_six (g : GS X T N sc W) {i : Nat} {x : Str} {p1 p2 : Pos} {k : Expr} {mk : E} (hi : X.N[i]? = some x) (hv : Vis X.env.scope x) (hd : (x == ("__debug__" : Str)) = false) (hc : (x == ("__classdict__" : Str)) = false) (ok : okE k = true) (hk : Snd X T W k mk) (he : Snd X T W e m) :
    PS X (.Assign [.Subscript (.Name x p1) k p2] e pos) (rdS X.K T w W (.six i mk m)) := by
  have hsw : swapsWithSole [.Subscript (.Name x p1) k p2] e pos.line X.env = pure false := by cases e <;> rfl
  have hst : swappedStores [.Subscript (.Name x p1) k p2] e X.env = pure none := by cases e <;> rfl
  have ha : ∀ v, assign (.Subscript (.Name x p1) k p2) X.env v = (do
      let ov ← holding [v] (eval (.Name x p1) X.env)
      let iv ← holding [v, ov] (eval k X.env)
      standAt p2
      holding [v, ov, iv] (setItem ov iv v)
      release [v, ov, iv] []) := by intro v; cases k <;> first | rfl | cases ok
  refine (ps_asg he.ee (pg_sub (pe_var hi hv hd hc) hk.pp set_list ha) hsw hst rfl).mono fun D σ H ⟨c, s, rel, hx, q⟩ => ?_
  unfold evS at q
  refine ⟨c, s, rel, hx, (RunS.bind q).mono fun r s1 H1 c1 x1 r1 q1 v hv => ?_⟩
  obtain ⟨r2, x2⟩ := r1.nox
  have hd0 := hv.dat r1
  split at q1
  · rename_i xs ex
    obtain ⟨a, vs, ev, na, ha, hds, _⟩ := r2.write rfl ex
    refine ⟨_, ev, _, s1, r2, rfl, (RunS.bind (q1.weak x2.ss)).mono fun kd s2 H2 c2 x3 r3 q3 hx2 u hu => ?_⟩
    obtain ⟨ys, ey, q4⟩ := q3.of
    obtain ⟨zs, ez, q5⟩ := q4.of
    obtain ⟨a', vs', ev', na', ha', hds', wr⟩ := r3.write hx2 (own_of ey)
    rw [ev] at ev'
    have ea : a = a' := by injection ev' with z; injection z with z; injection z
    subst ea
    cases kd with
    | int n =>
      simp only [setAt, Option.map_eq_some_iff] at ez
      obtain ⟨j, ej, rfl⟩ := ez
      have hd1 : Dat X.K c2.ha (hid c2.P H2) v r.D := by
        rw [show c2.ha = c1.ha from x3.ha]
        exact Dat.mono x3.same _ _ hd0
      obtain ⟨r4, x4⟩ := wr (ys.set j r.D) (vs'.set j v) (Dats.set hd1 j hds')
      exact ⟨a, vs', n, j, rfl, hu.int, ha', by rw [hds'.length]; exact ej, nx_of r4 hx2 (q5.weak x4)⟩
    | _ => cases ez
  · rename_i ex
    obtain ⟨hv0, ev, hdh⟩ := r2.get ex
    have eh := dat_hand.mp hdh
    subst eh
    refine ⟨_, ev, _, s1, r2, rfl, (RunS.bind (q1.weak x2.ss)).mono fun kd s2 H2 c2 x3 r3 q3 hx2 u hu => ?_⟩
    obtain ⟨g', eg, q4⟩ := q3.of
    have hd1 : Dat X.K c2.ha (hid c2.P H2) v r.D := by
      rw [show c2.ha = c1.ha from x3.ha]
      exact Dat.mono x3.same _ _ hd0
    have eha : c2.ha = c1.ha := x3.ha
    generalize r.D = dv at eg hd1
    cases kd with
    | int n =>
      cases dv with
      | int z =>
        have ez := dat_int.mp hd1
        subst ez
        obtain ⟨hl, hc, ne⟩ := r3.hnd
        have eg : handSet s2.g n z = some g' := eg
        have go : ∀ xs, HandOk c2.ha c2.ca (upd H2 c2.ha (.lst xs)) g' → D.nx σ (upd H2 c2.ha (.lst xs)) := fun xs hh => by
          obtain ⟨r4, x4⟩ := r3.grow (g := g') (H' := upd H2 c2.ha (.lst xs)) (fun b o n q => by rw [upd_ne n]; exact q) hh
          exact nx_of r4 hx2 (q4.weak x4.ss)
        have hca : ∀ xs, upd H2 c2.ha (.lst xs) c2.ca = some (.lst (s2.g.cells.map V.int)) := fun xs => by rw [upd_ne ne]; exact hc
        unfold handSet at eg
        split at eg
        · rename_i hi
          subst hi
          cases eg
          exact ⟨c2.ha, _, 1, 1, by rw [eha], hu.int, hl, rfl, go _ ⟨upd_same, hca _, ne⟩⟩
        · split at eg
          · rename_i hi
            subst hi
            cases eg
            exact ⟨c2.ha, _, 2, 2, by rw [eha], hu.int, hl, rfl, go _ ⟨upd_same, hca _, ne⟩⟩
          · split at eg
            · rename_i hi
              subst hi
              cases eg
              exact ⟨c2.ha, _, 3, 3, by rw [eha], hu.int, hl, rfl, go _ ⟨upd_same, hca _, ne⟩⟩
            · cases eg
      | _ => cases eg
    | _ => cases dv <;> cases eg
  · exact q1.elim
end
end PD

set_option Elab.async false
set_option linter.all false
set_option maxRecDepth 100000
set_option maxHeartbeats 4000000
/-! PyS12: loops, sequences; statements of the program into the language, and that it is right. -/
namespace PD
open PySem PySem.Spec PyProof.Rows L2

section
variable {X : Cx} {T : Tb} {N : List Str} {sc : Scope} {W : WX} {w : Nat} {e : Expr} {m : E} {pos pos' : Pos}
theorem rs_setLc (g : GS X T N sc W) {i : Nat} {y : Str} {py : Pos} {elt tg iter : Expr} {ifs : List Expr} {scope : Scope} {own : List (Str × Nat)} {t : Tg} {k : Sk} {ms : List E} {mc : Option E} {me : E}
    (h : CompOk X T W elt tg iter ifs scope own t k ms mc me) (hy : X.N[i]? = some y) (hyl : X.env.scope.names.lookup y = some .local) (hsw : swapsWith (.ListComp elt [⟨tg, iter, ifs, 0⟩] scope pos') (some (.Name y py)) pos.line X.env = pure true) :
    PS X (.Assign [.Name y py] (.ListComp elt [⟨tg, iter, ifs, 0⟩] scope pos') pos) (rdS X.K T w W (.set (.nm i) (.comp (own.map (·.2)) t k ms mc me))) :=
  rd_set ((ps_setLc g.calm (CompOk.nd g.toGE) hy hyl hsw h.src.p h.blk (fun s H C cl fp => TgOk.pg (X := X.blk s H scope (compEnvC scope cl C X.env) fp) (by show X.N.Nodup; exact CompOk.nd g.toGE) g.calm (h.tg s H C cl fp)) (fun s H C cl fp => (h.ifs s H C cl fp).pts)
    (fun s H C cl fp => (h.elt s H C cl fp).ee) (ok_folded h.fo _)).mono fun D σ H q => e_comp g.toGE (pos := pos') h.src h.fo h.blk h.tg h.ts h.ifs h.elt σ H _ q)
theorem rs_for (g : GS X T N sc W) {tg iter : Expr} {t : Tg} {k : Sk} {ms : List E} {body : List Stmt} {mb : List S} (hi : SrcOk X T W tg iter k ms) (ht : TgOk X tg t) (hfo : okE iter = true) (hb : PSs X body (rdB X.K T w W mb)) :
    PS X (.For tg iter body [] pos) (rdS X.K T w W (.forS t k ms mb)) :=
  (ps_for g.pass g.calm hi.l (ht.pg (by rw [g.nN]; exact g.nd) g.calm) hb (ok_folded hfo _)).mono fun D σ H ⟨c, s, rel, hx, q⟩ => by
    unfold evS at q
    refine ⟨c, s, rel, hx, (RunS.bind q).mono fun xs s1 H1 c1 x1 r1 q1 hx1 vs hvs => ?_⟩
    obtain ⟨ds, eds, q2⟩ := q1.of
    obtain ⟨J, hJ, hw⟩ := j_of_src hvs.ps eds
    refine ⟨J, hJ, fun i m σ' H' => m = ds.length - i ∧ i ≤ ds.length ∧ ∃ c' s', Rel X.K c' s' σ' H' ∧ c'.x = none ∧ SS c1 H1 c' H' ∧ RunS X.K T.xa W c' H' (forL (evB T.Φ w mb) t (ds.drop i) s') (KD X.K D),
      ⟨_, rfl, Nat.zero_le _, c1, s1, r1, hx1, .refl, by rw [List.drop_zero]; exact q2⟩, ?_⟩
    intro i m σ' H' ⟨em, hi, c', s', r', hx', ss, q'⟩
    have hvs' : Dats X.K c'.ha (hid c'.P H') vs xs := by
      rw [show c'.ha = c1.ha from ss.ha]
      exact Dats.mono ss.same _ _ hvs
    obtain ⟨go, stop⟩ := hw c' H' hvs'.ps r'.obs
    by_cases hlt : i < ds.length
    · obtain ⟨g1, g2⟩ := go i hlt
      refine .inr ⟨g1, fun σ'' H'' => ∃ c' s', Rel X.K c' s' σ'' H'' ∧ c'.x = none ∧ SS c1 H1 c' H'' ∧ RunS X.K T.xa W c' H'' (forL (evB T.Φ w mb) t (ds.drop (i + 1)) s') (KD X.K D),
        fun σ'' H'' z => ⟨ds.length - (i + 1), by omega, rfl, hlt, z⟩, fun x H2 hy => ?_⟩
      obtain ⟨hgr, hdx⟩ := g2 x H2 hy
      have dr : ds.drop i = ds[i] :: ds.drop (i + 1) := List.drop_eq_getElem_cons hlt
      rw [dr] at q'
      unfold forL at q'
      cases hb : bindT t ds[i] s' with
      | none => rw [hb] at q'; exact q'.elim
      | some s1' =>
        rw [hb] at q'
        simp only at q'
        obtain ⟨rl2, ss2⟩ : Rel X.K c' s' σ' H2 ∧ SS c' H' c' H2 := by
          rcases hgr with rfl | ⟨p, o, hp, rfl⟩
          · exact ⟨r', .refl⟩
          · obtain ⟨a1, a2⟩ := r'.new1 (o := o) hp
            exact ⟨a1, a2.ss⟩
        refine bind_run rl2 hdx hb fun σ2 c2 x2 hx2 r2 hout => ⟨c2, s1', r2, hx2.trans hx', ?_⟩
        have step : SS c' H' c2 H2 := ss2.trans x2.ss
        replace q' := q'.weak step
        cases h4 : evB T.Φ w mb s1' with
        | bad => rw [h4] at q'; exact q'.elim
        | ex e s2 => rw [h4] at q'; exact q'
        | ok f s2 =>
          rw [h4] at q'
          cases f with
          | nx => exact fun σ3 H3 c3 ss3 r3 hx3 => ⟨c3, s2, r3, hx3, ss.trans (step.trans ss3), q'.weak ss3⟩
          | ct => exact fun σ3 H3 c3 ss3 r3 hx3 => ⟨c3, s2, r3, hx3, ss.trans (step.trans ss3), q'.weak ss3⟩
          | bk => exact fun σ3 H3 c3 ss3 r3 hx3 => q' σ3 H3 c3 ss3 r3 hx3
          | rt r => exact fun σ3 H3 c3 ss3 r3 v hv => q' σ3 H3 c3 ss3 r3 v hv
    · have e0 : i = ds.length := by omega
      subst e0
      rw [List.drop_length] at q'
      unfold forL at q'
      exact .inl ⟨stop _ (Nat.le_refl _), nx_of r' hx' q'⟩
theorem rs_whl (g : GS X T N sc W) {body : List Stmt} {mb : List S} (hc : Snd X T W e m) (hb : PSs X body (rdB X.K T w W mb)) : PS X (.While e body [] pos) (rdS X.K T w W (.whl m mb)) :=
  (ps_while g.pass hc.tt hb).mono fun D σ H ⟨c, s, rel, hx, q⟩ => by
    unfold evS at q
    refine ⟨fun n σ' H' => ∃ c' s', Rel X.K c' s' σ' H' ∧ c'.x = none ∧ RunS X.K T.xa W c' H' (whlL (tst m (evE T.Φ m)) (evB T.Φ w mb) n s') (KD X.K D), ⟨w, c, s, rel, hx, q⟩, ?_⟩
    intro n σ' H' ⟨c', s', r', hx', q'⟩
    cases n with
    | zero => exact q'.elim
    | succ n =>
      unfold whlL at q'
      refine ⟨c', s', r', hx', ?_⟩
      cases h1 : tst m (evE T.Φ m) s' with
      | bad => rw [h1] at q'; exact q'.elim
      | ex e s2 =>
        rw [h1] at q'
        exact fun cls d H' c' x q hx hz => q' cls d σ' H' c' x.ss q hx hz
      | ok b s1 =>
        rw [h1] at q'
        intro H1 c1 x1 r1 hx1
        cases b with
        | false =>
          rw [if_neg Bool.false_ne_true]
          exact nx_of r1 hx1 (q'.weak x1.ss)
        | true =>
          rw [if_pos rfl]
          refine ⟨fun σ'' H'' => ∃ c' s', Rel X.K c' s' σ'' H'' ∧ c'.x = none ∧ RunS X.K T.xa W c' H'' (whlL (tst m (evE T.Φ m)) (evB T.Φ w mb) n s') (KD X.K D), fun σ'' H'' z => ⟨n, Nat.lt_succ_self _, z⟩, c1, s1, r1, hx1, ?_⟩
          replace q' := q'.weak x1.ss
          simp only at q'
          cases h4 : evB T.Φ w mb s1 with
          | bad => rw [h4] at q'; exact q'.elim
          | ex e s2 => rw [h4] at q'; exact q'
          | ok f s2 =>
            rw [h4] at q'
            cases f with
            | nx => exact fun σ3 H3 c3 ss3 r3 hx3 => ⟨c3, s2, r3, hx3, q'.weak ss3⟩
            | ct => exact fun σ3 H3 c3 ss3 r3 hx3 => ⟨c3, s2, r3, hx3, q'.weak ss3⟩
            | bk => exact fun σ3 H3 c3 ss3 r3 hx3 => q' σ3 H3 c3 ss3 r3 hx3
            | rt r => exact fun σ3 H3 c3 ss3 r3 v hv => q' σ3 H3 c3 ss3 r3 v hv
theorem rb_nil : PSs X [] (rdB X.K T w W []) := pss_nil.mono fun D σ H ⟨c, s, rel, hx, q⟩ => by
  unfold evB at q
  exact nx_of rel hx q
theorem rb_cons {stm : Stmt} {r : List Stmt} {a : S} {b : List S} (h1 : PS X stm (rdS X.K T w W a)) (h2 : PSs X r (rdB X.K T w W b)) : PSs X (stm :: r) (rdB X.K T w W (a :: b)) :=
  (pss_cons h1 h2).mono fun D σ H ⟨c, s, rel, hx, q⟩ => by
    unfold evB at q
    refine ⟨c, s, rel, hx, ?_⟩
    cases h4 : evS T.Φ w a s with
    | bad => rw [h4] at q; exact q.elim
    | ex e s2 => rw [h4] at q; exact q
    | ok f s2 =>
      rw [h4] at q
      cases f with
      | nx => exact fun σ3 H3 c3 ss3 r3 hx3 => ⟨c3, s2, r3, hx3, RunS.weak ss3 q⟩
      | ct => exact fun σ3 H3 c3 ss3 r3 hx3 => q σ3 H3 c3 ss3 r3 hx3
      | bk => exact fun σ3 H3 c3 ss3 r3 hx3 => q σ3 H3 c3 ss3 r3 hx3
      | rt r => exact fun σ3 H3 c3 ss3 r3 v hv => q σ3 H3 c3 ss3 r3 v hv
end
end PD

set_option Elab.async false
set_option linter.all false
set_option maxRecDepth 100000
set_option maxHeartbeats 4000000
/-! PyS13: statements of the program into the language, and that it is right. -/
namespace PD
open PySem PySem.Spec PyProof.Rows L2

def swpB (a b : Expr) (px py : Pos) (x y : Str) : Bool := !(x == y) && (py.line == px.line) && !(foldedForSure 8 a && foldedForSure 8 b) && !(constantsAlone 8 a && constantsAlone 8 b) && okE a && okE b
theorem swp_of {a b : Expr} {px py pt : Pos} {kt k2 : Nat} {pt2 : Pos} {x y : Str} {env : Env} (h : swpB a b px py x y = true) (hk : env.scope.kind = .function) (hx : env.scope.names.lookup x = some .local) (hy : env.scope.names.lookup y = some .local) :
    swappedStores [.Tuple [.Name x px, .Name y py] kt pt] (.Tuple [a, b] k2 pt2) env = pure (some [x, y]) := by
  have kx : env.kindOf x = some .local := hx
  have ky : env.kindOf y = some .local := hy
  have hb : env.blockKind = .function := by unfold Env.blockKind; rw [hk]; rfl
  unfold swpB at h
  simp only [Bool.and_eq_true, Bool.not_eq_true'] at h
  obtain ⟨⟨⟨⟨⟨h1, h2⟩, h3⟩, h4⟩, h5⟩, h6⟩ := h
  have ed : ([x, y] : List Str).eraseDups.length = 2 := by
    simp [List.eraseDups_cons, h1, bne, BEq.comm (a := y) (b := x)]
  have st : ([a, b] : List Expr).any (fun | .Starred .. => true | _ => false) = false := by
    cases a <;> first | exact absurd h5 Bool.false_ne_true | (cases b <;> first | exact absurd h6 Bool.false_ne_true | rfl)
  have f1 : ([a, b] : List Expr).all (foldedForSure 8) = false := by simp only [List.all_cons, List.all_nil, Bool.and_true]; exact h3
  have f2 : ([a, b] : List Expr).all (constantsAlone 8) = false := by simp only [List.all_cons, List.all_nil, Bool.and_true]; exact h4
  unfold swappedStores
  simp only [hb, kx, ky, Expr.pos, h2, st, f1, f2, ed, List.filterMap, List.length_cons, List.length_nil, List.head?, Option.map, Option.getD, beq_self_eq_true, Bool.and_self, if_true, if_false, Bool.true_or, Bool.not_true]
  rw [if_neg (by decide)]
  refine (if_neg (fun z => Bool.false_ne_true (st.symm.trans z))).trans ?_
  rw [if_neg (by decide)]
  rfl
def isFn (sc : Scope) : Bool :=
  match sc.kind with
  | .function => true
  | _ => false
theorem isFn_of {sc : Scope} (h : isFn sc = true) : sc.kind = .function := by
  unfold isFn at h
  split at h
  · assumption
  · cases h
def isLo (sc : Scope) (x : Str) : Bool :=
  match sc.names.lookup x with
  | some .local => true
  | _ => false
theorem isLo_of {sc : Scope} {x : Str} (h : isLo sc x = true) : sc.names.lookup x = some .local := by
  unfold isLo at h
  split at h
  · assumption
  · cases h
/-- the target is made first, the comprehension's value goes straight to it -/
def swpC (sc : Scope) (y : Str) (py : Pos) (cp : Pos) (scope : Scope) : Bool :=
  (if sc.kind.isAnnotationScope then ScopeKind.function else sc.kind) == .function && sc.names.lookup y == some .local && py.line == cp.line && !(scope.names.any fun (n, k) => n == y && (k == .local || k == .cell))
def cAsg (nm : Nm) (N : List Str) (r : Scope → Expr → Option E) (sc : Scope) (tg e : Expr) : Option S :=
  match tg with
  | .Name y py => match e with
    | .ListComp elt [⟨t, iter, ifs, n⟩] scope cp =>
      if swpC sc y py cp scope then
        if n = 0 && isLo sc y then (ixOf N y).bind fun i => (cComp nm N r sc elt t iter ifs scope).map fun m => .set (.nm i) m else none
      else (tgB1 N sc y).bind fun i => (r sc e).map fun m => .set (.nm i) m
    | _ => if isComp e then none else (tgB1 N sc y).bind fun i => (r sc e).map fun m => .set (.nm i) m
  | .Tuple es _ _ => match e with
    | .Tuple vs _ _ => match es, vs with
      | [.Name x px, .Name y py], [a, b] =>
        if swpB a b px py x y && isFn sc && isLo sc x && isLo sc y then (ixOf N x).bind fun i => (ixOf N y).bind fun j => (r sc a).bind fun ma => (r sc b).bind fun mb => if i = j then none else some (.par i j ma mb)
        else none
      | _, _ => none
    | _ => if isComp e then none else (cTg (tgB1 N sc) tg).bind fun t => (r sc e).map fun m => .set t m
  | .Subscript (.Name x _) k _ => if okE k then (slotOf N sc x).bind fun i => (r sc k).bind fun mk => (r sc e).map fun m => .six i mk m else none
  | _ => none
def cExp (N : List Str) (r : Scope → Expr → Option E) (sc : Scope) (e : Expr) : Option S :=
  match e with
  | .Call (.Attribute (.Name x _) mt p2) [a] [] cp =>
    if okE a && (p2.endLine == cp.line) then
      if mt = "append" then (slotOf N sc x).bind fun i => (r sc a).map fun m => .app i m
      else if mt = "extend" then (slotOf N sc x).bind fun i => (r sc a).map fun m => .ext i m
      else none
    else none
  | _ => if isComp e then none else (r sc e).map fun m => .exp m
def cRet (N : List Str) (r : Scope → Expr → Option E) (sc : Scope) (e : Expr) : Option S :=
  match e with
  | .Name x _ => (slotOf N sc x).map fun i => .ret (.var i)
  | _ => (r sc e).bind fun m => if isVar m then none else some (.ret m)
def stepS (nm : Nm) (N : List Str) (r : Scope → Expr → Option E) (rb : List Stmt → Option (List S)) (sc : Scope) (st' : Stmt) : Option S :=
  match st' with
  | .Assign [tg] e _ => cAsg nm N r sc tg e
  | .Expr e _ => cExp N r sc e
  | .Return none _ => some .retN
  | .Return (some e) _ => cRet N r sc e
  | .If c a b _ => (r sc c).bind fun m => (rb a).bind fun x => (rb b).map fun y => .ifS m x y
  | .For tg iter body [] _ => if okE iter then (cTg (tgB1 N sc) tg).bind fun t => (cSrc nm sc (r sc) tg iter).bind fun k => (rb body).map fun b => .forS t k.1 k.2 b else none
  | .While c body [] _ => (r sc c).bind fun m => (rb body).map fun b => .whl m b
  | .AugAssign (.Name x _) .Add e _ => (tgB1 N sc x).bind fun i => (r sc e).map fun m => .aug i .Add m
  | .AugAssign (.Name x _) .Sub e _ => (tgB1 N sc x).bind fun i => (r sc e).map fun m => .aug i .Sub m
  | .Pass _ => some .pss
  | .Break _ => some .brk
  | .Continue _ => some .cnt
  | .Raise _ _ _ => some .bad
  | _ => none
def compB (nm : Nm) (N : List Str) (r : Scope → Expr → Option E) (sc : Scope) : Nat → List Stmt → Option (List S)
  | 0 => fun _ => none
  | n + 1 => mapO (stepS nm N r (compB nm N r sc n) sc)

section
variable {X : Cx} {T : Tb} {N : List Str} {sc : Scope} {W : WX} {w : Nat}
theorem slot_of {x : Str} {i : Nat} (g : GE X T N sc W) (h : slotOf N sc x = some i) : X.N[i]? = some x ∧ Vis X.env.scope x ∧ (x == ("__debug__" : Str)) = false ∧ (x == ("__classdict__" : Str)) = false := by
  unfold slotOf at h
  split at h
  · rename_i q
    rw [Bool.and_eq_true] at q
    obtain ⟨d1, d2⟩ := okNm_of q.2
    exact ⟨by rw [g.nN]; exact ixOf_at h, by rw [g.sco]; exact vis_of q.1, d1, d2⟩
  · cases h
theorem nmD_ok (g : GS X T N sc W) {x : Str} {i : Nat} (h : tgB1 N sc x = some i) : NmOk X x i := by
  unfold tgB1 at h
  split at h
  · rename_i q
    exact ⟨by rw [g.nN]; exact ixOf_at h, .inl (by rw [g.sco]; exact q), .inl (g.fn x)⟩
  · rename_i q
    exact ⟨by rw [g.nN]; exact ixOf_at h, .inr (by rw [g.sco]; exact q), .inl (g.fn x)⟩
  · cases h
theorem swC_of (g : GS X T N sc W) {elt : Expr} {gs : List Comprehension} {scope : Scope} {pos py : Pos} {y : Str} {l : Nat} : swapsWith (.ListComp elt gs scope pos) (some (.Name y py)) l X.env = pure (swpC sc y py pos scope) := by
  rw [← g.sco]; rfl
theorem h1_nm {y : Str} {py : Pos} {env : Env} : (assignEach [.Name y py] env).map (·.2) = [assign (.Name y py) env] := rfl
theorem h1_tp {es : List Expr} {k : Nat} {py : Pos} {env : Env} : (assignEach [.Tuple es k py] env).map (·.2) = [assign (.Tuple es k py) env] := rfl
theorem cAsg_ok {r : Scope → Expr → Option E} (hr : RtE T N r) (g : GS X T N sc W) {tg e : Expr} {pos : Pos} {m : S} (h : cAsg T.nm N r sc tg e = some m) : PS X (.Assign [tg] e pos) (rdS X.K T w W m) := by
  have re : ∀ e m, r sc e = some m → Snd X T W e m := fun e m q => (hr _ _ _ q).2 X W g.toGE
  have plain : ∀ {y : Str} {py : Pos} {e : Expr} {m : S}, swapsWith e (some (.Name y py)) pos.line X.env = pure false → ((tgB1 N sc y).bind fun i => (r sc e).map fun m => S.set (.nm i) m) = some m → PS X (.Assign [.Name y py] e pos) (rdS X.K T w W m) := fun {y py e m} hs h => by
    rw [Option.bind_eq_some_iff] at h
    obtain ⟨i, h1, h2⟩ := h
    rw [Option.map_eq_some_iff] at h2
    obtain ⟨m', h3, rfl⟩ := h2
    exact rs_set g (.nm (nmD_ok g h1)) (re _ _ h3) hs (by cases e <;> rfl) h1_nm
  unfold cAsg at h
  split at h
  · rename_i y py
    split at h
    · rename_i elt t iter ifs n scope cp
      split at h
      · rename_i hs
        split at h
        · rename_i hn
          rw [Bool.and_eq_true] at hn
          have n0 : n = 0 := of_decide_eq_true hn.1
          subst n0
          rw [Option.bind_eq_some_iff] at h
          obtain ⟨i, h1, h2⟩ := h
          rw [Option.map_eq_some_iff] at h2
          obtain ⟨m', h3, rfl⟩ := h2
          obtain ⟨own, t', k, ms, mc, me, rfl, hc⟩ := cComp_ok hr g.toGE h3
          exact rs_setLc g hc (by rw [g.nN]; exact ixOf_at h1) (by rw [g.sco]; exact isLo_of hn.2) (by rw [swC_of g, hs])
        · cases h
      · rename_i hs
        exact plain (by rw [swC_of g, Bool.eq_false_iff.mpr hs]) h
    · rename_i hnc
      split at h
      · cases h
      · rename_i hs
        exact plain (sw_no (Bool.eq_false_iff.mpr hs) _ _ _) h
  · rename_i es k tp
    split at h
    · rename_i vs k2 vp
      split at h
      · rename_i x px y py a b
        split at h
        · rename_i hq
          simp only [Bool.and_eq_true] at hq
          simp only [Option.bind_eq_some_iff] at h
          obtain ⟨i, h1, j, h2, ma, h3, mb, h4, h5⟩ := h
          split at h5
          · cases h5
          · rename_i hij
            cases h5
            have hx : X.env.scope.names.lookup x = some .local := by rw [g.sco]; exact isLo_of hq.1.2
            have hy : X.env.scope.names.lookup y = some .local := by rw [g.sco]; exact isLo_of hq.2
            have o := hq.1.1.1
            unfold swpB at o
            simp only [Bool.and_eq_true] at o
            exact rs_par g (by rw [g.nN]; exact ixOf_at h1) (by rw [g.nN]; exact ixOf_at h2) hij hx hy ⟨o.1.2, re _ _ h3, o.2, re _ _ h4, trivial⟩ (swp_of hq.1.1.1 (by rw [g.sco]; exact isFn_of hq.1.1.2) hx hy)
        · cases h
      · cases h
    · rename_i hnt
      split at h
      · cases h
      · rename_i hs
        rw [Option.bind_eq_some_iff] at h
        obtain ⟨t, h1, h2⟩ := h
        rw [Option.map_eq_some_iff] at h2
        obtain ⟨m', h3, rfl⟩ := h2
        refine rs_set g (tgOk_of (fun x i q => nmD_ok g q) h1) (re _ _ h3) (sw_no (Bool.eq_false_iff.mpr hs) _ _ _) ?_ h1_tp
        cases e <;> first | rfl | exact absurd rfl (hnt _ _ _)
  · rename_i x p1 k p2
    split at h
    · rename_i ok
      simp only [Option.bind_eq_some_iff, Option.map_eq_some_iff] at h
      obtain ⟨i, h1, mk, h2, m', h3, rfl⟩ := h
      obtain ⟨a1, a2, a3, a4⟩ := slot_of g.toGE h1
      exact rs_six g a1 a2 a3 a4 ok (re _ _ h2) (re _ _ h3)
    · cases h
  · cases h
theorem cExp_ok {r : Scope → Expr → Option E} (hr : RtE T N r) (g : GS X T N sc W) {e : Expr} {pos : Pos} {m : S} (h : cExp N r sc e = some m) : PS X (.Expr e pos) (rdS X.K T w W m) := by
  have re : ∀ e m, r sc e = some m → Snd X T W e m := fun e m q => (hr _ _ _ q).2 X W g.toGE
  unfold cExp at h
  split at h
  · rename_i x p1 mt p2 a cp
    split at h
    · rename_i hq
      rw [Bool.and_eq_true] at hq
      split at h
      · rename_i em
        subst em
        simp only [Option.bind_eq_some_iff, Option.map_eq_some_iff] at h
        obtain ⟨i, h1, m', h3, rfl⟩ := h
        obtain ⟨a1, a2, a3, a4⟩ := slot_of g.toGE h1
        exact rs_app g a1 a2 a3 a4 hq.2 hq.1 (re _ _ h3)
      · split at h
        · rename_i em
          subst em
          simp only [Option.bind_eq_some_iff, Option.map_eq_some_iff] at h
          obtain ⟨i, h1, m', h3, rfl⟩ := h
          obtain ⟨a1, a2, a3, a4⟩ := slot_of g.toGE h1
          exact rs_ext g a1 a2 a3 a4 hq.2 hq.1 (re _ _ h3)
        · cases h
    · cases h
  · split at h
    · cases h
    · rename_i hs
      rw [Option.map_eq_some_iff] at h
      obtain ⟨m', h3, rfl⟩ := h
      exact rs_exp (re _ _ h3) (Bool.eq_false_iff.mpr hs)
theorem cRet_ok {r : Scope → Expr → Option E} (hr : RtE T N r) (g : GS X T N sc W) {e : Expr} {pos : Pos} {m : S} (h : cRet N r sc e = some m) : PS X (.Return (some e) pos) (rdS X.K T w W m) := by
  have re : ∀ e m, r sc e = some m → Snd X T W e m := fun e m q => (hr _ _ _ q).2 X W g.toGE
  unfold cRet at h
  split at h
  · rw [Option.map_eq_some_iff] at h
    obtain ⟨i, h1, rfl⟩ := h
    obtain ⟨a1, a2, a3, a4⟩ := slot_of g.toGE h1
    exact rs_retV a1 a2 a3 a4
  · rw [Option.bind_eq_some_iff] at h
    obtain ⟨m', h3, h4⟩ := h
    split at h4
    · cases h4
    · rename_i hv
      cases h4
      exact rs_ret (re _ _ h3) (Bool.eq_false_iff.mpr hv)
/-- what is proved of a compiler of bodies -/
def RtB (X : Cx) (T : Tb) (W : WX) (w : Nat) (rb : List Stmt → Option (List S)) : Prop := ∀ b m, rb b = some m → PSs X b (rdB X.K T w W m)
theorem stepS_ok {r : Scope → Expr → Option E} (hr : RtE T N r) (g : GS X T N sc W) {rb : List Stmt → Option (List S)} (hb : RtB X T W w rb) {st' : Stmt} {m : S} (h : stepS T.nm N r rb sc st' = some m) : PS X st' (rdS X.K T w W m) := by
  have re : ∀ e m, r sc e = some m → Snd X T W e m := fun e m q => (hr _ _ _ q).2 X W g.toGE
  unfold stepS at h
  split at h
  · exact cAsg_ok hr g h
  · exact cExp_ok hr g h
  · cases h; exact rs_retN
  · exact cRet_ok hr g h
  · simp only [Option.bind_eq_some_iff, Option.map_eq_some_iff] at h
    obtain ⟨m', h1, x, h2, y, h3, rfl⟩ := h
    exact rs_if (re _ _ h1) (hb _ _ h2) (hb _ _ h3)
  · split at h
    · rename_i ho
      simp only [Option.bind_eq_some_iff, Option.map_eq_some_iff] at h
      obtain ⟨t, h1, ⟨k, ms⟩, h2, y, h3, rfl⟩ := h
      exact rs_for g (cSrc_ok g.toGE re h2) (tgOk_of (fun x i q => nmD_ok g q) h1) ho (hb _ _ h3)
    · cases h
  · simp only [Option.bind_eq_some_iff, Option.map_eq_some_iff] at h
    obtain ⟨m', h1, x, h2, rfl⟩ := h
    exact rs_whl g (re _ _ h1) (hb _ _ h2)
  · simp only [Option.bind_eq_some_iff, Option.map_eq_some_iff] at h
    obtain ⟨i, h1, m', h2, rfl⟩ := h
    obtain ⟨a1, a2, _⟩ := nmD_ok g h1
    exact rs_aug g a1 a2 (.inl rfl) (re _ _ h2)
  · simp only [Option.bind_eq_some_iff, Option.map_eq_some_iff] at h
    obtain ⟨i, h1, m', h2, rfl⟩ := h
    obtain ⟨a1, a2, _⟩ := nmD_ok g h1
    exact rs_aug g a1 a2 (.inr rfl) (re _ _ h2)
  · cases h; exact rs_pass
  · cases h; exact rs_brk
  · cases h; exact rs_cnt
  · cases h; exact rs_bad
  · cases h
theorem compB_ok {r : Scope → Expr → Option E} (hr : RtE T N r) (g : GS X T N sc W) : ∀ n, RtB X T W w (compB T.nm N r sc n)
  | 0 => fun _ _ h => by cases h
  | n + 1 => fun b => by
    induction b with
    | nil =>
      intro m h
      have e := mapO_nil h
      subst e
      exact rb_nil
    | cons a b ih =>
      intro m h
      obtain ⟨x, y, h1, h2, rfl⟩ := mapO_cons h
      exact rb_cons (stepS_ok hr g (compB_ok hr g n) h1) (ih _ h2)
end
end PD

set_option Elab.async false
set_option linter.all false
set_option maxRecDepth 100000
set_option maxHeartbeats 4000000
/-! PyS14: a def of the program keeps the promise that its body in the language computes; all defs together, by levels. -/
namespace PD
open PySem PySem.Spec PyProof.Rows L2

/-! ### a def by its body, where no text is being made -/
theorem fnG_of {P : Program} {w : World} {K : Fr} {mg : Str → Option Value} {base : Heap} {k : Nat} {f : Addr} {nm qual : Str} {pa : Arguments} {body : List Stmt} {sc : Scope} {dV kV doc pm cdv ct oc : Value} {an od : Option Addr}
    {osl : Array (Option Value)} {N ps : List Str} {sp : Sp} (at_f : K.lookup f = some ⟨oc, od, .func (PySem.W.fnOf nm qual pa body sc dV kV doc pm an cdv ct), osl⟩) (code : PySem.W.codeIn K cdv qual = true) (fs : FnScope N ps sc)
    (count : ∀ vs H Q E, sp vs H Q E → vs.length = ps.length)
    (run : ∀ (A : Around) (outer : List Env) (s : Shared) (H : Hp) (vs : List V) (Q : VK) (E : XK), Room k (A.deeper (envOfC qual sc s.heap.objs.size f cdv)) → A.guards = some [] → sp vs H Q E →
      ∃ t, PSs (cxOf (L2.CX P w) P w K mg base N qual sc f cdv A outer s H E) body t ∧ t { nx := fun _ H' => Q .non H', rt := Q } (start N vs) H) :
    FnG P w K mg base (k + 1) f (PySem.W.fnOf nm qual pa body sc dV kV doc pm an cdv ct) ps sp where
  len := count
  run := fun A outer s H args us vs Q E room gu en bd rv say => by
    have inK : K.In s.heap := en.mod.kin.keeps fun b o z => (en.bs b o z).left
    have noL : s.heap.NoLimit := en.mod.nolimit.keeps fun b o z => (en.bs b o z).left
    have kinds : ∀ y ∈ ps.zip us, sc.names.lookup y.1 = some .local ∨ (sc.names.lookup y.1 = some .cell ∧ ((cellsFrom (s.heap.objs.size + 1) sc.names []).lookup y.1).isSome = true) := by
      intro y my
      refine (fs.par y.1 (List.of_mem_zip (a := y.1) (b := y.2) my).1).imp id fun z => ⟨z, ?_⟩
      exact PySem.W.cellsFrom_some sc.names _ _ (Or.inl z)
    apply codeAny_call_function (room.depth) (inK f _ at_f) rfl fs.co fs.gen rfl (PySem.W.codeRec_of inK code)
    apply bd
    apply wpAny_newFunctionEnv_cells fs.kind kinds
    intro env eqn s1 inC
    subst eqn
    have look : s1.heap.NoLimit := noL.keeps inC.toInCall.keep
    obtain ⟨t, pss, tq⟩ := run A outer s H vs Q E (room.deeper _) gu say
    have beg := inv_start (CX := L2.CX P w) (E := E) fs room.hd en (count _ _ _ _ say) rv inC
    refine ⟨look, codeAny_func ?_⟩
    have step := pss.run [] s1 (start N vs) H _ beg tq
    refine wpAny_mono step ?_ (fun _ _ z => z)
    intro fl s' out
    match fl, out with
    | .ret u, ⟨v, _, H', J, rel, q⟩ => exact ⟨v, H', J.os, J.bare, J.base, J.hok, rel, q⟩
    | .next, ⟨_, H', J, q⟩ => exact ⟨.non, H', J.os, J.bare, J.base, J.hok, rfl, q⟩
    | .brk, ⟨_, _, _, q⟩ => exact q.elim
    | .cont, ⟨_, _, _, q⟩ => exact q.elim

/-! ### defs as data -/
structure Def where
  nm : Str
  qual : Str
  N : List Str
  ps : List Str
  dfl : List D
  scope : Scope
  stmts : List Stmt
  body : List S
def fillD (d : Def) (xs : List D) : List D := xs ++ d.dfl.drop (xs.length + d.dfl.length - d.ps.length)
def phi (ds : List Def) (u : Nat) : Nat → FEnv
  | 0 => fun _ _ _ => .bad
  | k + 1 => fun i xs g => match ds[i]? with
    | none => .bad
    | some d => runF (phi ds u k) u d.N.length d.body (fillD d xs) g
def psi (ds : List Def) (u : Nat) (k : Nat) (d : Def) (xs : List D) (g : Hand) : FR :=
  match k with
  | 0 => .bad
  | k + 1 => runF (phi ds u k) u d.N.length d.body xs g
theorem phi_psi (ds : List Def) (u k i : Nat) (xs : List D) (g : Hand) : phi ds u k i xs g = match ds[i]? with
    | none => .bad
    | some d => psi ds u k d (fillD d xs) g := by
  cases k with
  | zero => cases ds[i]? <;> rfl
  | succ k => rfl
def nmOf (ds : List Def) (bl : List Str) : Nm := ⟨ds.zipIdx.flatMap fun p => (List.range (p.1.dfl.length + 1)).map fun j => (p.1.nm, p.1.ps.length - j, p.2), bl⟩
/-- a def as it stands behind the top -/
structure DefAt (K : Fr) (mg : Str → Option Value) (d : Def) (f : Addr) (fd : FuncData) : Prop where
  ex : ∃ (oc : Value) (od : Option Addr) (pa : Arguments) (dV kV doc pm : Value) (an : Option Addr) (cdv ct : Value) (osl : Array (Option Value)),
    fd = PySem.W.fnOf d.nm d.qual pa d.stmts d.scope dV kV doc pm an cdv ct ∧ K.lookup f = some ⟨oc, od, .func fd, osl⟩ ∧ PySem.W.codeIn K cdv d.qual = true
  mg : mg d.nm = some (.ref f)
  kp : PySem.W.keepIn K (.ref f) = true
  fs : FnScope d.N d.ps d.scope
  np : d.dfl.length ≤ d.ps.length
  bd : ∀ j, j ≤ d.dfl.length → ∃ (dvs : List V) (us : List Value), Vals dvs us ∧ Binds K fd d.ps us ∧ ∀ ha H, Dats K ha H dvs (d.dfl.drop j)
def Mono (xa : XA) : Prop := ∀ e cls d H H' ha, Same H H' → xa e cls d H ha → xa e cls d H' ha
section
variable {P : Program} {w : World} {K : Fr} {mg : Str → Option Value} {base : Heap} {T : Tb} {d : Def} {f : Addr} {fd : FuncData} {u : Nat}
theorem start_len {N : List Str} {vs : List V} (h : vs.length ≤ N.length) : (start N vs).length = N.length := by
  unfold L2.start
  rw [List.length_append, List.length_map, List.length_replicate]
  omega
theorem start_get {N : List Str} {vs : List V} {i : Nat} {v : V} (h : vs[i]? = some v) : (start N vs)[i]? = some (some v) := by
  unfold L2.start
  rw [List.getElem?_append_left (by rw [List.length_map]; exact (List.getElem?_eq_some_iff.mp h).1), List.getElem?_map, h]
  rfl
/-- the configuration at a def's entry -/
theorem rel_start {N : List Str} {ha ca : Addr} {Pp : Addr → Prop} {H : Hp} {vs : List V} {ds : List D} {g : Hand} (hn : vs.length ≤ N.length) (hP : Pp ha) (hPs : ∀ b, Pp b → ∃ o, H b = some o) (hh : HandOk ha ca H g) (hca : ¬ Pp ca) (hd : Dats K ha (hid Pp H) vs ds) :
    Rel K ⟨ha, ca, Pp, H, fun _ => none, none, []⟩ ⟨ds.map .d ++ List.replicate (N.length - ds.length) .no, g⟩ (start N vs) H := by
  have hl := hd.length
  have pP : ∀ b, Cf.P ⟨ha, ca, Pp, H, fun _ => none, none, []⟩ b → Pp b := fun b z => by
    rcases z with z | z | ⟨i, z⟩ | z | z
    · rw [z]; exact hP
    · exact z
    · cases z
    · cases z
    · cases z
  have same : Same (hid Pp H) (hid (Cf.P ⟨ha, ca, Pp, H, fun _ => none, none, []⟩) H) := same_hid fun b o n q => ⟨fun z => n (pP b z), q⟩
  refine ⟨?_, fun i => ?_, hh, fun z => hca (pP _ z), fun i j a z => (by cases z), fun i a z => (by cases z), fun a z => ?_, fun i a z => (by cases z), fun b o _ z => z, hPs, ⟨_, hh.2.1⟩, ⟨_, hh.1⟩, fun p z => (by cases z), fun a z => (by cases z)⟩
  · show (ds.map Cell.d ++ List.replicate (N.length - ds.length) Cell.no).length = _
    rw [start_len hn, List.length_append, List.length_map, List.length_replicate]
    omega
  · show CelOk K _ H i (ds.map Cell.d ++ List.replicate (N.length - ds.length) Cell.no)[i]? _
    by_cases hi : i < ds.length
    · rw [List.getElem?_append_left (by rw [List.length_map]; exact hi), List.getElem?_map]
      have e : ds[i]? = some ds[i] := List.getElem?_eq_getElem hi
      obtain ⟨v, ev, hv⟩ := hd.get e
      rw [e]
      exact celOk_d.mpr ⟨v, start_get ev, Dat.mono same _ _ hv⟩
    · rw [List.getElem?_append_right (by rw [List.length_map]; omega), List.getElem?_replicate]
      split
      · exact celOk_no
      · exact celOk_none
  · rcases z with ⟨i, z⟩ | z <;> cases z
/-- THE RULE: a def of the table, one level up -/
theorem def_ok (hx : Mono T.xa) (D : DefAt K mg d f fd) (hf : ∀ e ∈ T.nm.fns, FnIn P w K mg base T e.1 e.2.1 e.2.2) (hbl : ∀ x ∈ T.nm.bl, mg x = none) (hc : ∃ n m, compB T.nm d.N (compE T.nm d.N n) d.scope m d.stmts = some d.body) :
    FnG P w K mg base (T.lv + 1) f fd d.ps (spG K T.xa d.ps.length (runF T.Φ u d.N.length d.body)) := by
  obtain ⟨oc, od, pa, dV, kV, doc, pm, an, cdv, ct, osl, rfl, lk, hcd⟩ := D.ex
  obtain ⟨n, m, hc⟩ := hc
  refine fnG_of lk hcd D.fs (fun vs H Q E z => z.1) fun A outer s H vs Q E room gu say => ?_
  have gs : GS (cxOf (L2.CX P w) P w K mg base d.N d.qual d.scope f cdv A outer s H E) T d.N d.scope (fun cls x _ H => E cls x H) :=
    { nN := rfl, nd := D.fs.nd, sco := rfl, calm := rfl, room := room, gd := gu, tk := takes_of rfl rfl rfl rfl, fns := hf, bl := hbl, pass := passes_of rfl, fn := fun _ => rfl }
  refine ⟨_, compB_ok (w := u) (compE_ok T d.N n) gs m _ _ hc, ?_⟩
  obtain ⟨hl, ha, ca, Pp, ds, g, hP, hPs, hh, hca, hd, q⟩ := say
  have hpl : d.ps.length ≤ d.N.length := by
    have z := congrArg List.length D.fs.pre
    rw [List.length_take] at z
    omega
  have rel := rel_start (N := d.N) (by omega) hP hPs hh hca hd
  refine ⟨_, _, rel, rfl, ?_⟩
  unfold runF at q
  generalize evB T.Φ u d.body ⟨ds.map .d ++ List.replicate (d.N.length - ds.length) .no, g⟩ = out at q
  have back : ∀ {c' : Cf} {H' : Hp}, SS ⟨ha, ca, Pp, H, fun _ => none, none, []⟩ H c' H' → Same (hid c'.P H') (hid Pp H') := fun {c' H'} ss => same_hid fun b o n q => ⟨fun z => n (.inr (.inl (by rw [ss.P0]; exact z))), q⟩
  have keep : ∀ {c' : Cf} {s' : Stt} {σ' : L2.St} {H' : Hp}, SS ⟨ha, ca, Pp, H, fun _ => none, none, []⟩ H c' H' → Rel K c' s' σ' H' → (∀ b o, b ≠ ha → H b = some o → H' b = some o) ∧ HandOk ha ca H' s'.g := fun {c' s' σ' H'} ss r => by
    have k := r.keep
    have h := r.hnd
    rw [ss.ha, ss.H0] at k
    rw [ss.ha, ss.ca] at h
    exact ⟨k, h⟩
  cases out with
  | bad => exact q.elim
  | ex e s' =>
    intro cls x σ' H' c' ss r hx' xz
    obtain ⟨k1, k2⟩ := keep ss r
    rw [ss.ha] at xz
    exact q cls x H' k1 k2 (hx _ _ _ _ _ _ (back ss) xz)
  | ok fl s' =>
    cases fl with
    | bk => exact q.elim
    | ct => exact q.elim
    | nx =>
      intro σ' H' c' ss r hx'
      obtain ⟨k1, k2⟩ := keep ss r
      exact q .non H' ⟨k1, k2, dat_non.mpr rfl⟩
    | rt r0 =>
      intro σ' H' c' ss r v hv
      obtain ⟨k1, k2⟩ := keep ss r
      refine q v H' ⟨k1, k2, ?_⟩
      cases r0 with
      | d x =>
        have h2 := hv.2
        rw [ss.ha] at h2
        exact Dat.mono (back ss) _ _ h2
      | f xs =>
        obtain ⟨p, vs', rfl, hxp, hp, hds⟩ := hv
        have nw := (r.new p (.inr hxp)).1
        rw [ss.H0] at nw
        rw [ss.ha] at hds
        exact ⟨p, vs', rfl, nw, hp, Dats.mono (same_hid fun b o n q => ⟨fun z => n (by
          rcases z with z | z
          · exact .inr (.inl (by rw [ss.P0]; exact z))
          · exact .inr (.inr (.inr (.inl (by rw [hxp, z]))))), q⟩) _ _ hds⟩
end
/-! ### all defs together -/
section
variable {P : Program} {w : World} {K : Fr} {mg : Str → Option Value} {base : Heap} {ds : List Def} {bl : List Str} {u : Nat} {xa : XA}
/-- what is known of the table -/
structure Table (K : Fr) (mg : Str → Option Value) (ds : List Def) (bl : List Str) : Prop where
  at_ : ∀ d ∈ ds, ∃ f fd, DefAt K mg d f fd
  cmp : ∀ d ∈ ds, ∃ n m, compB (nmOf ds bl) d.N (compE (nmOf ds bl) d.N n) d.scope m d.stmts = some d.body
  bl : ∀ x ∈ bl, mg x = none
theorem fnIn_of {k : Nat} (tab : Table K mg ds bl) (ih : ∀ d ∈ ds, ∀ f fd, DefAt K mg d f fd → FnG P w K mg base k f fd d.ps (spG K xa d.ps.length (psi ds u k d))) :
    ∀ e ∈ (nmOf ds bl).fns, FnIn P w K mg base ⟨nmOf ds bl, k, phi ds u k, xa⟩ e.1 e.2.1 e.2.2 := by
  intro e he
  unfold nmOf at he
  obtain ⟨⟨d, i⟩, hi, hj⟩ := List.mem_flatMap.mp he
  obtain ⟨j, hj1, rfl⟩ := List.mem_map.mp hj
  have hj : j < d.dfl.length + 1 := List.mem_range.mp hj1
  have hi : ds[i]? = some d := by
    have z := List.mem_zipIdx_iff_getElem?.mp hi
    exact z
  have hd : d ∈ ds := List.mem_of_getElem? hi
  obtain ⟨f, fd, D⟩ := tab.at_ d hd
  have np := D.np
  obtain ⟨dvs, us, r, b, dt⟩ := D.bd (d.dfl.length - j) (by omega)
  have hl : (d.dfl.drop (d.dfl.length - j)).length = j := by rw [List.length_drop]; omega
  refine ⟨f, fd, d.ps, dvs, us, d.dfl.drop (d.dfl.length - j), psi ds u k d, ih d hd f fd D, D.mg, D.kp, b, r, dt, by rw [hl]; show d.ps.length - j + j = _; omega, fun xs g hx _ => ?_⟩
  show phi ds u k i xs g = _
  rw [phi_psi, hi]
  show psi ds u k d (fillD d xs) g = _
  unfold fillD
  have e : xs.length + d.dfl.length - d.ps.length = d.dfl.length - j := by
    have hx : xs.length = d.ps.length - j := hx
    omega
  rw [e]
theorem tower (hx : Mono xa) (tab : Table K mg ds bl) : ∀ k, ∀ d ∈ ds, ∀ f fd, DefAt K mg d f fd → FnG P w K mg base k f fd d.ps (spG K xa d.ps.length (psi ds u k d))
  | 0, d, hd, f, fd, D => ⟨fun vs H Q E z => z.1, fun A outer s H args us vs Q E hr hg he hb hv ⟨_, _, _, _, _, _, _, _, _, _, _, z⟩ => z.elim⟩
  | k + 1, d, hd, f, fd, D => def_ok (T := ⟨nmOf ds bl, k, phi ds u k, xa⟩) hx D (fnIn_of tab (tower hx tab k)) tab.bl (tab.cmp d hd)
end
end PD

set_option Elab.async false
set_option linter.all false
set_option maxRecDepth 100000
set_option maxHeartbeats 4000000
/-! PyS15: the law's own call, from a promise kept where no text is being made. -/
namespace PD
open PySem PySem.Spec PyProof.Rows L2

/-- one address is told, nothing else -/
def solo (a : Addr) (t : Option HO) : Hp := fun b => if b = a then t else none
theorem solo_ne {a b : Addr} {t : Option HO} (h : b ≠ a) : solo a t b = none := if_neg h
theorem solo_at {a : Addr} {t : Option HO} : solo a t a = t := if_pos rfl
theorem solo_of {a b : Addr} {t : Option HO} {u : HO} (h : solo a t b = some u) : b = a ∧ t = some u := by
  by_cases z : b = a
  · subst z
    rw [solo_at] at h
    exact ⟨rfl, h⟩
  · rw [solo_ne z] at h; cases h

section
variable {P : Program} {w : World} {K : Fr} {mg mb : Str → Option Value} {k : Nat} {fa a : Addr} {fd : FuncData} {x : Str} {sp : Sp} {s1 : Shared} {vs : List Value} {ns : List Int}
theorem law_solo (t : Option HO) (inK : K.In s1.heap) (gl : s1.heap.Ns mainGlobals mg) (bt : s1.heap.Ns builtinsNs mb) (boot : ∀ y : Str, y ≠ "__name__" → mb y = bootBuiltins y) (noL : s1.heap.NoLimit) (noG : s1.gens = #[])
    (sc : s1.heap.get? a = some { cls := .type "list", data := .seq vs.toArray }) (room : Room k callerA) (F : ∀ base : Heap, K.In base → base.Ns mainGlobals mg → FnG P w K mg base k fa fd [x] sp)
    (bind : ∀ (s : Shared) (v : Value), BindsTo s fd ⟨[v], []⟩ [(x, v)]) (tc : t = none ∨ ∃ l, t = some (.frz { cls := .type "list", data := .seq vs.toArray } l)) (tk : t ≠ none → K.lookup a = none) (ok : HOk P w (solo a t) s1.heap)
    (say : sp [.ref a] (solo a t) (fun v _ => v = .bl true) fun _ _ _ => False) :
    codeAny (model P w) callerA (.call (.ref fa) ⟨[.ref a], []⟩) (fun r s' => r = .ok (.ret (.bool true)) ∧ OldK s1.heap s'.heap ∧ s'.os = s1.os ∧ AllBare s'.gens) s1 := by
  -- what is no list is not hidden
  have seen : ∀ {b : Addr} {o : Obj}, s1.heap.get? b = some o → (b = a → t = none) → (hidT s1.heap (solo a t)).get? b = some o := by
    intro b o e n
    apply hidT_get e
    by_cases z : b = a
    · rw [z, solo_at]; exact n z
    · exact solo_ne z
  have spaces : ∀ {b : Addr} {m : Str → Option Value}, s1.heap.Ns b m → (hidT s1.heap (solo a t)).Ns b m := by
    rintro b m ⟨o, es, ep, e, dt, r⟩
    refine ⟨o, es, ep, seen e fun z => ?_, dt, r⟩
    rw [z, sc] at e
    cases e
    cases (show Data.seq vs.toArray 0 = Data.dict es ep from dt)
  have inB : K.In (hidT s1.heap (solo a t)) := by
    intro b o e
    refine seen (inK b o e) fun z => ?_
    by_cases q : t = none
    · exact q
    · rw [z, tk q] at e; cases e
  have md : Mod K mg (hidT s1.heap (solo a t)) := by
    refine ⟨inB, spaces gl, ⟨mb, spaces bt, boot⟩, ?_⟩
    obtain ⟨mc, l1, l2⟩ := noL
    exact ⟨mc, spaces l1, l2⟩
  have en : Env0 P w K mg (hidT s1.heap (solo a t)) callerA [] s1 (solo a t) := by
    refine ⟨rfl, md, ?_, ?_, trivial, ?_, ok, .of_eq noG⟩
    · intro b o e; exact of_hidT e
    · exact Nat.le_of_eq (hidT_size _ _)
    · intro b z; cases z
  have go := (F _ inB (spaces gl)).run callerA [] s1 (solo a t) ⟨[.ref a], []⟩ [.ref a] [.ref a] _ _ room rfl en (bind s1 (.ref a)) (.cons rfl .nil) say
  apply codeAny_mono go
  intro r s' out
  match r, out with
  | .error e, out =>
    obtain ⟨_, _, _, _, _, _, _, _, _, _, _, _, z⟩ := out
    exact z.elim
  | .ok .next, out => exact out.elim
  | .ok .brk, out => exact out.elim
  | .ok .cont, out => exact out.elim
  | .ok (.ret u), ⟨v, H', o1, o2, un, ok', rel, q⟩ =>
    have q' : v = .bl true := q
    subst q'
    have eu : u = Value.bool true := rel
    refine ⟨by rw [eu], OldK.of_keep ?_, o1, o2⟩
    intro b o e
    have non : ∀ z : Addr, z ∉ ([] : List Addr) := fun z m => by cases m
    by_cases z : solo a t b = none
    · exact un.keep b o e z (non b) (non b)
    · have eb : b = a := Classical.byContradiction fun n => z (solo_ne n)
      subst eb
      rw [solo_at] at z
      rcases tc with tc | ⟨l, tc⟩
      · exact absurd tc z
      · have f1 : solo b t b = some (.frz _ l) := solo_at.trans tc
        obtain ⟨e2, _⟩ := ok' b _ (un.frzs b _ _ f1)
        rw [sc] at e
        cases e
        exact e2
theorem law_callG (inK : K.In s1.heap) (gl : s1.heap.Ns mainGlobals mg) (bt : s1.heap.Ns builtinsNs mb) (boot : ∀ y : Str, y ≠ "__name__" → mb y = bootBuiltins y) (noL : s1.heap.NoLimit) (noG : s1.gens = #[])
    (sc : s1.heap.get? a = some { cls := .type "list", data := .seq vs.toArray }) (iv : IntsAre vs ns) (lim : ns.length ≤ sizeLine) (room : Room k callerA) (F : ∀ base : Heap, K.In base → base.Ns mainGlobals mg → FnG P w K mg base k fa fd [x] sp)
    (bind : ∀ (s : Shared) (v : Value), BindsTo s fd ⟨[v], []⟩ [(x, v)]) (say : ∀ H : Hp, SqL K H a (ns.map V.int) → sp [.ref a] H (fun v _ => v = .bl true) fun _ _ _ => False) :
    codeAny (model P w) callerA (.call (.ref fa) ⟨[.ref a], []⟩) (fun r s' => r = .ok (.ret (.bool true)) ∧ OldK s1.heap s'.heap ∧ s'.os = s1.os ∧ AllBare s'.gens) s1 := by
  have rel := vals_ints iv
  have nv : vs.length = ns.length := iv.length
  by_cases z : K.lookup a = none
  · refine law_solo (some (.frz { cls := .type "list", data := .seq vs.toArray } (.lst (ns.map V.int)))) inK gl bt boot noL noG sc room F bind (.inr ⟨_, rfl⟩) (fun _ => z) ?_ (say _ (.inl (.inr ⟨_, solo_at⟩)))
    intro b u e
    obtain ⟨eb, et⟩ := solo_of e
    subst eb
    cases et
    exact ⟨sc, by rw [List.length_map]; exact lim, vs, _, rel, sc⟩
  · obtain ⟨o, e⟩ := Option.ne_none_iff_exists'.mp z
    have e' := inK a o e
    rw [sc] at e'
    cases e'
    refine law_solo none inK gl bt boot noL noG sc room F bind (.inl rfl) (fun n => absurd rfl n) ?_ (say _ (.inr ⟨_, vs.toArray, _, e, rfl, rfl, rfl, by rw [List.size_toArray, nv]; exact lim, by simpa using rel⟩))
    intro b u e
    have q := (solo_of e).2
    cases q
end
/-- what the head leaves, from the law's promise -/
theorem walk_ofG {l : PySem.W.OpenLaw} {n k : Nat} {q : Program} {loose : List Str} {XP : (Str → Option Value) → Heap → Prop} {YP : World → Heap → Prop} {d : DefRec} {K : Params → Fr} {sp : World → Sp} {x : Str} (most : l.most = some n) (n_ok : n ≤ sizeLine) (no_dfl : d.params.defaults = []) (room : Room k callerA)
    (inK : ∀ (w : World) (h : Heap), YP w h → (K w.params).In h)
    (F : ∀ (w : World) (mg : Str → Option Value) (fa : Addr) (h : Heap), (K w.params).In h → h.Ns mainGlobals mg → mg d.name = some (.ref fa) →
      ∃ fd : FuncData, (∀ (s : Shared) (v : Value), BindsTo s fd ⟨[v], []⟩ [(x, v)]) ∧ ∀ base : Heap, (K w.params).In base → base.Ns mainGlobals mg → FnG l.prog w (K w.params) mg base k fa fd [x] (sp w))
    (say : ∀ (w : World) (H : Hp) (a : Addr) (ns : List Int), ns.length ≤ n → SqL (K w.params) H a (ns.map V.int) → sp w [.ref a] H (fun v _ => v = .bl true) fun _ _ _ => False) :
    PySem.W.WalkO q loose XP YP l.row.toRowW d [] (fun f vs => PySem.call f vs) := by
  apply Att.attach_call most no_dfl
  intro w s0 s1 mg mb fa o pm cd doc a vs ns G Y ho hd hcd hmg hob hin hle hge
  have iK := inK w _ Y
  obtain ⟨fd, bd, run⟩ := F w mg fa _ iK G.T.g hmg
  exact law_callG iK G.T.g G.T.b G.T.builtins G.T.nolimit hge hob hin (Nat.le_trans hle n_ok) room run bd fun H z => say w H a ns hle z
end PD

set_option Elab.async false
set_option linter.all false
set_option maxRecDepth 100000
set_option maxHeartbeats 4000000
/-! PyS16: the law's hand is made; the law's def. -/
namespace PD
open PySem PySem.Spec PyProof.Rows L2

def absI (i : Int) : Int := if i < 0 then -i else i
def handTot (t : Int) (ns : List Int) : Int := ns.foldl (fun t n => (t * 1709 + n) % 2147483549) t
def hand0 (ns : List Int) : Hand := ⟨ns.map absI, 0, 0, handTot ((ns.length : Int) + 37) ns⟩
/-- the text of _law_hand, wherever it stands -/
inductive HandBody : List Stmt → Prop where
  | mk {a1 a2 a3 a4 a5 a6 a7 b1 b2 b3 c1 c2 c3 d1 d2 d3 d4 d5 d6 d7 d8 d9 d10 d11 d12 d13 e1 e2 e3 e4 e5 e6 e7 e8 e9 r1 r2 r3 r4 r5 r6 : Pos} {j1 j2 j3 j4 j5 : Nat} (hl : (e2.endLine == e8.line) = true) :
    HandBody [.Assign [.Name "_law_total" a1] (.BinOp (.Call (.Name "len" a2) [.Name "_law_script" a3] [] a4) .Add (.Constant (.int 37) j1 a5) a6) a7,
      .Assign [.Name "_law_cells" b1] (.List [] b2) b3,
      .For (.Name "_law_cell" c1) (.Name "_law_script" c2) [
        .Assign [.Name "_law_total" d1] (.BinOp (.Call (.Name "int" d2) [.BinOp (.BinOp (.Name "_law_total" d3) .Mult (.Constant (.int 1709) j2 d4) d5) .Add (.Call (.Name "int" d6) [.Name "_law_cell" d7] [] d8) d9] [] d10) .Mod (.Constant (.int 2147483549) j3 d11) d12) d13,
        .Expr (.Call (.Attribute (.Name "_law_cells" e1) "append" e2) [.Call (.Name "abs" e3) [.Call (.Name "int" e4) [.Name "_law_cell" e5] [] e6] [] e7] [] e8) e9] [] c3,
      .Return (some (.List [.Name "_law_cells" r1, .Constant (.int 0) j4 r2, .Constant (.int 0) j5 r3, .Name "_law_total" r4] r5)) r6]
def handN : List Str := ["_law_script", "_law_total", "_law_cells", "_law_cell"]
def spHand (K : Fr) : Sp := fun vs H Q _ => ∃ (a : Addr) (ns : List Int), vs = [.ref a] ∧ SqL K H a (ns.map V.int) ∧ ns.length ≤ 1000 ∧
  ∀ l p, H l = none → upd H l (.lst ((hand0 ns).cells.map V.int)) p = none → Q (.ref p) (upd (upd H l (.lst ((hand0 ns).cells.map V.int))) p (.lst [.ref l, .int 0, .int 0, .int (hand0 ns).total]))
theorem upd_upd {H : Hp} {l : Addr} {o o' : HO} : upd (upd H l o) l o' = upd H l o' := by
  funext b
  by_cases h : b = l
  · subst h; rw [upd_same, upd_same]
  · rw [upd_ne h, upd_ne h, upd_ne h]
theorem handTot_snoc (t : Int) (ns : List Int) (n : Int) : handTot t (ns ++ [n]) = (handTot t ns * 1709 + n) % 2147483549 := by
  unfold handTot
  rw [List.foldl_append]; rfl
theorem handTot_lt : ∀ (ns : List Int) (t : Int), 0 ≤ t → t < 2 ^ 40 → 0 ≤ handTot t ns ∧ handTot t ns < 2 ^ 40
  | [], t, h1, h2 => ⟨h1, h2⟩
  | n :: ns, t, h1, h2 => by
    have e : handTot t (n :: ns) = handTot ((t * 1709 + n) % 2147483549) ns := rfl
    rw [e]
    exact handTot_lt ns _ (by omega) (by omega)
section
variable {P : Program} {w : World} {K : Fr} {mg : Str → Option Value} {base : Heap}
theorem ok_hand {f : Addr} {nm qual : Str} {pa : Arguments} {body : List Stmt} {sc : Scope} {dV kV doc pm cdv ct oc : Value} {an od : Option Addr} {osl : Array (Option Value)}
    (lk : K.lookup f = some ⟨oc, od, .func (PySem.W.fnOf nm qual pa body sc dV kV doc pm an cdv ct), osl⟩) (code : PySem.W.codeIn K cdv qual = true) (fs : FnScope handN ["_law_script"] sc) (hb : HandBody body)
    (n0 : isLo sc "_law_script" = true) (n1 : isLo sc "_law_total" = true) (n2 : isLo sc "_law_cells" = true) (n3 : isLo sc "_law_cell" = true)
    (g1 : isGl sc "len" = true) (g2 : isGl sc "int" = true) (g3 : isGl sc "abs" = true) (m1 : mg "len" = none) (m2 : mg "int" = none) (m3 : mg "abs" = none) :
    FnG P w K mg base 1 f (PySem.W.fnOf nm qual pa body sc dV kV doc pm an cdv ct) ["_law_script"] (spHand K) := by
  refine fnG_of lk code fs (fun vs H Q E ⟨a, ns, e, _⟩ => by rw [e]; rfl) fun A outer s H vs Q E room gu say => ?_
  cases hb with
  | mk hl =>
  generalize hX : cxOf (L2.CX P w) P w K mg base handN qual sc f cdv A outer s H E = X
  have eN : X.N = handN := by rw [← hX]; rfl
  have eS : X.env.scope = sc := by rw [← hX]; rfl
  have nd : X.N.Nodup := by rw [eN]; exact fs.nd
  have calm : X.calm = true := by rw [← hX]; rfl
  have fn : ∀ x, X.fn x = true := by rw [← hX]; exact fun _ => rfl
  have pas : PassesOwn (model X.prog X.w) X.A X.env X.xe := by rw [← hX]; exact passes_of rfl
  have eK : X.K = K := by rw [← hX]; rfl
  have em : X.mg = mg := by rw [← hX]; rfl
  have v0 : ∀ {pos : Pos}, PE X (.Name "_law_script" pos) (tVar 0) := fun {pos} => pe_var (by rw [eN]; rfl) (by rw [eS]; exact .inl (isLo_of n0))
  have v1 : ∀ {pos : Pos}, PE X (.Name "_law_total" pos) (tVar 1) := fun {pos} => pe_var (by rw [eN]; rfl) (by rw [eS]; exact .inl (isLo_of n1))
  have v2 : ∀ {pos : Pos}, PE X (.Name "_law_cells" pos) (tVar 2) := fun {pos} => pe_var (by rw [eN]; rfl) (by rw [eS]; exact .inl (isLo_of n2))
  have v3 : ∀ {pos : Pos}, PE X (.Name "_law_cell" pos) (tVar 3) := fun {pos} => pe_var (by rw [eN]; rfl) (by rw [eS]; exact .inl (isLo_of n3))
  have gl1 : Gl X "len" := by show X.env.scope.names.lookup _ = _; rw [eS]; exact isGl_of g1
  have gl2 : Gl X "int" := by show X.env.scope.names.lookup _ = _; rw [eS]; exact isGl_of g2
  have gl3 : Gl X "abs" := by show X.env.scope.names.lookup _ = _; rw [eS]; exact isGl_of g3
  have lo1 : Loc X.env.scope "_law_total" := by rw [eS]; exact .inl (isLo_of n1)
  have lo2 : Loc X.env.scope "_law_cells" := by rw [eS]; exact .inl (isLo_of n2)
  have lo3 : Loc X.env.scope "_law_cell" := by rw [eS]; exact .inl (isLo_of n3)
  obtain ⟨b1, c1, d1⟩ := bname_boot .int
  obtain ⟨b2, c2, d2⟩ := bname_boot .len
  obtain ⟨b3, c3, d3⟩ := bname_boot .abs
  refine ⟨_, pss_cons (ps_set (i := 1) nd (by rw [eN]; rfl) lo1 (pe_op op_add (pe_callB call_len_seq gl1 (by rw [em]; exact m1) b2 (pa_cons v0 pa_nil) c2 d2) pe_int) rfl (.inl (fn _)))
    (pss_cons (ps_set (i := 2) nd (by rw [eN]; rfl) lo2 (pe_lst pa_nil) rfl (.inl (fn _)))
    (pss_cons (ps_for pas calm (pi_list v0) (pg_name (i := 3) nd (by rw [eN]; rfl) lo3 (.inl (fn _)))
      (pss_cons (ps_set (i := 1) nd (by rw [eN]; rfl) lo1 (pe_op op_mod (pe_callTy call_int1 gl2 (by rw [em]; exact m2) b1 (pa_cons (pe_op op_add (pe_op op_mulW v1 pe_int) (pe_callTy call_int1 gl2 (by rw [em]; exact m2) b1 (pa_cons v3 pa_nil) c1 d1)) pa_nil) c1 d1) pe_int) rfl (.inl (fn _)))
        (pss_one (ps_expr (pe_bm F.plainAttrs_list F.slot_list_append F.type_list_append mt_append v2 (pa_cons (pe_callB call_abs gl3 (by rw [em]; exact m3) b3 (pa_cons (pe_callTy call_int1 gl2 (by rw [em]; exact m2) b1 (pa_cons v3 pa_nil) c1 d1) pa_nil) c3 d3) pa_nil) rfl rfl hl)))))
    (pss_one (ps_ret (pe_lst (pa_cons v2 (pa_cons pe_int (pa_cons pe_int (pa_cons v1 pa_nil))))))))), ?_⟩
  obtain ⟨a, ns, rfl, hS, hlen, k⟩ := say
  rw [eK]
  have hl63 : (ns.map V.int).length = ns.length := List.length_map _
  refine ⟨.ref a, rfl, a, _, rfl, .inl hS, _, _, rfl, rfl, ?_⟩
  refine ⟨Nat.zero_le _, fun l hlf => ?_⟩
  have sq : ∀ o, SqL K (upd H l o) a (ns.map V.int) := fun o => Same.seq (H := H) (fun b o' e => by rw [upd_ne (ne_of_none e hlf)]; exact e) hS
  refine ⟨.ref a, rfl, a, rfl, ⟨_, sq _⟩, for_list (K := K) (a := a) (xs := ns.map V.int) (fun i σ H' => ∃ v : Option V, σ = [some (.ref a), some (.int (handTot ((ns.length : Int) + 37) (ns.take i))), some (.ref l), v] ∧ H' = upd H l (.lst (((ns.take i).map absI).map V.int)))
    ⟨none, by simp [handTot, L2.start, handN], by simp⟩ (fun i σ H' _ ⟨v, _, e⟩ => by rw [e]; exact sq _) ?_ ?_⟩
  · rintro i y σ H' hi ⟨v, rfl, rfl⟩
    rw [List.getElem?_map] at hi
    cases e : ns[i]? with
    | none => rw [e] at hi; cases hi
    | some n =>
      rw [e] at hi
      cases hi
      have hil : i < ns.length := (List.getElem?_eq_some_iff.mp e).1
      have tk : ns.take (i + 1) = ns.take i ++ [n] := by
        rw [List.take_add_one, e]; rfl
      obtain ⟨t1, t2⟩ := handTot_lt (ns.take i) ((ns.length : Int) + 37) (by omega) (by omega)
      have ht := handTot_snoc ((ns.length : Int) + 37) (ns.take i) n
      rw [← tk] at ht
      generalize handTot ((ns.length : Int) + 37) (ns.take i) = t at *
      refine ⟨.int t, rfl, t, 1709, rfl, rfl, wide_mul (a := 40) (b := 40) (by omega) (by decide) (by decide) (by decide) (by decide), .int n, rfl, .inl ⟨n, rfl, _, _, rfl, rfl, .inl ⟨_, rfl, _, _, rfl, rfl, (by decide : (0 : Int) < 2147483549), ?_⟩⟩⟩
      refine ⟨.ref l, rfl, .inl ⟨rfl, _, SqL.of upd_same⟩, .int n, rfl, .inl ⟨n, rfl, n, rfl, l, _, _, rfl, rfl, upd_same, ?_, ?_⟩⟩
      · have q : ((ns.take i).map absI).length ≤ 1000 := by rw [List.length_map, List.length_take]; omega
        rw [List.length_map]
        exact Nat.lt_of_le_of_lt q (by decide)
      · refine ⟨some (.int n), ?_, ?_⟩
        · rw [ht]; rfl
        · rw [upd_upd, tk, List.map_append, List.map_append]; rfl
  · rintro σ H' ⟨v, rfl, rfl⟩
    rw [hl63, List.take_length]
    exact ⟨.ref l, rfl, .int _, rfl, (by decide : 4 ≤ sizeLine), fun p hp => k l p hlf hp⟩
end
end PD

set_option Elab.async false
set_option linter.all false
set_option maxRecDepth 100000
set_option maxHeartbeats 4000000
/-! PyS17: the law's def: the hand is made, the rest by the language. -/
namespace PD
open PySem PySem.Spec PyProof.Rows L2

inductive LawHead : Stmt → Prop where
  | mk {p1 p2 p3 p4 p5 : Pos} : LawHead (.Assign [.Name "_law_hand_here" p1] (.Call (.Name "_law_hand" p2) [.Name "_law_script" p3] [] p4) p5)
def spLaw (K : Fr) : Sp := fun vs H Q _ => ∃ (a : Addr) (ns : List Int), vs = [.ref a] ∧ SqL K H a (ns.map V.int) ∧ ns.length ≤ 63 ∧ ∀ H', Q (.bl true) H'
def ρ0 (n : Nat) : List Cell := (List.replicate n Cell.no).set 1 (.d .hand)
def isLc (sc : Scope) (x : Str) : Bool :=
  match sc.names.lookup x with
  | some .local => true
  | some .cell => true
  | _ => false
theorem isLc_of {sc : Scope} {x : Str} (h : isLc sc x = true) : Loc sc x := by
  unfold isLc at h
  split at h
  · exact .inl (by assumption)
  · exact .inr (by assumption)
  · cases h
theorem rel_hand {K : Fr} {H : Hp} {l p : Addr} {g : Hand} {n : Nat} {σ : L2.St} (hl : H l = some (.lst (g.cells.map V.int))) (hp : H p = some (.lst [.ref l, .int g.ix, .int g.rest, .int g.total])) (ne : l ≠ p) (hs : σ.length = n) (h1 : n ≤ 1 ∨ σ[1]? = some (some (.ref p))) :
    Rel K ⟨p, l, fun b => b = p, H, fun _ => none, none, []⟩ ⟨ρ0 n, g⟩ σ H := by
  have pP : ∀ b, Cf.P ⟨p, l, fun b => b = p, H, fun _ => none, none, []⟩ b → b = p := fun b z => by
    rcases z with z | z | ⟨i, z⟩ | z | z
    · exact z
    · exact z
    · cases z
    · cases z
    · cases z
  refine ⟨by rw [hs]; simp [ρ0], fun i => ?_, ⟨hp, hl, ne⟩, fun z => ne (pP _ z), fun i j a z => (by cases z), fun i a z => (by cases z), fun a z => ?_, fun i a z => (by cases z), fun b o _ z => z, (fun b z => ⟨_, (congrArg H (show b = p from z)).trans hp⟩), ⟨_, hl⟩, ⟨_, hp⟩, fun p z => (by cases z), fun a z => (by cases z)⟩
  · show CelOk K _ H i (ρ0 n)[i]? σ[i]?
    by_cases z : i = 1
    · subst z
      by_cases q : 1 < n
      · rcases h1 with h1 | h1
        · omega
        · rw [h1]
          unfold ρ0
          rw [List.getElem?_set_self (by rw [List.length_replicate]; exact q)]
          exact celOk_d.mpr ⟨_, rfl, dat_hand.mpr rfl⟩
      · unfold ρ0
        rw [List.getElem?_eq_none (by rw [List.length_set, List.length_replicate]; omega)]
        exact celOk_none
    · unfold ρ0
      rw [List.getElem?_set_ne (Ne.symm z), List.getElem?_replicate]
      split
      · exact celOk_no
      · exact celOk_none
  · rcases z with ⟨i, z⟩ | z <;> cases z
section
variable {P : Program} {w : World} {K : Fr} {mg : Str → Option Value} {base : Heap} {T : Tb} {u : Nat}
theorem law_ok {f fH : Addr} {fdH : FuncData} {nm qual : Str} {pa : Arguments} {st0 : Stmt} {rest : List Stmt} {sc : Scope} {dV kV doc pm cdv ct oc : Value} {an od : Option Addr} {osl : Array (Option Value)} {N : List Str} {B : List S}
    (lk : K.lookup f = some ⟨oc, od, .func (PySem.W.fnOf nm qual pa (st0 :: rest) sc dV kV doc pm an cdv ct), osl⟩) (code : PySem.W.codeIn K cdv qual = true) (fs : FnScope N ["_law_script"] sc)
    (hand : FnG P w K mg base 1 fH fdH ["_law_script"] (spHand K)) (mH : mg "_law_hand" = some (.ref fH)) (kH : PySem.W.keepIn K (.ref fH) = true) (bH : Binds K fdH ["_law_script"] [])
    (hd : LawHead st0) (i0 : N[0]? = some ("_law_script" : Str)) (i1 : N[1]? = some ("_law_hand_here" : Str)) (n0 : isLo sc "_law_script" = true) (n1 : isLc sc "_law_hand_here" = true) (g1 : isGl sc "_law_hand" = true)
    (hf : ∀ e ∈ T.nm.fns, FnIn P w K mg base T e.1 e.2.1 e.2.2) (hbl : ∀ x ∈ T.nm.bl, mg x = none) (hc : ∃ n m, compB T.nm N (compE T.nm N n) sc m rest = some B) (lv : 1 ≤ T.lv)
    (pure : ∀ ns : List Int, ns.length ≤ 63 → ∃ s', evB T.Φ u B ⟨ρ0 N.length, hand0 ns⟩ = .ok (.rt (.d (.bl true))) s') :
    FnG P w K mg base (T.lv + 1) f (PySem.W.fnOf nm qual pa (st0 :: rest) sc dV kV doc pm an cdv ct) ["_law_script"] (spLaw K) := by
  obtain ⟨n, m, hc⟩ := hc
  refine fnG_of lk code fs (fun vs H Q E ⟨a, ns, e, _⟩ => by rw [e]; rfl) fun A outer s H vs Q E room gu say => ?_
  have gs : GS (cxOf (L2.CX P w) P w K mg base N qual sc f cdv A outer s H E) T N sc (fun cls x _ H => E cls x H) :=
    { nN := rfl, nd := fs.nd, sco := rfl, calm := rfl, room := room, gd := gu, tk := takes_of rfl rfl rfl rfl, fns := hf, bl := hbl, pass := passes_of rfl, fn := fun _ => rfl }
  cases hd with
  | mk =>
  refine ⟨_, pss_cons (ps_set (i := 1) fs.nd i1 (isLc_of n1) (pe_callG hand (room.mono lv) gu (isGl_of g1) mH kH bH .nil gs.tk (pa_cons (pe_var i0 (.inl (isLo_of n0))) pa_nil) rfl rfl) rfl (.inl rfl)) (compB_ok (w := u) (compE_ok T N n) gs m _ _ hc), ?_⟩
  obtain ⟨a, ns, rfl, hS, hlen, k⟩ := say
  have hn : 1 < N.length := (List.getElem?_eq_some_iff.mp i1).1
  refine ⟨.ref a, start_get rfl, a, ns, rfl, hS, by omega, fun l p hl hp => ?_⟩
  have ne : l ≠ p := fun z => by
    rw [← z, upd_same] at hp; cases hp
  obtain ⟨s', es⟩ := pure ns hlen
  refine ⟨_, _, rel_hand (g := hand0 ns) (n := N.length) (l := l) (p := p) ?_ upd_same ne ?_ (.inr ?_), rfl, ?_⟩
  · rw [upd_ne ne, upd_same]
  · rw [List.length_set]
    exact start_len (by show 1 ≤ _; omega)
  · exact List.getElem?_set_self (by rw [start_len (by show 1 ≤ _; omega)]; exact hn)
  · rw [es]
    intro σ' H' c' ss r v hv
    have e := dat_bl.mp hv.2
    subst e
    exact k H'
end
end PD

set_option Elab.async false
set_option linter.all false
set_option maxRecDepth 100000
set_option maxHeartbeats 4000000
/-! PyS18: what the top has written of a def, as DefAt; the end of a law. -/
namespace PD
open PySem PySem.Spec PyProof.Rows L2

def vOf : D → V
  | .int i => .int i
  | .bl b => .bl b
  | .str x => .str x
  | _ => .non
theorem dats_flat {K : Fr} {ha : Addr} {H : Hp} : ∀ {ds : List D}, ds.all flat = true → Dats K ha H (ds.map vOf) ds
  | [], _ => Dats.nil
  | d :: ds, h => by
    rw [List.all_cons, Bool.and_eq_true] at h
    refine Dats.cons ?_ (dats_flat h.2)
    cases d with
    | int i => exact dat_int.mpr rfl
    | bl i => exact dat_bl.mpr rfl
    | str i => exact dat_str.mpr rfl
    | non => exact dat_non.mpr rfl
    | _ => cases h.1
section
variable {K : Fr} {mg : Str → Option Value} {d : Def} {f : Addr} {h : Heap} {oc kV dc pm cd ct : Value} {od an : Option Addr} {sl : Array (Option Value)} {pa : Arguments}
theorem mkDef (X : K.In h) (G : h.Ns mainGlobals mg) (a : PySem.W.nsIn K mainGlobals d.nm = some (some (.ref f))) (l : K.lookup f = some ⟨oc, od, .func (PySem.W.fnOf d.nm d.qual pa d.stmts d.scope .none kV dc pm an cd ct), sl⟩)
    (c : PySem.W.codeIn K cd d.qual = true) (k : PySem.W.keepIn K (.ref f) = true) (fs : FnScope d.N d.ps d.scope) (h0 : d.dfl = [])
    (hb : ∀ us : List Value, us.length = d.ps.length → bindArgs (PySem.W.fnOf d.nm d.qual pa d.stmts d.scope .none kV dc pm an cd ct) ⟨us, []⟩ = pure (d.ps.zip us)) :
    ∃ f fd, DefAt K mg d f fd :=
  ⟨f, _, ⟨⟨oc, od, pa, .none, kV, dc, pm, an, cd, ct, sl, rfl, l, c⟩, PySem.W.mg_of X G a, k, fs, by rw [h0]; exact Nat.zero_le _, fun j _ => ⟨[], [], .nil, .all hb, fun ha H => by rw [h0, List.drop_nil]; exact Dats.nil⟩⟩⟩
theorem mkDefD {T : Addr} {o : Obj} {its : List Value} {n : Nat} (X : K.In h) (G : h.Ns mainGlobals mg) (a : PySem.W.nsIn K mainGlobals d.nm = some (some (.ref f))) (l : K.lookup f = some ⟨oc, od, .func (PySem.W.fnOf d.nm d.qual pa d.stmts d.scope (.ref T) kV dc pm an cd ct), sl⟩)
    (c : PySem.W.codeIn K cd d.qual = true) (k : PySem.W.keepIn K (.ref f) = true) (fs : FnScope d.N d.ps d.scope) (lT : K.lookup T = some o) (oT : o.data = .seq its.toArray n) (rT : Vals (d.dfl.map vOf) its) (hfl : d.dfl.all flat = true) (hne : d.dfl ≠ []) (np : d.dfl.length ≤ d.ps.length)
    (hb : ∀ j, j ≤ d.dfl.length → ∀ us : List Value, us.length = d.ps.length - (d.dfl.length - j) →
      ∃ k, bindArgs (PySem.W.fnOf d.nm d.qual pa d.stmts d.scope (.ref T) kV dc pm an cd ct) ⟨us, []⟩ = seqItems? (.ref T) >>= k ∧ k (some its.toArray) = pure (d.ps.zip (us ++ its.drop j))) :
    ∃ f fd, DefAt K mg d f fd := by
  refine ⟨f, _, ⟨⟨oc, od, pa, .ref T, kV, dc, pm, an, cd, ct, sl, rfl, l, c⟩, PySem.W.mg_of X G a, k, fs, np, fun j hj => ?_⟩⟩
  refine ⟨(d.dfl.drop j).map vOf, its.drop j, ?_, fun s us X' hlen => ?_, fun ha H => dats_flat ?_⟩
  · rw [List.map_drop]; exact rT.drop j
  · have l1 : its.length = d.dfl.length := by rw [← rT.length, List.length_map]
    rw [List.length_append, List.length_drop, l1] at hlen
    obtain ⟨k, e1, e2⟩ := hb j hj us (by omega)
    refine BindsTo.of_looks fun M => ?_
    rw [e1]
    exact looks_items X' lT oT (.of_pure e2)
  · rw [List.all_eq_true] at hfl ⊢
    exact fun x hx => hfl x (List.mem_of_mem_drop hx)
end
theorem walkG {l : PySem.W.OpenLaw} {k : Nat} {q : Program} {loose : List Str} {XP : (Str → Option Value) → Heap → Prop} {YP : World → Heap → Prop} {d : DefRec} {K : Params → Fr} (most : l.most = some 63) (no_dfl : d.params.defaults = []) (room : Room k callerA)
    (inK : ∀ (w : World) (h : Heap), YP w h → (K w.params).In h)
    (F : ∀ (w : World) (mg : Str → Option Value) (fa : Addr) (h : Heap), (K w.params).In h → h.Ns mainGlobals mg → mg d.name = some (.ref fa) →
      ∃ fd : FuncData, (∀ (s : Shared) (v : Value), BindsTo s fd ⟨[v], []⟩ [("_law_script", v)]) ∧ ∀ base : Heap, (K w.params).In base → base.Ns mainGlobals mg → FnG l.prog w (K w.params) mg base k fa fd ["_law_script"] (spLaw (K w.params))) :
    PySem.W.WalkO q loose XP YP l.row.toRowW d [] (fun f vs => PySem.call f vs) :=
  walk_ofG (n := 63) (sp := fun w => spLaw (K w.params)) most (by decide) no_dfl room inK F fun w H a ns hl hS => ⟨a, ns, rfl, hS, hl, fun _ => rfl⟩
end PD

set_option Elab.async false
set_option linter.all false
set_option maxRecDepth 100000
set_option maxHeartbeats 4000000
/-! PyL: the evaluator's equations for simp, laws of loops. -/
namespace PD
open PySem
section
variable (Φ : FEnv) (u : Nat) (s : Stt)
end
/-- a comprehension's walk, kept shut -/
def compR (Φ : FEnv) (vs : List Nat) (t : Tg) (c : Option E) (elt : E) (xs : List D) (s : Stt) : Res (List D) := compL (fun s => (evO1 Φ c s).bind fun b s3 => match b with
        | true => (evE Φ elt s3).bind fun y s4 => .ok (some y.D) s4
        | false => .ok none s3) t vs xs [] s
section
variable (Φ : FEnv) (u : Nat) (s : Stt)
@[simp] theorem evE_var (i : Nat) : evE Φ (.var i) s = give i s := by first | (rw [evE]; done) | (rw [evE]; rfl)
@[simp] theorem evE_k (c : D) : evE Φ (.k c) s = .ok (.d c) s := by first | (rw [evE]; done) | (rw [evE]; rfl)
@[simp] theorem evE_bin (op : Operator) (a b : E) : evE Φ (.bin op a b) s = (pk a (evE Φ a) s).bind fun x s1 => (pk b (evE Φ b) s1).bind fun y s2 => Res.of (binop op x y) s2 := by first | (rw [evE]; done) | (rw [evE]; rfl)
@[simp] theorem evE_cmp (op : CmpOp) (a b : E) : evE Φ (.cmp op a b) s = (pk a (evE Φ a) s).bind fun x s1 => (pk b (evE Φ b) s1).bind fun y s2 => (Res.of (cmpop op x y) s2).bind fun r s3 => .ok (.d (.bl r)) s3 := by first | (rw [evE]; done) | (rw [evE]; rfl)
@[simp] theorem evE_chain (op op' : CmpOp) (a b c : E) : evE Φ (.chain op op' a b c) s = (pk a (evE Φ a) s).bind fun x s1 => (pk b (evE Φ b) s1).bind fun y s2 => (Res.of (cmpop op x y) s2).bind fun r s3 =>
      match r with
      | true => (pk c (evE Φ c) s3).bind fun z s4 => (Res.of (cmpop op' y z) s4).bind fun r s5 => .ok (.d (.bl r)) s5
      | false => .ok (.d (.bl false)) s3 := by first | (rw [evE]; done) | (rw [evE]; rfl)
@[simp] theorem evE_and (a b : E) : evE Φ (.and a b) s = (evE Φ a s).bind fun x s1 => (Res.of (truth x.D) s1).bind fun t s2 => match t with
      | true => evE Φ b s2
      | false => .ok (.d x.D) s2 := by first | (rw [evE]; done) | (rw [evE]; rfl)
@[simp] theorem evE_or (a b : E) : evE Φ (.or a b) s = (evE Φ a s).bind fun x s1 => (Res.of (truth x.D) s1).bind fun t s2 => match t with
      | true => .ok (.d x.D) s2
      | false => evE Φ b s2 := by first | (rw [evE]; done) | (rw [evE]; rfl)
@[simp] theorem evE_not (a : E) : evE Φ (.not a) s = (tst a (evE Φ a) s).bind fun t s1 => .ok (.d (.bl (!t))) s1 := by first | (rw [evE]; done) | (rw [evE]; rfl)
@[simp] theorem evE_neg (a : E) : evE Φ (.neg a) s = (pk a (evE Φ a) s).bind fun x s1 => (Res.of (num x) s1).bind fun i s2 => .ok (.d (.int (-i))) s2 := by first | (rw [evE]; done) | (rw [evE]; rfl)
@[simp] theorem evE_ife (c a b : E) : evE Φ (.ife c a b) s = (tst c (evE Φ c) s).bind fun t s1 => match t with
      | true => evE Φ a s1
      | false => evE Φ b s1 := by first | (rw [evE]; done) | (rw [evE]; rfl)
@[simp] theorem evE_tup (es : List E) : evE Φ (.tup es) s = (evL Φ es s).bind fun xs s1 => if xs.length ≤ sizeLine then .ok (.d (.tup xs)) s1 else .bad := by first | (rw [evE]; done) | (rw [evE]; rfl)
@[simp] theorem evE_lst (es : List E) : evE Φ (.lst es) s = (evL Φ es s).bind fun xs s1 => if xs.length ≤ sizeLine then .ok (.f xs) s1 else .bad := by first | (rw [evE]; done) | (rw [evE]; rfl)
@[simp] theorem evE_ix (a i : E) : evE Φ (.ix a i) s = (pk a (evE Φ a) s).bind fun x s1 => (pk i (evE Φ i) s1).bind fun y s2 => (Res.of (itemS s2.g x y) s2).bind fun r s3 => .ok (.d r) s3 := by first | (rw [evE]; done) | (rw [evE]; rfl)
@[simp] theorem evE_sl (a : E) (lo hi : Option E) : evE Φ (.sl a lo hi) s = (pk a (evE Φ a) s).bind fun x s1 => (evO Φ lo s1).bind fun l s2 => (evO Φ hi s2).bind fun h s3 => Res.of (slice x l h) s3 := by first | (rw [evE]; done) | (rw [evE]; rfl)
@[simp] theorem evE_rvs (a : E) : evE Φ (.rvs a) s = (pk a (evE Φ a) s).bind fun x s1 => (Res.of (revD x) s1).bind fun xs s2 => .ok (.f xs) s2 := by first | (rw [evE]; done) | (rw [evE]; rfl)
@[simp] theorem evE_call (f : Nat) (es : List E) : evE Φ (.call f es) s = (evL Φ es s).bind fun xs s1 => (Φ f xs s1.g).res s1 := by first | (rw [evE]; done) | (rw [evE]; rfl)
@[simp] theorem evE_blt (b : B) (es : List E) : evE Φ (.blt b es) s = (evPs Φ es s).bind fun xs s1 => Res.of (blt b xs) s1 := by first | (rw [evE]; done) | (rw [evE]; rfl)
@[simp] theorem evE_isi (a : E) (t : Ty) : evE Φ (.isi a t) s = (pk a (evE Φ a) s).bind fun x s1 => (Res.of (isTy x t) s1).bind fun r s2 => .ok (.d (.bl r)) s2 := by first | (rw [evE]; done) | (rw [evE]; rfl)
@[simp] theorem evE_comp (vs : List Nat) (t : Tg) (k : Sk) (src : List E) (c : Option E) (elt : E) : evE Φ (.comp vs t k src c elt) s = (evPs Φ src s).bind fun xs s1 => (Res.of (srcL k xs) s1).bind fun is s2 => (compR Φ vs t c elt is (s2.forget vs)).bind fun ys s3 => .ok (.f ys) s3 := by first | (rw [evE]; done) | (rw [evE]; rfl)
@[simp] theorem evO1_none : evO1 Φ none s = .ok true s := by rw [evO1]
@[simp] theorem evO1_some (c : E) : evO1 Φ (some c) s = tst c (evE Φ c) s := by rw [evO1]
@[simp] theorem evO_none : evO Φ none s = .ok none s := by rw [evO]
@[simp] theorem evO_some (e : E) : evO Φ (some e) s = (pk e (evE Φ e) s).bind fun x s1 => (Res.of (num x) s1).bind fun i s2 => .ok (some i) s2 := by rw [evO]
@[simp] theorem evL_nil : evL Φ [] s = .ok [] s := by rw [evL]
@[simp] theorem evL_cons (e : E) (es : List E) : evL Φ (e :: es) s = (evE Φ e s).bind fun x s1 => (evL Φ es s1).bind fun xs s2 => .ok (x.D :: xs) s2 := by rw [evL]
@[simp] theorem evPs_nil : evPs Φ [] s = .ok [] s := by rw [evPs]
@[simp] theorem evPs_cons (e : E) (es : List E) : evPs Φ (e :: es) s = (pk e (evE Φ e) s).bind fun x s1 => (evPs Φ es s1).bind fun xs s2 => .ok (x :: xs) s2 := by rw [evPs]
@[simp] theorem pk_var (i : Nat) (f : Stt → Res R) : pk (.var i) f s = Res.of (peek s i) s := of_eq_true (eq_self _)
@[simp] theorem pk_k (c : D) (f : Stt → Res R) : pk (.k c) f s = (f s).bind fun r s1 => .ok r.D s1 := of_eq_true (eq_self _)
@[simp] theorem pk_bin (op : Operator) (a b : E) (f : Stt → Res R) : pk (.bin op a b) f s = (f s).bind fun r s1 => .ok r.D s1 := of_eq_true (eq_self _)
@[simp] theorem pk_cmp (op : CmpOp) (a b : E) (f : Stt → Res R) : pk (.cmp op a b) f s = (f s).bind fun r s1 => .ok r.D s1 := of_eq_true (eq_self _)
@[simp] theorem pk_chain (op op' : CmpOp) (a b c : E) (f : Stt → Res R) : pk (.chain op op' a b c) f s = (f s).bind fun r s1 => .ok r.D s1 := of_eq_true (eq_self _)
@[simp] theorem pk_and (a b : E) (f : Stt → Res R) : pk (.and a b) f s = (f s).bind fun r s1 => .ok r.D s1 := of_eq_true (eq_self _)
@[simp] theorem pk_or (a b : E) (f : Stt → Res R) : pk (.or a b) f s = (f s).bind fun r s1 => .ok r.D s1 := of_eq_true (eq_self _)
@[simp] theorem pk_not (a : E) (f : Stt → Res R) : pk (.not a) f s = (f s).bind fun r s1 => .ok r.D s1 := of_eq_true (eq_self _)
@[simp] theorem pk_neg (a : E) (f : Stt → Res R) : pk (.neg a) f s = (f s).bind fun r s1 => .ok r.D s1 := of_eq_true (eq_self _)
@[simp] theorem pk_ife (c a b : E) (f : Stt → Res R) : pk (.ife c a b) f s = (f s).bind fun r s1 => .ok r.D s1 := of_eq_true (eq_self _)
@[simp] theorem pk_tup (es : List E) (f : Stt → Res R) : pk (.tup es) f s = (f s).bind fun r s1 => .ok r.D s1 := of_eq_true (eq_self _)
@[simp] theorem pk_lst (es : List E) (f : Stt → Res R) : pk (.lst es) f s = (f s).bind fun r s1 => .ok r.D s1 := of_eq_true (eq_self _)
@[simp] theorem pk_ix (a i : E) (f : Stt → Res R) : pk (.ix a i) f s = (f s).bind fun r s1 => .ok r.D s1 := of_eq_true (eq_self _)
@[simp] theorem pk_sl (a : E) (lo hi : Option E) (f : Stt → Res R) : pk (.sl a lo hi) f s = (f s).bind fun r s1 => .ok r.D s1 := of_eq_true (eq_self _)
@[simp] theorem pk_rvs (a : E) (f : Stt → Res R) : pk (.rvs a) f s = (f s).bind fun r s1 => .ok r.D s1 := of_eq_true (eq_self _)
@[simp] theorem pk_call (f0 : Nat) (es : List E) (f : Stt → Res R) : pk (.call f0 es) f s = (f s).bind fun r s1 => .ok r.D s1 := of_eq_true (eq_self _)
@[simp] theorem pk_blt (b : B) (es : List E) (f : Stt → Res R) : pk (.blt b es) f s = (f s).bind fun r s1 => .ok r.D s1 := of_eq_true (eq_self _)
@[simp] theorem pk_isi (a : E) (t : Ty) (f : Stt → Res R) : pk (.isi a t) f s = (f s).bind fun r s1 => .ok r.D s1 := of_eq_true (eq_self _)
@[simp] theorem pk_comp (vs : List Nat) (t : Tg) (k : Sk) (src : List E) (c : Option E) (elt : E) (f : Stt → Res R) : pk (.comp vs t k src c elt) f s = (f s).bind fun r s1 => .ok r.D s1 := of_eq_true (eq_self _)
@[simp] theorem evS_set (t : Tg) (e : E) : evS Φ u (.set t e) s = (evE Φ e s).bind fun r s1 => (Res.of (setT t r s1) s1).bind fun s2 _ => .ok .nx s2 := by first | (rw [evS]; done) | (rw [evS]; rfl)
@[simp] theorem evS_par (i j : Nat) (a b : E) : evS Φ u (.par i j a b) s = (evL Φ [a, b] s).bind fun xs s1 => match xs with
      | [x, y] => .ok .nx ((s1.put i (.d x)).put j (.d y))
      | _ => .bad := by first | (rw [evS]; done) | (rw [evS]; rfl)
@[simp] theorem evS_app (i : Nat) (e : E) : evS Φ u (.app i e) s = (Res.of (ownAt s i) s).bind fun _ s0 => (evE Φ e s0).bind fun r s1 => (Res.of (ownAt s1 i) s1).bind fun xs s2 =>
      if xs.length < sizeLine then .ok .nx (s2.put i (.own (xs ++ [r.D]))) else .bad := by first | (rw [evS]; done) | (rw [evS]; rfl)
@[simp] theorem evS_ext (i : Nat) (e : E) : evS Φ u (.ext i e) s = (Res.of (ownAt s i) s).bind fun _ s0 => (evE Φ e s0).bind fun r s1 => (Res.of (ownAt s1 i) s1).bind fun xs s2 => (Res.of (lstOf r.D) s2).bind fun ys s3 =>
      if xs.length + ys.length ≤ sizeLine then .ok .nx (s3.put i (.own (xs ++ ys))) else .bad := by first | (rw [evS]; done) | (rw [evS]; rfl)
@[simp] theorem evS_six (i : Nat) (k e : E) : evS Φ u (.six i k e) s = (evE Φ e s).bind fun r s1 => match s1.ρ[i]? with
      | some (.own _) => (pk k (evE Φ k) s1).bind fun kd s2 => (Res.of (ownAt s2 i) s2).bind fun xs s3 => (Res.of (setAt xs kd r.D) s3).bind fun ys s4 => .ok .nx (s4.put i (.own ys))
      | some (.d .hand) => (pk k (evE Φ k) s1).bind fun kd s2 => (Res.of (setH s2.g kd r.D) s2).bind fun g s3 => .ok .nx ⟨s3.ρ, g⟩
      | _ => .bad := by first | (rw [evS]; done) | (rw [evS]; rfl)
@[simp] theorem evS_aug (i : Nat) (op : Operator) (e : E) : evS Φ u (.aug i op e) s = (Res.of (peek s i) s).bind fun x s1 => (pk e (evE Φ e) s1).bind fun y s2 => (Res.of (num x) s2).bind fun _ s3 =>
      (Res.of (binop op x y) s3).bind fun r s4 => .ok .nx (s4.put i (.d r.D)) := by first | (rw [evS]; done) | (rw [evS]; rfl)
@[simp] theorem evS_exp (e : E) : evS Φ u (.exp e) s = (evE Φ e s).bind fun _ s1 => .ok .nx s1 := by first | (rw [evS]; done) | (rw [evS]; rfl)
@[simp] theorem evS_retN  : evS Φ u (.retN ) s = .ok (.rt (.d .non)) s := by first | (rw [evS]; done) | (rw [evS]; rfl)
@[simp] theorem evS_ifS (c : E) (a b : List S) : evS Φ u (.ifS c a b) s = (tst c (evE Φ c) s).bind fun t s1 => match t with
      | true => evB Φ u a s1
      | false => evB Φ u b s1 := by first | (rw [evS]; done) | (rw [evS]; rfl)
@[simp] theorem evS_forS (t : Tg) (k : Sk) (src : List E) (b : List S) : evS Φ u (.forS t k src b) s = (evL Φ src s).bind fun xs s1 => (Res.of (srcL k xs) s1).bind fun is s2 => forL (evB Φ u b) t is s2 := by first | (rw [evS]; done) | (rw [evS]; rfl)
@[simp] theorem evS_whl (c : E) (b : List S) : evS Φ u (.whl c b) s = whlL (tst c (evE Φ c)) (evB Φ u b) u s := by first | (rw [evS]; done) | (rw [evS]; rfl)
@[simp] theorem evS_brk  : evS Φ u (.brk ) s = .ok .bk s := by first | (rw [evS]; done) | (rw [evS]; rfl)
@[simp] theorem evS_cnt  : evS Φ u (.cnt ) s = .ok .ct s := by first | (rw [evS]; done) | (rw [evS]; rfl)
@[simp] theorem evS_pss  : evS Φ u (.pss ) s = .ok .nx s := by first | (rw [evS]; done) | (rw [evS]; rfl)
@[simp] theorem evS_bad  : evS Φ u (.bad ) s = .bad := by first | (rw [evS]; done) | (rw [evS]; rfl)
@[simp] theorem evS_retV (i : Nat) : evS Φ u (.ret (.var i)) s = match s.ρ[i]? with
      | some (.own xs) => .ok (.rt (.f xs)) (s.put i .no)
      | some (.d x) => .ok (.rt (.d x)) s
      | _ => .bad := by first | (rw [evS]; done) | (rw [evS]; rfl)
@[simp] theorem evS_ret_k (c : D) : evS Φ u (.ret (.k c)) s = (evE Φ (.k c) s).bind fun r s1 => .ok (.rt r) s1 := by rw [evS]; all_goals (intro _ z; cases z)
@[simp] theorem evS_ret_bin (op : Operator) (a b : E) : evS Φ u (.ret (.bin op a b)) s = (evE Φ (.bin op a b) s).bind fun r s1 => .ok (.rt r) s1 := by rw [evS]; all_goals (intro _ z; cases z)
@[simp] theorem evS_ret_cmp (op : CmpOp) (a b : E) : evS Φ u (.ret (.cmp op a b)) s = (evE Φ (.cmp op a b) s).bind fun r s1 => .ok (.rt r) s1 := by rw [evS]; all_goals (intro _ z; cases z)
@[simp] theorem evS_ret_chain (op op' : CmpOp) (a b c : E) : evS Φ u (.ret (.chain op op' a b c)) s = (evE Φ (.chain op op' a b c) s).bind fun r s1 => .ok (.rt r) s1 := by rw [evS]; all_goals (intro _ z; cases z)
@[simp] theorem evS_ret_and (a b : E) : evS Φ u (.ret (.and a b)) s = (evE Φ (.and a b) s).bind fun r s1 => .ok (.rt r) s1 := by rw [evS]; all_goals (intro _ z; cases z)
@[simp] theorem evS_ret_or (a b : E) : evS Φ u (.ret (.or a b)) s = (evE Φ (.or a b) s).bind fun r s1 => .ok (.rt r) s1 := by rw [evS]; all_goals (intro _ z; cases z)
@[simp] theorem evS_ret_not (a : E) : evS Φ u (.ret (.not a)) s = (evE Φ (.not a) s).bind fun r s1 => .ok (.rt r) s1 := by rw [evS]; all_goals (intro _ z; cases z)
@[simp] theorem evS_ret_neg (a : E) : evS Φ u (.ret (.neg a)) s = (evE Φ (.neg a) s).bind fun r s1 => .ok (.rt r) s1 := by rw [evS]; all_goals (intro _ z; cases z)
@[simp] theorem evS_ret_ife (c a b : E) : evS Φ u (.ret (.ife c a b)) s = (evE Φ (.ife c a b) s).bind fun r s1 => .ok (.rt r) s1 := by rw [evS]; all_goals (intro _ z; cases z)
@[simp] theorem evS_ret_tup (es : List E) : evS Φ u (.ret (.tup es)) s = (evE Φ (.tup es) s).bind fun r s1 => .ok (.rt r) s1 := by rw [evS]; all_goals (intro _ z; cases z)
@[simp] theorem evS_ret_lst (es : List E) : evS Φ u (.ret (.lst es)) s = (evE Φ (.lst es) s).bind fun r s1 => .ok (.rt r) s1 := by rw [evS]; all_goals (intro _ z; cases z)
@[simp] theorem evS_ret_ix (a i : E) : evS Φ u (.ret (.ix a i)) s = (evE Φ (.ix a i) s).bind fun r s1 => .ok (.rt r) s1 := by rw [evS]; all_goals (intro _ z; cases z)
@[simp] theorem evS_ret_sl (a : E) (lo hi : Option E) : evS Φ u (.ret (.sl a lo hi)) s = (evE Φ (.sl a lo hi) s).bind fun r s1 => .ok (.rt r) s1 := by rw [evS]; all_goals (intro _ z; cases z)
@[simp] theorem evS_ret_rvs (a : E) : evS Φ u (.ret (.rvs a)) s = (evE Φ (.rvs a) s).bind fun r s1 => .ok (.rt r) s1 := by rw [evS]; all_goals (intro _ z; cases z)
@[simp] theorem evS_ret_call (f : Nat) (es : List E) : evS Φ u (.ret (.call f es)) s = (evE Φ (.call f es) s).bind fun r s1 => .ok (.rt r) s1 := by rw [evS]; all_goals (intro _ z; cases z)
@[simp] theorem evS_ret_blt (b : B) (es : List E) : evS Φ u (.ret (.blt b es)) s = (evE Φ (.blt b es) s).bind fun r s1 => .ok (.rt r) s1 := by rw [evS]; all_goals (intro _ z; cases z)
@[simp] theorem evS_ret_isi (a : E) (t : Ty) : evS Φ u (.ret (.isi a t)) s = (evE Φ (.isi a t) s).bind fun r s1 => .ok (.rt r) s1 := by rw [evS]; all_goals (intro _ z; cases z)
@[simp] theorem evS_ret_comp (vs : List Nat) (t : Tg) (k : Sk) (src : List E) (c : Option E) (elt : E) : evS Φ u (.ret (.comp vs t k src c elt)) s = (evE Φ (.comp vs t k src c elt) s).bind fun r s1 => .ok (.rt r) s1 := by rw [evS]; all_goals (intro _ z; cases z)
@[simp] theorem evB_nil : evB Φ u [] s = .ok .nx s := by rw [evB]
@[simp] theorem evB_cons (c : S) (cs : List S) : evB Φ u (c :: cs) s = (evS Φ u c s).bind fun f s1 => match f with
      | .nx => evB Φ u cs s1
      | f => .ok f s1 := by first | (rw [evB]; done) | (rw [evB]; rfl)
end
/-! ### states -/
section
variable (ρ : List Cell) (g : Hand) (i : Nat)
@[simp] theorem put_mk (c : Cell) : Stt.put ⟨ρ, g⟩ i c = ⟨ρ.set i c, g⟩ := of_eq_true (eq_self _)
@[simp] theorem forget_nil : Stt.forget ⟨ρ, g⟩ [] = ⟨ρ, g⟩ := of_eq_true (eq_self _)
@[simp] theorem forget_cons (is : List Nat) : Stt.forget ⟨ρ, g⟩ (i :: is) = (Stt.forget ⟨ρ, g⟩ is).put i .no := of_eq_true (eq_self _)
@[simp] theorem give_mk : give i ⟨ρ, g⟩ = match ρ[i]? with
  | some (.d x) => .ok (.d x) ⟨ρ, g⟩
  | some (.own xs) => .ok (.d (.lst xs)) ⟨ρ.set i (.d (.lst xs)), g⟩
  | _ => .bad := of_eq_true (eq_self _)
@[simp] theorem peek_mk : peek ⟨ρ, g⟩ i = match ρ[i]? with
  | some (.d x) => some x
  | some (.own xs) => some (.lst xs)
  | _ => none := of_eq_true (eq_self _)
@[simp] theorem ownAt_mk : ownAt ⟨ρ, g⟩ i = match ρ[i]? with
  | some (.own xs) => some xs
  | _ => none := of_eq_true (eq_self _)
end
/-! ### values -/
@[simp] theorem RD_d (x : D) : R.D (.d x) = x := of_eq_true (eq_self _)
@[simp] theorem RD_f (x : List D) : R.D (.f x) = .lst x := of_eq_true (eq_self _)
@[simp] theorem frres_ret (r : R) (g : Hand) (s : Stt) : FR.res (.ret r g) s = .ok r ⟨s.ρ, g⟩ := of_eq_true (eq_self _)
@[simp] theorem tst_eq (e : E) (f : Stt → Res R) (s : Stt) : tst e f s = (pk e f s).bind fun x s1 => Res.of (truth x) s1 := of_eq_true (eq_self _)
@[simp] theorem truth_non : truth .non = some false := of_eq_true (eq_self _)
@[simp] theorem truth_bl (b : Bool) : truth (.bl b) = some b := of_eq_true (eq_self _)
@[simp] theorem truth_int (i : Int) : truth (.int i) = some (!decide (i = 0)) := of_eq_true (eq_self _)
@[simp] theorem truth_lst (x : List D) : truth (.lst x) = some (!x.isEmpty) := of_eq_true (eq_self _)
@[simp] theorem truth_tup (x : List D) : truth (.tup x) = some (!x.isEmpty) := of_eq_true (eq_self _)
@[simp] theorem num_int (i : Int) : num (.int i) = some i := of_eq_true (eq_self _)
@[simp] theorem add_int (i j : Int) : binop .Add (.int i) (.int j) = some (.d (.int (i + j))) := of_eq_true (eq_self _)
@[simp] theorem sub_int (i j : Int) : binop .Sub (.int i) (.int j) = some (.d (.int (i - j))) := of_eq_true (eq_self _)
theorem mul_int {i j : Int} (h : mulOk i j = true) : binop .Mult (.int i) (.int j) = some (.d (.int (i * j))) := if_pos h
theorem fdiv_int {i j : Int} (h : divOk j = true) : binop .FloorDiv (.int i) (.int j) = some (.d (.int (i / j))) := if_pos h
theorem mod_int {i j : Int} (h : 0 < j) : binop .Mod (.int i) (.int j) = some (.d (.int (i % j))) := if_pos h
theorem pow_int {i j : Int} (h : powOk i j = true) : binop .Pow (.int i) (.int j) = some (.d (.int (i ^ j.toNat))) := if_pos h
theorem add_tup {a b : List D} (h : a.length + b.length ≤ sizeLine) : binop .Add (.tup a) (.tup b) = some (.d (.tup (a ++ b))) := if_pos h
theorem add_lst {a b : List D} (h : a.length + b.length ≤ sizeLine) : binop .Add (.lst a) (.lst b) = some (.f (a ++ b)) := if_pos h
@[simp] theorem lt_int (i j : Int) : cmpop .Lt (.int i) (.int j) = some (decide (i < j)) := of_eq_true (eq_self _)
@[simp] theorem le_int (i j : Int) : cmpop .LtE (.int i) (.int j) = some (decide (i ≤ j)) := of_eq_true (eq_self _)
@[simp] theorem gt_int (i j : Int) : cmpop .Gt (.int i) (.int j) = some (decide (j < i)) := of_eq_true (eq_self _)
@[simp] theorem ge_int (i j : Int) : cmpop .GtE (.int i) (.int j) = some (decide (j ≤ i)) := of_eq_true (eq_self _)
@[simp] theorem is_non (x : D) : cmpop .Is x .non = some (isNon x) := by cases x <;> rfl
@[simp] theorem isnot_non (x : D) : cmpop .IsNot x .non = some (!isNon x) := by cases x <;> rfl
@[simp] theorem isNon_int (i : Int) : isNon (.int i) = false := of_eq_true (eq_self _)
@[simp] theorem isNon_str (i : Str) : isNon (.str i) = false := of_eq_true (eq_self _)
@[simp] theorem isNon_non : isNon .non = true := of_eq_true (eq_self _)
@[simp] theorem isNon_tup (x : List D) : isNon (.tup x) = false := of_eq_true (eq_self _)
@[simp] theorem isNon_lst (x : List D) : isNon (.lst x) = false := of_eq_true (eq_self _)
@[simp] theorem eqD_int (i j : Int) : eqD (.int i) (.int j) = some (decide (i = j)) := by
  have e : (i == j) = decide (i = j) := rfl
  simp [eqD, D.py, SeqAt.shaped, PyData.canLay0, PyData.depth, PyData.eqv, e]
@[simp] theorem eqD_bl (i j : Bool) : eqD (.bl i) (.bl j) = some (i == j) := by simp [eqD, D.py, SeqAt.shaped, PyData.canLay0, PyData.depth, PyData.eqv]
@[simp] theorem cmp_eq (x y : D) : cmpop .Eq x y = eqD x y := by cases x <;> cases y <;> rfl
@[simp] theorem cmp_ne (x y : D) : cmpop .NotEq x y = (eqD x y).map (!·) := by cases x <;> cases y <;> rfl
@[simp] theorem itemS_hand (g : Hand) (i : Int) : itemS g .hand (.int i) = handAt g i := of_eq_true (eq_self _)
@[simp] theorem itemS_lst (g : Hand) (xs : List D) (i : D) : itemS g (.lst xs) i = item (.lst xs) i := of_eq_true (eq_self _)
@[simp] theorem itemS_tup (g : Hand) (xs : List D) (i : D) : itemS g (.tup xs) i = item (.tup xs) i := of_eq_true (eq_self _)
@[simp] theorem handAt_0 (g : Hand) : handAt g 0 = some (.lst (g.cells.map .int)) := of_eq_true (eq_self _)
@[simp] theorem handAt_1 (g : Hand) : handAt g 1 = some (.int g.ix) := of_eq_true (eq_self _)
@[simp] theorem handAt_2 (g : Hand) : handAt g 2 = some (.int g.rest) := of_eq_true (eq_self _)
@[simp] theorem handAt_3 (g : Hand) : handAt g 3 = some (.int g.total) := of_eq_true (eq_self _)
@[simp] theorem setH_1 (g : Hand) (v : Int) : setH g (.int 1) (.int v) = some { g with ix := v } := of_eq_true (eq_self _)
@[simp] theorem setH_2 (g : Hand) (v : Int) : setH g (.int 2) (.int v) = some { g with rest := v } := of_eq_true (eq_self _)
@[simp] theorem setH_3 (g : Hand) (v : Int) : setH g (.int 3) (.int v) = some { g with total := v } := of_eq_true (eq_self _)
@[simp] theorem setT_d (i : Nat) (x : D) (s : Stt) : setT (.nm i) (.d x) s = some (s.put i (.d x)) := of_eq_true (eq_self _)
theorem setT_f (i : Nat) (x : List D) (s : Stt) (h : i < s.ρ.length) : setT (.nm i) (.f x) s = some (s.put i (.own x)) := if_pos h
@[simp] theorem setT_fm (i : Nat) (x : List D) (ρ : List Cell) (g : Hand) : setT (.nm i) (.f x) ⟨ρ, g⟩ = if i < ρ.length then some ⟨ρ.set i (.own x), g⟩ else none := of_eq_true (eq_self _)
@[simp] theorem bindT_nm (i : Nat) (x : D) (s : Stt) : bindT (.nm i) x s = some (s.put i (.d x)) := of_eq_true (eq_self _)
@[simp] theorem len_lst (xs : List D) : blt .len [.lst xs] = some (.d (.int xs.length)) := of_eq_true (eq_self _)
@[simp] theorem len_tup (xs : List D) : blt .len [.tup xs] = some (.d (.int xs.length)) := of_eq_true (eq_self _)
@[simp] theorem int_int (i : Int) : blt .int [.int i] = some (.d (.int i)) := of_eq_true (eq_self _)
@[simp] theorem int_bl (i : Bool) : blt .int [.bl i] = some (.d (.int (if i then 1 else 0))) := of_eq_true (eq_self _)
@[simp] theorem min_int (i j : Int) : blt .min [.int i, .int j] = some (.d (.int (if j < i then j else i))) := of_eq_true (eq_self _)
@[simp] theorem max_int (i j : Int) : blt .max [.int i, .int j] = some (.d (.int (if j > i then j else i))) := of_eq_true (eq_self _)
@[simp] theorem abs_int (i : Int) : blt .abs [.int i] = some (.d (.int (if i < 0 then -i else i))) := of_eq_true (eq_self _)
@[simp] theorem tuple_lst (xs : List D) : blt .tuple [.lst xs] = some (.d (.tup xs)) := of_eq_true (eq_self _)
@[simp] theorem tuple_tup (xs : List D) : blt .tuple [.tup xs] = some (.d (.tup xs)) := of_eq_true (eq_self _)
@[simp] theorem list_lst (xs : List D) : blt .list [.lst xs] = some (.f xs) := of_eq_true (eq_self _)
@[simp] theorem list_tup (xs : List D) : blt .list [.tup xs] = some (.f xs) := of_eq_true (eq_self _)
@[simp] theorem isTy_int (i : Int) (t : Ty) : isTy (.int i) t = some (t == .int) := of_eq_true (eq_self _)
@[simp] theorem isTy_bl (i : Bool) (t : Ty) : isTy (.bl i) t = some (t == .bool || t == .int) := of_eq_true (eq_self _)
@[simp] theorem isTy_tup (i : List D) (t : Ty) : isTy (.tup i) t = some (t == .tuple) := of_eq_true (eq_self _)
@[simp] theorem isTy_lst (i : List D) (t : Ty) : isTy (.lst i) t = some (t == .list) := of_eq_true (eq_self _)
@[simp] theorem isTy_non (t : Ty) : isTy .non t = some false := of_eq_true (eq_self _)
@[simp] theorem ty_bool_bool : (Ty.bool == Ty.bool) = true := of_eq_true (eq_self _)
@[simp] theorem ty_bool_int : (Ty.bool == Ty.int) = false := of_eq_true (eq_self _)
@[simp] theorem ty_bool_list : (Ty.bool == Ty.list) = false := of_eq_true (eq_self _)
@[simp] theorem ty_bool_tuple : (Ty.bool == Ty.tuple) = false := of_eq_true (eq_self _)
@[simp] theorem ty_bool_str : (Ty.bool == Ty.str) = false := of_eq_true (eq_self _)
@[simp] theorem ty_int_bool : (Ty.int == Ty.bool) = false := of_eq_true (eq_self _)
@[simp] theorem ty_int_int : (Ty.int == Ty.int) = true := of_eq_true (eq_self _)
@[simp] theorem ty_int_list : (Ty.int == Ty.list) = false := of_eq_true (eq_self _)
@[simp] theorem ty_int_tuple : (Ty.int == Ty.tuple) = false := of_eq_true (eq_self _)
@[simp] theorem ty_int_str : (Ty.int == Ty.str) = false := of_eq_true (eq_self _)
@[simp] theorem ty_list_bool : (Ty.list == Ty.bool) = false := of_eq_true (eq_self _)
@[simp] theorem ty_list_int : (Ty.list == Ty.int) = false := of_eq_true (eq_self _)
@[simp] theorem ty_list_list : (Ty.list == Ty.list) = true := of_eq_true (eq_self _)
@[simp] theorem ty_list_tuple : (Ty.list == Ty.tuple) = false := of_eq_true (eq_self _)
@[simp] theorem ty_list_str : (Ty.list == Ty.str) = false := of_eq_true (eq_self _)
@[simp] theorem ty_tuple_bool : (Ty.tuple == Ty.bool) = false := of_eq_true (eq_self _)
@[simp] theorem ty_tuple_int : (Ty.tuple == Ty.int) = false := of_eq_true (eq_self _)
@[simp] theorem ty_tuple_list : (Ty.tuple == Ty.list) = false := of_eq_true (eq_self _)
@[simp] theorem ty_tuple_tuple : (Ty.tuple == Ty.tuple) = true := of_eq_true (eq_self _)
@[simp] theorem ty_tuple_str : (Ty.tuple == Ty.str) = false := of_eq_true (eq_self _)
@[simp] theorem ty_str_bool : (Ty.str == Ty.bool) = false := of_eq_true (eq_self _)
@[simp] theorem ty_str_int : (Ty.str == Ty.int) = false := of_eq_true (eq_self _)
@[simp] theorem ty_str_list : (Ty.str == Ty.list) = false := of_eq_true (eq_self _)
@[simp] theorem ty_str_tuple : (Ty.str == Ty.tuple) = false := of_eq_true (eq_self _)
@[simp] theorem ty_str_str : (Ty.str == Ty.str) = true := of_eq_true (eq_self _)
@[simp] theorem srcL_l (xs : List D) : srcL .seq [.lst xs] = some xs := of_eq_true (eq_self _)
@[simp] theorem srcL_t (xs : List D) : srcL .seq [.tup xs] = some xs := of_eq_true (eq_self _)
theorem srcL_r {j : Int} (h : rngOk 0 j = true) : srcL .rng [.int j] = some (rngL 0 j) := if_pos h
theorem srcL_r2 {i j : Int} (h : rngOk i j = true) : srcL .rng [.int i, .int j] = some (rngL i j) := if_pos h
/-! ### items -/
theorem ixN_nat {n i : Nat} (h : i < n) : ixN n (i : Int) = some i := by
  unfold ixN
  rw [if_pos (by omega), if_pos (by omega)]; rfl
theorem ixN_int {n : Nat} {i : Int} (h0 : 0 ≤ i) (h : i < n) : ixN n i = some i.toNat := by
  unfold ixN
  rw [if_pos h0, if_pos h]
theorem ixN_neg {n : Nat} {i : Int} (h0 : i < 0) (h : -(n : Int) ≤ i) : ixN n i = some (i + n).toNat := by
  unfold ixN
  rw [if_neg (by omega), if_pos h]
theorem item_lst {xs : List D} {i : Int} {x : D} (h0 : 0 ≤ i) (h : xs[i.toNat]? = some x) : item (.lst xs) (.int i) = some x := by
  have hl := (List.getElem?_eq_some_iff.mp h).1
  show (ixN xs.length i).bind (fun j => xs[j]?) = _
  rw [ixN_int h0 (by omega)]
  exact h
theorem item_tup {xs : List D} {i : Int} {x : D} (h0 : 0 ≤ i) (h : xs[i.toNat]? = some x) : item (.tup xs) (.int i) = some x := by
  have hl := (List.getElem?_eq_some_iff.mp h).1
  show (ixN xs.length i).bind (fun j => xs[j]?) = _
  rw [ixN_int h0 (by omega)]
  exact h
/-! ### loops -/
theorem forL_inv {f : Stt → Res Fl} {t : Tg} (I : Nat → Stt → Prop) : ∀ (xs : List D) (n : Nat) (s : Stt), I n s →
    (∀ i x s, xs[i]? = some x → I (n + i) s → ∃ s1, bindT t x s = some s1 ∧ ∃ s2, (f s1 = .ok .nx s2 ∨ f s1 = .ok .ct s2) ∧ I (n + i + 1) s2) → ∃ s', forL f t xs s = .ok .nx s' ∧ I (n + xs.length) s'
  | [], n, s, h, _ => ⟨s, rfl, h⟩
  | x :: xs, n, s, h, k => by
    obtain ⟨s1, e1, s2, e2, h2⟩ := k 0 x s rfl h
    obtain ⟨s', e3, h3⟩ := forL_inv I xs (n + 1) s2 h2 fun i y s hy hi => by
      have z := k (i + 1) y s hy (by rw [show n + (i + 1) = n + 1 + i from by omega]; exact hi)
      rw [show n + (i + 1) + 1 = n + 1 + i + 1 from by omega] at z
      exact z
    refine ⟨s', ?_, by rw [List.length_cons, show n + (xs.length + 1) = n + 1 + xs.length from by omega]; exact h3⟩
    unfold forL
    rw [e1]
    rcases e2 with e2 | e2 <;> (simp only [e2]; exact e3)
/-- a def's answer, by its body's (the nested match of runF is kept out of simp's way: the kernel runs wild over it) -/
theorem runF_rt {Φ : FEnv} {u n : Nat} {b : List S} {xs : List D} {g g' : Hand} {r : R} (h : ∃ ρ, evB Φ u b ⟨xs.map .d ++ List.replicate (n - xs.length) .no, g⟩ = .ok (.rt r) ⟨ρ, g'⟩) : runF Φ u n b xs g = .ret r g' := by
  obtain ⟨ρ, h⟩ := h
  unfold runF
  rw [h]
theorem runF_nx {Φ : FEnv} {u n : Nat} {b : List S} {xs : List D} {g g' : Hand} (h : ∃ ρ, evB Φ u b ⟨xs.map .d ++ List.replicate (n - xs.length) .no, g⟩ = .ok .nx ⟨ρ, g'⟩) : runF Φ u n b xs g = .ret (.d .non) g' := by
  obtain ⟨ρ, h⟩ := h
  unfold runF
  rw [h]
/-- what a loop ends with -/
def flO (o : Option R) : Fl :=
  match o with
  | none => .nx
  | some v => .rt v
/-- a loop that leaves the state, and may return -/
theorem forL_map {α : Type} {f : Stt → Res Fl} {t : Tg} (I : Stt → Prop) (e : α → D) (r : α → Option R) : ∀ (xs : List α) (s : Stt), I s → (∀ x ∈ xs, ∀ s, I s → ∃ s1, bindT t (e x) s = some s1 ∧ ∃ s2, I s2 ∧ f s1 = .ok (flO (r x)) s2) →
    ∃ s', I s' ∧ forL f t (xs.map e) s = .ok (flO (xs.findSome? r)) s'
  | [], s, h, _ => ⟨s, h, rfl⟩
  | x :: xs, s, h, k => by
    obtain ⟨s1, e1, s2, h2, e2⟩ := k x List.mem_cons_self s h
    rw [List.map_cons, List.findSome?_cons]
    unfold forL
    cases hr : r x with
    | some v =>
      rw [hr] at e2
      exact ⟨s2, h2, by simp only [e1, e2]; rfl⟩
    | none =>
      rw [hr] at e2
      obtain ⟨s', h3, e3⟩ := forL_map I e r xs s2 h2 fun y hy => k y (List.mem_cons_of_mem _ hy)
      exact ⟨s', h3, by simp only [e1, e2]; exact e3⟩
/-- a loop that folds -/
theorem forL_fold {α β : Type} {f : Stt → Res Fl} {t : Tg} (I : β → Stt → Prop) (e : α → D) (st : β → α → β) : ∀ (xs : List α) (b : β) (s : Stt), I b s → (∀ x ∈ xs, ∀ b s, I b s → ∃ s1, bindT t (e x) s = some s1 ∧ ∃ s2, I (st b x) s2 ∧ f s1 = .ok .nx s2) →
    ∃ s', I (xs.foldl st b) s' ∧ forL f t (xs.map e) s = .ok .nx s'
  | [], b, s, h, _ => ⟨s, h, rfl⟩
  | x :: xs, b, s, h, k => by
    obtain ⟨s1, e1, s2, h2, e2⟩ := k x List.mem_cons_self b s h
    obtain ⟨s', h3, e3⟩ := forL_fold I e st xs (st b x) s2 h2 fun y hy => k y (List.mem_cons_of_mem _ hy)
    refine ⟨s', h3, ?_⟩
    rw [List.map_cons]
    unfold forL
    simp only [e1, e2]
    exact e3
/-- a comprehension that leaves the state -/
theorem compL_eq {f : Stt → Res (Option D)} {t : Tg} {vs : List Nat} {s0 : Stt} (h : D → Option D) : ∀ (xs acc : List D), (∀ x ∈ xs, ∃ s1 s2, bindT t x s0 = some s1 ∧ f s1 = .ok (h x) s2 ∧ s2.forget vs = s0) → acc.length + xs.length ≤ sizeLine →
    compL f t vs xs acc s0 = .ok (acc ++ xs.filterMap h) s0
  | [], acc, _, _ => by simp [compL]
  | x :: xs, acc, k, hl => by
    obtain ⟨s1, s2, e1, e2, e3⟩ := k x List.mem_cons_self
    have hl' : acc.length + (xs.length + 1) ≤ sizeLine := hl
    unfold compL
    simp only [e1, e2]
    cases hx : h x with
    | none =>
      simp only [e3]
      rw [compL_eq h xs acc (fun y hy => k y (List.mem_cons_of_mem _ hy)) (by omega), List.filterMap_cons, hx]
    | some y =>
      simp only [e3]
      rw [if_pos (by omega), compL_eq h xs (acc ++ [y]) (fun z hz => k z (List.mem_cons_of_mem _ hz)) (by rw [List.length_append, List.length_singleton]; omega), List.filterMap_cons, hx]
      simp
/-- a comprehension that changes the hand -/
theorem compL_inv {f : Stt → Res (Option D)} {t : Tg} {vs : List Nat} (I : Stt → Prop) (P : D → Prop) : ∀ (xs acc : List D) (s : Stt), I s → (∀ x ∈ xs, ∀ s, I s → ∃ s1 s2 y, bindT t x s = some s1 ∧ f s1 = .ok (some y) s2 ∧ I (s2.forget vs) ∧ P y) → acc.length + xs.length ≤ sizeLine →
    ∃ ys s', compL f t vs xs acc s = .ok (acc ++ ys) s' ∧ I s' ∧ ys.length = xs.length ∧ ∀ y ∈ ys, P y
  | [], acc, s, hi, _, _ => ⟨[], s, by simp [compL], hi, rfl, fun y z => by cases z⟩
  | x :: xs, acc, s, hi, k, hl => by
    obtain ⟨s1, s2, y, e1, e2, hi2, hp⟩ := k x List.mem_cons_self s hi
    have hl' : acc.length + (xs.length + 1) ≤ sizeLine := hl
    obtain ⟨ys, s', e3, h3, l3, p3⟩ := compL_inv I P xs (acc ++ [y]) _ hi2 (fun z hz => k z (List.mem_cons_of_mem _ hz)) (by rw [List.length_append, List.length_singleton]; omega)
    refine ⟨y :: ys, s', ?_, h3, by simp [l3], fun z hz => ?_⟩
    · unfold compL
      simp only [e1, e2]
      rw [if_pos (by omega), e3]
      simp
    · rcases List.mem_cons.mp hz with rfl | hz
      · exact hp
      · exact p3 z hz
theorem compL_mapO {α : Type} {f : Stt → Res (Option D)} {t : Tg} {vs : List Nat} {s0 : Stt} (e : α → D) (o : α → Option D) : ∀ (xs : List α) (acc : List D), (∀ x ∈ xs, ∃ s1 s2, bindT t (e x) s0 = some s1 ∧ f s1 = .ok (o x) s2 ∧ s2.forget vs = s0) → acc.length + xs.length ≤ sizeLine →
    compL f t vs (xs.map e) acc s0 = .ok (acc ++ xs.filterMap o) s0
  | [], acc, _, _ => by simp [compL]
  | x :: xs, acc, k, hl => by
    obtain ⟨s1, s2, e1, e2, e3⟩ := k x List.mem_cons_self
    have hl' : acc.length + (xs.length + 1) ≤ sizeLine := hl
    rw [List.map_cons]
    unfold compL
    simp only [e1, e2]
    cases hx : o x with
    | none =>
      simp only [e3]
      rw [compL_mapO e o xs acc (fun y hy => k y (List.mem_cons_of_mem _ hy)) (by omega), List.filterMap_cons, hx]
    | some y =>
      simp only [e3]
      rw [if_pos (by omega), compL_mapO e o xs (acc ++ [y]) (fun z hz => k z (List.mem_cons_of_mem _ hz)) (by rw [List.length_append, List.length_singleton]; omega), List.filterMap_cons, hx]
      simp
theorem compR_map {α : Type} {Φ : FEnv} {vs : List Nat} {t : Tg} {elt : E} {s0 : Stt} (e h : α → D) {xs : List α} (k : ∀ x ∈ xs, ∃ s1, bindT t (e x) s0 = some s1 ∧ ∃ r s2, evE Φ elt s1 = .ok r s2 ∧ r.D = h x ∧ s2.forget vs = s0) (hl : xs.length ≤ sizeLine) :
    compR Φ vs t none elt (xs.map e) s0 = .ok (xs.map h) s0 := by
  unfold compR
  rw [compL_mapO e (fun x => some (h x)) xs [] (fun x hx => by
    obtain ⟨s1, e1, r, s2, e2, e3, e4⟩ := k x hx
    exact ⟨s1, s2, e1, by simp [e2, e3], e4⟩) (by simpa using hl)]
  simp
theorem fm_filter {α : Type} (q : α → Bool) (h : α → D) : ∀ xs : List α, xs.filterMap (fun x => if q x then some (h x) else none) = (xs.filter q).map h
  | [] => rfl
  | x :: xs => by
    rw [List.filterMap_cons]
    by_cases z : q x = true
    · rw [List.filter_cons_of_pos z]
      simp [z, fm_filter q h xs]
    · rw [List.filter_cons_of_neg z]
      simp [z, fm_filter q h xs]
theorem compR_filter {α : Type} {Φ : FEnv} {vs : List Nat} {t : Tg} {c elt : E} {s0 : Stt} (e h : α → D) (q : α → Bool) {xs : List α} (k : ∀ x ∈ xs, ∃ s1, bindT t (e x) s0 = some s1 ∧ ∃ s2, tst c (evE Φ c) s1 = .ok (q x) s2 ∧ s2.forget vs = s0 ∧ (q x = true → ∃ r s3, evE Φ elt s2 = .ok r s3 ∧ r.D = h x ∧ s3.forget vs = s0)) (hl : xs.length ≤ sizeLine) :
    compR Φ vs t (some c) elt (xs.map e) s0 = .ok ((xs.filter q).map h) s0 := by
  unfold compR
  rw [compL_mapO e (fun x => if q x then some (h x) else none) xs [] (fun x hx => by
    obtain ⟨s1, e1, s2, e2, e4, e5⟩ := k x hx
    by_cases z : q x = true
    · obtain ⟨r, s3, e6, e7, e8⟩ := e5 z
      rw [z] at e2
      exact ⟨s1, s3, e1, by rw [evO1_some, e2]; simp [e6, e7, z], e8⟩
    · rw [Bool.not_eq_true] at z
      rw [z] at e2
      exact ⟨s1, s2, e1, by rw [evO1_some, e2]; simp [z], e4⟩) (by simpa using hl), fm_filter]
  simp
/-- a comprehension that changes the hand -/
theorem compR_inv {α : Type} {Φ : FEnv} {vs : List Nat} {t : Tg} {elt : E} (I : Stt → Prop) (P : D → Prop) (e : α → D) {xs : List α} {s : Stt} (hi : I s) (k : ∀ x ∈ xs, ∀ s, I s → ∃ s1, bindT t (e x) s = some s1 ∧ ∃ r s2, evE Φ elt s1 = .ok r s2 ∧ I (s2.forget vs) ∧ P r.D) (hl : xs.length ≤ sizeLine) :
    ∃ ys s', compR Φ vs t none elt (xs.map e) s = .ok ys s' ∧ I s' ∧ ys.length = xs.length ∧ ∀ y ∈ ys, P y := by
  obtain ⟨ys, s', e1, h1, l1, p1⟩ := compL_inv (f := fun s => (evO1 Φ none s).bind fun b s3 => match b with
        | true => (evE Φ elt s3).bind fun y s4 => .ok (some y.D) s4
        | false => .ok none s3) (t := t) (vs := vs) I P (xs.map e) [] s hi (fun x hx s hs => by
      obtain ⟨y, hy, rfl⟩ := List.mem_map.mp hx
      obtain ⟨s1, e1, r, s2, e2, e3, e4⟩ := k y hy s hs
      exact ⟨s1, s2, r.D, e1, by simp [e2], e3, e4⟩) (by simpa using hl)
  exact ⟨ys, s', e1, h1, by rw [l1, List.length_map], p1⟩
end PD

set_option Elab.async false
set_option linter.all false
set_option maxRecDepth 100000
set_option maxHeartbeats 4000000
/-! PyH: the law's hand: what _law_mixed and _law_take answer. -/
namespace PD
open PySem

theorem log2_le {n k : Nat} (h : n < 2 ^ k) (hk : 0 < k) : n.log2 < k := by
  by_cases z : n = 0
  · subst z
    show Nat.log2 0 < k
    rw [Nat.log2_zero]; exact hk
  · exact (Nat.log2_lt z).mpr h
theorem mulOk_of {i j : Int} (hi : i.natAbs < 2 ^ 200) (hj : j.natAbs < 2 ^ 200) : mulOk i j = true := by
  unfold mulOk
  have h1 := log2_le hi (by decide)
  have h2 := log2_le hj (by decide)
  exact decide_eq_true (by omega)
theorem natAbs_lt {i : Int} {k : Nat} (h0 : -(2 ^ 100) < i) (h : i < 2 ^ 100) : i.natAbs < 2 ^ 200 := by
  have e : (2 : Nat) ^ 100 ≤ 2 ^ 200 := Nat.pow_le_pow_right (by decide) (by decide)
  have : i.natAbs < 2 ^ 100 := by omega
  omega
theorem mulOk_100 {i j : Int} (h1 : -(2 ^ 100) < i) (h2 : i < 2 ^ 100) (h3 : -(2 ^ 100) < j) (h4 : j < 2 ^ 100) : mulOk i j = true := mulOk_of (natAbs_lt (k := 0) h1 h2) (natAbs_lt (k := 0) h3 h4)
theorem divOk_of {j : Int} (h0 : 0 < j) (h : j < 2 ^ 100) : divOk j = true := by
  unfold divOk
  have h1 := log2_le (k := 200) (natAbs_lt (k := 0) (by omega) h) (by decide)
  rw [decide_eq_true h0, decide_eq_true (by omega : j.natAbs.log2 < 9000)]; rfl

def bMixed : List S := [
  .set (.nm 2) (.bin .Mod (.blt .int [(.bin .Add (.bin .Add (.bin .Mult (.var 0) (.k (.int 48271))) (.bin .Mult (.var 1) (.k (.int 7919)))) (.k (.int 30011)))]) (.k (.int 2147483399))),
  .set (.nm 3) (.bin .Mod (.blt .int [(.bin .Add (.bin .Add (.bin .Mult (.var 2) (.var 2)) (.bin .Mult (.var 1) (.k (.int 92821)))) (.bin .FloorDiv (.var 2) (.k (.int 131))))]) (.k (.int 2147483629))),
  .ret (.bin .FloorDiv (.blt .int [(.bin .Mod (.blt .int [(.bin .Add (.bin .Mult (.var 3) (.k (.int 69621))) (.bin .FloorDiv (.var 2) (.k (.int 13))))]) (.k (.int 2147483587)))]) (.k (.int 32)))]
def bTake (m : Nat) : List S := [
  .ifS (.and (.cmp .Eq (.ix (.var 0) (.k (.int 2))) (.k (.int 0))) (.cmp .Lt (.ix (.var 0) (.k (.int 1))) (.blt .len [(.ix (.var 0) (.k (.int 0)))]))) [.set (.nm 2) (.ix (.ix (.var 0) (.k (.int 0))) (.ix (.var 0) (.k (.int 1)))), .six 0 (.k (.int 1)) (.bin .Add (.ix (.var 0) (.k (.int 1))) (.k (.int 1))), .ifS (.cmp .Lt (.var 2) (.bin .Pow (.k (.int 10)) (.k (.int 18)))) [.ret (.bin .Mod (.blt .int [(.call m [(.bin .Mod (.blt .int [(.var 2)]) (.k (.int 2147483399))), (.ix (.var 0) (.k (.int 1)))])]) (.var 1))] [], .six 0 (.k (.int 2)) (.var 2)] [],
  .ifS (.cmp .Gt (.ix (.var 0) (.k (.int 2))) (.k (.int 0))) [.set (.nm 3) (.ix (.var 0) (.k (.int 2))), .six 0 (.k (.int 2)) (.bin .FloorDiv (.blt .int [(.var 3)]) (.var 1)), .ret (.bin .Mod (.blt .int [(.var 3)]) (.var 1))] [],
  .six 0 (.k (.int 3)) (.bin .Mod (.blt .int [(.bin .Add (.ix (.var 0) (.k (.int 3))) (.k (.int 1)))]) (.k (.int 2147483549))),
  .ret (.bin .Mod (.blt .int [(.call m [(.ix (.var 0) (.k (.int 3))), (.ix (.var 0) (.k (.int 1)))])]) (.var 1))]
def mixed (a b : Int) : Int :=
  let o := (a * 48271 + b * 7919 + 30011) % 2147483399
  let t := (o * o + b * 92821 + o / 131) % 2147483629
  ((t * 69621 + o / 13) % 2147483587) / 32
theorem mixed_ok (Φ : FEnv) (u : Nat) (g : Hand) {a b : Int} (a0 : -(2 ^ 90) < a) (a1 : a < 2 ^ 90) (b0 : -(2 ^ 90) < b) (b1 : b < 2 ^ 90) : runF Φ u 4 bMixed [.int a, .int b] g = .ret (.d (.int (mixed a b))) g := by
  have m1 : mulOk a 48271 = true := mulOk_100 (by omega) (by omega) (by decide) (by decide)
  have m2 : mulOk b 7919 = true := mulOk_100 (by omega) (by omega) (by decide) (by decide)
  have m3 : ∀ x : Int, mulOk (x % 2147483399) (x % 2147483399) = true := fun x => mulOk_100 (by omega) (by omega) (by omega) (by omega)
  have m4 : mulOk b 92821 = true := mulOk_100 (by omega) (by omega) (by decide) (by decide)
  have m5 : ∀ x : Int, mulOk (x % 2147483629) 69621 = true := fun x => mulOk_100 (by omega) (by omega) (by decide) (by decide)
  have d1 : divOk 131 = true := divOk_of (by decide) (by decide)
  have d2 : divOk 13 = true := divOk_of (by decide) (by decide)
  have d3 : divOk 32 = true := divOk_of (by decide) (by decide)
  simp [runF, bMixed, mul_int, fdiv_int, mod_int, m1, m2, m3, m4, m5, d1, d2, d3, mixed]
theorem mixed_0 (a b : Int) : 0 ≤ mixed a b := by
  unfold mixed
  simp only
  generalize (a * 48271 + b * 7919 + 30011) % 2147483399 = o
  generalize (o * o + b * 92821 + o / 131) % 2147483629 = t
  omega
/-- the hand, as it always is -/
structure HandInv (g : Hand) : Prop where
  len : g.cells.length ≤ 63
  pos : 0 ≤ g.ix
  lim : g.ix ≤ 63
  tot : -(2 ^ 80) < g.total ∧ g.total < 2 ^ 80
theorem hand0_inv {ns : List Int} (h : ns.length ≤ 63) : HandInv (hand0 ns) := by
  have t := handTot_lt ns ((ns.length : Int) + 37) (by omega) (by omega)
  have e : (hand0 ns).total = handTot ((ns.length : Int) + 37) ns := rfl
  refine ⟨by unfold hand0; rw [List.length_map]; exact h, ?_, ?_, ?_, ?_⟩
  · exact Int.le_refl _
  · show (0 : Int) ≤ 63; decide
  · rw [e]; omega
  · rw [e]; omega
theorem take_ok (Φ : FEnv) (u m : Nat) {g : Hand} {n : Int} (hm : ∀ (g : Hand) (a b : Int), -(2 ^ 90) < a → a < 2 ^ 90 → -(2 ^ 90) < b → b < 2 ^ 90 → Φ m [.int a, .int b] g = .ret (.d (.int (mixed a b))) g) (hg : HandInv g) (h0 : 0 < n) (h1 : n < 2 ^ 90) :
    ∃ r g', runF Φ u 4 (bTake m) [.hand, .int n] g = .ret (.d (.int r)) g' ∧ HandInv g' ∧ 0 ≤ r ∧ r < n := by
  obtain ⟨l, p, q, t1, t2⟩ := hg
  have dn : divOk n = true := divOk_of h0 (by omega)
  have pw : powOk 10 18 = true := by decide +kernel
  have ml : mulOk 1 1 = true := by decide +kernel
  obtain ⟨cells, ix, rest, total⟩ := g
  dsimp only at l p q t1 t2
  by_cases c1 : rest = 0 ∧ ix < (cells.length : Int)
  · obtain ⟨cr, ci⟩ := c1
    subst cr
    have hi : cells[ix.toNat]? = some (cells[ix.toNat]'(by omega)) := List.getElem?_eq_getElem (by omega)
    generalize cells[ix.toNat]'(by omega) = cell at hi
    have it : item (.lst (cells.map .int)) (.int ix) = some (.int cell) := item_lst p (by rw [List.getElem?_map, hi]; rfl)
    by_cases c2 : cell < 1000000000000000000
    · refine ⟨mixed (cell % 2147483399) (ix + 1) % n, ⟨cells, ix + 1, 0, total⟩, ?_, ⟨l, by show 0 ≤ ix + 1; omega, by show ix + 1 ≤ 63; omega, t1, t2⟩, Int.emod_nonneg _ (by omega), Int.emod_lt_of_pos _ h0⟩
      have hm' := hm ⟨cells, ix + 1, 0, total⟩ (cell % 2147483399) (ix + 1) (by omega) (by omega) (by omega) (by omega)
      simp [runF, bTake, it, mod_int, pow_int, pw, ci, c2, h0, hm']
    · refine ⟨cell % n, ⟨cells, ix + 1, cell / n, total⟩, ?_, ⟨l, by show 0 ≤ ix + 1; omega, by show ix + 1 ≤ 63; omega, t1, t2⟩, Int.emod_nonneg _ (by omega), Int.emod_lt_of_pos _ h0⟩
      have c3 : 0 < cell := by omega
      simp [runF, bTake, it, mod_int, fdiv_int, dn, pow_int, pw, ci, c2, c3, h0]
  · by_cases c2 : 0 < rest
    · refine ⟨rest % n, ⟨cells, ix, rest / n, total⟩, ?_, ⟨l, p, q, t1, t2⟩, Int.emod_nonneg _ (by omega), Int.emod_lt_of_pos _ h0⟩
      have c3 : ¬ rest = 0 := by omega
      simp [runF, bTake, mod_int, fdiv_int, dn, c2, c3, h0]
    · refine ⟨mixed ((total + 1) % 2147483549) ix % n, ⟨cells, ix, rest, (total + 1) % 2147483549⟩, ?_, ⟨l, p, q, by show -(2 ^ 80) < (total + 1) % 2147483549; omega, by show (total + 1) % 2147483549 < 2 ^ 80; omega⟩, Int.emod_nonneg _ (by omega), Int.emod_lt_of_pos _ h0⟩
      have hm' := hm ⟨cells, ix, rest, (total + 1) % 2147483549⟩ ((total + 1) % 2147483549) ix (by omega) (by omega) (by omega) (by omega)
      by_cases c3 : rest = 0
      · have c4 : ¬ ix < (cells.length : Int) := fun z => c1 ⟨c3, z⟩
        simp [runF, bTake, mod_int, c2, c3, c4, h0, hm']
        subst c3
        simp [hm', mod_int, h0]
      · simp [runF, bTake, mod_int, c2, c3, h0, hm']
end PD

set_option Elab.async false
set_option linter.all false
set_option maxRecDepth 100000
set_option maxHeartbeats 4000000
/-! the defs of threeshapes_k40_whole_woven_shapes_gone in the language. Printed by gen.py. -/
namespace K40
open PySem PySem.Spec PyProof.Rows L2 PD
def top (i : Nat) : Stmt := PySem.Challenge.pw_threeshapes_k40_whole_woven_shapes_gone.main.body.getD i (.Pass ⟨0, 0, 0, 0⟩)
/-! is_whole: 0 thing, 1 low, 2 high -/
def b_is_whole : List S := [
  .ifS (.or (.isi (.var 0) .bool) (.not (.isi (.var 0) .int))) [.ret (.k (.bl false))] [],
  .ifS (.and (.cmp .IsNot (.var 1) (.k (.non))) (.cmp .Lt (.var 0) (.var 1))) [.ret (.k (.bl false))] [],
  .ret (.or (.cmp .Is (.var 2) (.k (.non))) (.cmp .LtE (.var 0) (.var 2)))]
def N_is_whole : List Str := ["thing", "low", "high"]
abbrev s_is_whole : Stmt := top 5
def d_is_whole : Def := ⟨"is_whole", "is_whole", N_is_whole, ["thing", "low", "high"], [.non, .non], defScope s_is_whole, defBody s_is_whole, b_is_whole⟩
/-! is_sequence: 0 thing -/
def b_is_sequence : List S := [
  .ret (.or (.isi (.var 0) .list) (.isi (.var 0) .tuple))]
def N_is_sequence : List Str := ["thing"]
abbrev s_is_sequence : Stmt := top 6
def d_is_sequence : Def := ⟨"is_sequence", "is_sequence", N_is_sequence, ["thing"], [], defScope s_is_sequence, defBody s_is_sequence, b_is_sequence⟩
/-! parts_fault: 0 thing, 1 low, 2 part, 3 k -/
def b_parts_fault : List S := [
  .forS (.nm 2) .seq [(.var 0)] [.ifS (.not (.call 0 [(.var 2), (.var 1)])) [.ret (.k (.str "number"))] []],
  .forS (.nm 3) .rng [(.k (.int 1)), (.blt .len [(.var 0)])] [.ifS (.cmp .Gt (.ix (.var 0) (.var 3)) (.ix (.var 0) (.bin .Sub (.var 3) (.k (.int 1))))) [.ret (.k (.str "falling"))] []],
  .ret (.k (.non))]
def N_parts_fault : List Str := ["thing", "low", "part", "k"]
abbrev s_parts_fault : Stmt := top 8
def d_parts_fault : Def := ⟨"parts_fault", "parts_fault", N_parts_fault, ["thing", "low"], [], defScope s_parts_fault, defBody s_parts_fault, b_parts_fault⟩
/-! check_shape: 0 thing, 1 length, 2 most, 3 fault -/
def b_check_shape : List S := [
  .ifS (.or (.not (.call 1 [(.var 0)])) (.or (.cmp .Lt (.blt .len [(.var 0)]) (.k (.int 1))) (.cmp .Gt (.blt .len [(.var 0)]) (.var 2)))) [.bad] [],
  .ifS (.and (.cmp .IsNot (.var 1) (.k (.non))) (.cmp .NotEq (.blt .len [(.var 0)]) (.var 1))) [.bad] [],
  .set (.nm 3) (.call 2 [(.var 0), (.k (.int 0))]),
  .ifS (.cmp .IsNot (.var 3) (.k (.non))) [.bad] [],
  .ret (.blt .tuple [(.var 0)])]
def N_check_shape : List Str := ["thing", "length", "most", "fault"]
abbrev s_check_shape : Stmt := top 9
def d_check_shape : Def := ⟨"check_shape", "check_shape", N_check_shape, ["thing", "length", "most"], [.non, .int 4], defScope s_check_shape, defBody s_check_shape, b_check_shape⟩
/-! first_unwoven: 0 shape, 1 part, 2 shift, 3 i -/
def b_first_unwoven : List S := [
  .set (.nm 2) (.bin .Sub (.blt .len [(.var 0)]) (.blt .len [(.var 1)])),
  .forS (.nm 3) .rng [(.blt .len [(.var 1)])] [.ifS (.or (.cmp .Lt (.ix (.var 1) (.var 3)) (.ix (.var 0) (.bin .Add (.var 2) (.var 3)))) (.cmp .Gt (.ix (.var 1) (.var 3)) (.ix (.var 0) (.var 3)))) [.ret (.var 3)] []],
  .ret (.k (.non))]
def N_first_unwoven : List Str := ["shape", "part", "shift", "i"]
abbrev s_first_unwoven : Stmt := top 11
def d_first_unwoven : Def := ⟨"first_unwoven", "first_unwoven", N_first_unwoven, ["shape", "part"], [], defScope s_first_unwoven, defBody s_first_unwoven, b_first_unwoven⟩
/-! unwoven_place: 0 shape, 1 part -/
def b_unwoven_place : List S := [
  .set (.nm 0) (.call 3 [(.var 0)]),
  .set (.nm 1) (.call 3 [(.var 1)]),
  .ifS (.cmp .Gt (.blt .len [(.var 1)]) (.blt .len [(.var 0)])) [.bad] [],
  .ret (.call 4 [(.var 0), (.var 1)])]
def N_unwoven_place : List Str := ["shape", "part"]
abbrev s_unwoven_place : Stmt := top 12
def d_unwoven_place : Def := ⟨"unwoven_place", "unwoven_place", N_unwoven_place, ["shape", "part"], [], defScope s_unwoven_place, defBody s_unwoven_place, b_unwoven_place⟩
/-! is_woven: 0 shape, 1 part -/
def b_is_woven : List S := [
  .ret (.cmp .Is (.call 5 [(.var 0), (.var 1)]) (.k (.non)))]
def N_is_woven : List Str := ["shape", "part"]
abbrev s_is_woven : Stmt := top 13
def d_is_woven : Def := ⟨"is_woven", "is_woven", N_is_woven, ["shape", "part"], [], defScope s_is_woven, defBody s_is_woven, b_is_woven⟩
/-! check_many: 0 shape, 1 many -/
def b_check_many : List S := [
  .ifS (.not (.call 0 [(.var 1), (.k (.int 1)), (.blt .len [(.var 0)])])) [.bad] [],
  .ret (.var 1)]
def N_check_many : List Str := ["shape", "many"]
abbrev s_check_many : Stmt := top 14
def d_check_many : Def := ⟨"check_many", "check_many", N_check_many, ["shape", "many"], [], defScope s_check_many, defBody s_check_many, b_check_many⟩
/-! falling_rows: 0 bounds, 1 told, 2 low, 3 high, 4 longer, 5 row, 6 top, 7 number -/
def b_falling_rows : List S := [
  .set (.nm 1) (.lst [(.tup [])]),
  .forS (.tp [2, 3]) .seq [(.var 0)] [.set (.nm 4) (.lst []), .forS (.nm 5) .seq [(.var 1)] [.set (.nm 6) (.ife (.cmp .Gt (.blt .len [(.var 5)]) (.k (.int 0))) (.blt .min [(.var 3), (.ix (.var 5) (.neg (.k (.int 1))))]) (.var 3)), .ext 4 (.comp [7] (.nm 7) .rng [(.var 2), (.bin .Add (.var 6) (.k (.int 1)))] none (.bin .Add (.var 5) (.tup [(.var 7)])))], .set (.nm 1) (.blt .list [(.var 4)])],
  .ret (.blt .tuple [(.var 1)])]
def N_falling_rows : List Str := ["bounds", "told", "low", "high", "longer", "row", "top", "number"]
abbrev s_falling_rows : Stmt := top 15
def d_falling_rows : Def := ⟨"falling_rows", "falling_rows", N_falling_rows, ["bounds"], [], defScope s_falling_rows, defBody s_falling_rows, b_falling_rows⟩
/-! woven_shapes: 0 shape, 1 many, 2 shift, 3 i -/
def b_woven_shapes : List S := [
  .set (.nm 0) (.call 3 [(.var 0)]),
  .exp (.call 7 [(.var 0), (.var 1)]),
  .set (.nm 2) (.bin .Sub (.blt .len [(.var 0)]) (.var 1)),
  .ret (.call 8 [(.comp [3] (.nm 3) .rng [(.var 1)] none (.tup [(.ix (.var 0) (.bin .Add (.var 2) (.var 3))), (.ix (.var 0) (.var 3))]))])]
def N_woven_shapes : List Str := ["shape", "many", "shift", "i"]
abbrev s_woven_shapes : Stmt := top 16
def d_woven_shapes : Def := ⟨"woven_shapes", "woven_shapes", N_woven_shapes, ["shape", "many"], [], defScope s_woven_shapes, defBody s_woven_shapes, b_woven_shapes⟩
/-! count_woven: 0 shape, 1 many, 2 shift, 3 told, 4 i, 5 wide -/
def b_count_woven : List S := [
  .set (.nm 0) (.call 3 [(.var 0)]),
  .exp (.call 7 [(.var 0), (.var 1)]),
  .set (.nm 2) (.bin .Sub (.blt .len [(.var 0)]) (.var 1)),
  .set (.nm 3) (.k (.int 1)),
  .forS (.nm 4) .rng [(.var 1)] [.set (.nm 3) (.bin .Mult (.var 3) (.bin .Add (.bin .Sub (.ix (.var 0) (.var 4)) (.ix (.var 0) (.bin .Add (.var 2) (.var 4)))) (.k (.int 1))))],
  .ifS (.and (.cmp .Eq (.var 1) (.k (.int 2))) (.cmp .Eq (.var 2) (.k (.int 2)))) [.set (.nm 5) (.bin .Add (.bin .Sub (.ix (.var 0) (.k (.int 1))) (.ix (.var 0) (.k (.int 2)))) (.k (.int 1))), .set (.nm 3) (.bin .Sub (.var 3) (.bin .FloorDiv (.bin .Mult (.var 5) (.bin .Sub (.var 5) (.k (.int 1)))) (.k (.int 2))))] [],
  .ret (.var 3)]
def N_count_woven : List Str := ["shape", "many", "shift", "told", "i", "wide"]
abbrev s_count_woven : Stmt := top 17
def d_count_woven : Def := ⟨"count_woven", "count_woven", N_count_woven, ["shape", "many"], [], defScope s_count_woven, defBody s_count_woven, b_count_woven⟩
/-! _law_mixed: 0 _law_number_here, 1 _law_turn, 2 _law_once, 3 _law_twice -/
def b_law_mixed : List S := [
  .set (.nm 2) (.bin .Mod (.blt .int [(.bin .Add (.bin .Add (.bin .Mult (.var 0) (.k (.int 48271))) (.bin .Mult (.var 1) (.k (.int 7919)))) (.k (.int 30011)))]) (.k (.int 2147483399))),
  .set (.nm 3) (.bin .Mod (.blt .int [(.bin .Add (.bin .Add (.bin .Mult (.var 2) (.var 2)) (.bin .Mult (.var 1) (.k (.int 92821)))) (.bin .FloorDiv (.var 2) (.k (.int 131))))]) (.k (.int 2147483629))),
  .ret (.bin .FloorDiv (.blt .int [(.bin .Mod (.blt .int [(.bin .Add (.bin .Mult (.var 3) (.k (.int 69621))) (.bin .FloorDiv (.var 2) (.k (.int 13))))]) (.k (.int 2147483587)))]) (.k (.int 32)))]
def N_law_mixed : List Str := ["_law_number_here", "_law_turn", "_law_once", "_law_twice"]
abbrev s_law_mixed : Stmt := top 20
def d_law_mixed : Def := ⟨"_law_mixed", "_law_mixed", N_law_mixed, ["_law_number_here", "_law_turn"], [], defScope s_law_mixed, defBody s_law_mixed, b_law_mixed⟩
/-! _law_take: 0 _law_hand_here, 1 _law_many_here, 2 _law_cell, 3 _law_rest -/
def b_law_take : List S := [
  .ifS (.and (.cmp .Eq (.ix (.var 0) (.k (.int 2))) (.k (.int 0))) (.cmp .Lt (.ix (.var 0) (.k (.int 1))) (.blt .len [(.ix (.var 0) (.k (.int 0)))]))) [.set (.nm 2) (.ix (.ix (.var 0) (.k (.int 0))) (.ix (.var 0) (.k (.int 1)))), .six 0 (.k (.int 1)) (.bin .Add (.ix (.var 0) (.k (.int 1))) (.k (.int 1))), .ifS (.cmp .Lt (.var 2) (.bin .Pow (.k (.int 10)) (.k (.int 18)))) [.ret (.bin .Mod (.blt .int [(.call 11 [(.bin .Mod (.blt .int [(.var 2)]) (.k (.int 2147483399))), (.ix (.var 0) (.k (.int 1)))])]) (.var 1))] [], .six 0 (.k (.int 2)) (.var 2)] [],
  .ifS (.cmp .Gt (.ix (.var 0) (.k (.int 2))) (.k (.int 0))) [.set (.nm 3) (.ix (.var 0) (.k (.int 2))), .six 0 (.k (.int 2)) (.bin .FloorDiv (.blt .int [(.var 3)]) (.var 1)), .ret (.bin .Mod (.blt .int [(.var 3)]) (.var 1))] [],
  .six 0 (.k (.int 3)) (.bin .Mod (.blt .int [(.bin .Add (.ix (.var 0) (.k (.int 3))) (.k (.int 1)))]) (.k (.int 2147483549))),
  .ret (.bin .Mod (.blt .int [(.call 11 [(.ix (.var 0) (.k (.int 3))), (.ix (.var 0) (.k (.int 1)))])]) (.var 1))]
def N_law_take : List Str := ["_law_hand_here", "_law_many_here", "_law_cell", "_law_rest"]
abbrev s_law_take : Stmt := top 21
def d_law_take : Def := ⟨"_law_take", "_law_take", N_law_take, ["_law_hand_here", "_law_many_here"], [], defScope s_law_take, defBody s_law_take, b_law_take⟩
/-! _law_many: 0 _law_hand_here -/
def b_law_many : List S := [
  .ret (.ix (.tup [(.k (.int 2)), (.k (.int 3)), (.k (.int 2)), (.k (.int 3)), (.k (.int 3)), (.k (.int 1)), (.k (.int 4)), (.k (.int 2))]) (.call 12 [(.var 0), (.k (.int 8))]))]
def N_law_many : List Str := ["_law_hand_here"]
abbrev s_law_many : Stmt := top 22
def d_law_many : Def := ⟨"_law_many", "_law_many", N_law_many, ["_law_hand_here"], [], defScope s_law_many, defBody s_law_many, b_law_many⟩
/-! _law_parts: 0 _law_hand_here, 1 _law_many_here, 2 _law_most, 3 _law_k -/
def b_law_parts : List S := [
  .ret (.blt .tuple [(.rvs (.blt .sorted [(.comp [3] (.nm 3) .rng [(.var 1)] none (.call 12 [(.var 0), (.bin .Add (.var 2) (.k (.int 1)))]))]))])]
def N_law_parts : List Str := ["_law_hand_here", "_law_many_here", "_law_most", "_law_k"]
abbrev s_law_parts : Stmt := top 23
def d_law_parts : Def := ⟨"_law_parts", "_law_parts", N_law_parts, ["_law_hand_here", "_law_many_here", "_law_most"], [], defScope s_law_parts, defBody s_law_parts, b_law_parts⟩
/-! _law_row: 0 _law_hand_here, 1 _law_items -/
def b_law_row : List S := [
  .ret (.ife (.call 12 [(.var 0), (.k (.int 2))]) (.blt .list [(.var 1)]) (.blt .tuple [(.var 1)]))]
def N_law_row : List Str := ["_law_hand_here", "_law_items"]
abbrev s_law_row : Stmt := top 24
def d_law_row : Def := ⟨"_law_row", "_law_row", N_law_row, ["_law_hand_here", "_law_items"], [], defScope s_law_row, defBody s_law_row, b_law_row⟩
/-! _law_int: 0 _law_thing -/
def b_law_int : List S := [
  .ret (.and (.isi (.var 0) .int) (.not (.isi (.var 0) .bool)))]
def N_law_int : List Str := ["_law_thing"]
abbrev s_law_int : Stmt := top 25
def d_law_int : Def := ⟨"_law_int", "_law_int", N_law_int, ["_law_thing"], [], defScope s_law_int, defBody s_law_int, b_law_int⟩
/-! _law_plain: 0 _law_thing, 1 _law_item -/
def b_law_plain : List S := [
  .ifS (.isi (.var 0) .tuple) [.forS (.nm 1) .seq [(.var 0)] [.ifS (.not (.call 17 [(.var 1)])) [.ret (.k (.bl false))] []], .ret (.k (.bl true))] [],
  .ret (.call 16 [(.var 0)])]
def N_law_plain : List Str := ["_law_thing", "_law_item"]
abbrev s_law_plain : Stmt := top 26
def d_law_plain : Def := ⟨"_law_plain", "_law_plain", N_law_plain, ["_law_thing"], [], defScope s_law_plain, defBody s_law_plain, b_law_plain⟩
/-! _law_falls: 0 _law_many_here, 1 _law_most, 2 _law_rows, 3 _law_k, 4 _law_grown, 5 _law_row_here, 6 _law_x -/
def b_law_falls : List S := [
  .set (.nm 2) (.lst [(.tup [])]),
  .forS (.nm 3) .rng [(.var 0)] [.set (.nm 4) (.lst []), .forS (.nm 5) .seq [(.var 2)] [.set (.nm 4) (.bin .Add (.var 4) (.comp [6] (.nm 6) .rng [(.bin .Add (.ife (.var 5) (.ix (.var 5) (.neg (.k (.int 1)))) (.var 1)) (.k (.int 1)))] none (.bin .Add (.var 5) (.tup [(.var 6)]))))], .set (.nm 2) (.var 4)],
  .ret (.var 2)]
def N_law_falls : List Str := ["_law_many_here", "_law_most", "_law_rows", "_law_k", "_law_grown", "_law_row_here", "_law_x"]
abbrev s_law_falls : Stmt := top 27
def d_law_falls : Def := ⟨"_law_falls", "_law_falls", N_law_falls, ["_law_many_here", "_law_most"], [], defScope s_law_falls, defBody s_law_falls, b_law_falls⟩
/-! _law_unwoven: 0 _law_shape, 1 _law_part, 2 _law_i -/
def b_law_unwoven : List S := [
  .forS (.nm 2) .rng [(.blt .len [(.var 1)])] [.ifS (.not (.chain .LtE .LtE (.ix (.var 0) (.bin .Add (.bin .Sub (.blt .len [(.var 0)]) (.blt .len [(.var 1)])) (.var 2))) (.ix (.var 1) (.var 2)) (.ix (.var 0) (.var 2)))) [.ret (.var 2)] []],
  .ret (.k (.non))]
def N_law_unwoven : List Str := ["_law_shape", "_law_part", "_law_i"]
abbrev s_law_unwoven : Stmt := top 28
def d_law_unwoven : Def := ⟨"_law_unwoven", "_law_unwoven", N_law_unwoven, ["_law_shape", "_law_part"], [], defScope s_law_unwoven, defBody s_law_unwoven, b_law_unwoven⟩
/-! _law_woven: 0 _law_shape, 1 _law_many_here, 2 _law_part -/
def b_law_woven : List S := [
  .ret (.comp [2] (.nm 2) .seq [(.call 18 [(.var 1), (.ix (.var 0) (.k (.int 0)))])] (some (.cmp .Is (.call 19 [(.var 0), (.var 2)]) (.k (.non)))) (.var 2))]
def N_law_woven : List Str := ["_law_shape", "_law_many_here", "_law_part"]
abbrev s_law_woven : Stmt := top 29
def d_law_woven : Def := ⟨"_law_woven", "_law_woven", N_law_woven, ["_law_shape", "_law_many_here"], [], defScope s_law_woven, defBody s_law_woven, b_law_woven⟩
/-! _law_number: 0 _law_shape, 1 _law_many_here, 2 _law_bounds, 3 _law_low, 4 _law_told, 5 _law_high, 6 _law_i -/
def b_law_number : List S := [
  .set (.nm 2) (.comp [6] (.nm 6) .rng [(.var 1)] none (.tup [(.ix (.var 0) (.bin .Add (.bin .Sub (.blt .len [(.var 0)]) (.var 1)) (.var 6))), (.ix (.var 0) (.var 6))])),
  .ifS (.and (.cmp .Eq (.var 1) (.k (.int 2))) (.cmp .Eq (.blt .len [(.var 0)]) (.k (.int 4)))) [.set (.nm 3) (.bin .Mult (.bin .Add (.bin .Sub (.ix (.var 0) (.k (.int 2))) (.ix (.var 0) (.k (.int 3)))) (.k (.int 1))) (.bin .Add (.bin .Sub (.ix (.var 0) (.k (.int 0))) (.ix (.var 0) (.k (.int 2)))) (.k (.int 1)))), .ret (.bin .Add (.var 3) (.bin .FloorDiv (.bin .Mult (.bin .Sub (.ix (.var 0) (.k (.int 1))) (.ix (.var 0) (.k (.int 2)))) (.bin .Add (.bin .Sub (.bin .Add (.bin .Sub (.ix (.var 0) (.k (.int 0))) (.ix (.var 0) (.k (.int 2)))) (.ix (.var 0) (.k (.int 0)))) (.ix (.var 0) (.k (.int 1)))) (.k (.int 1)))) (.k (.int 2))))] [],
  .set (.nm 4) (.k (.int 1)),
  .forS (.tp [3, 5]) .seq [(.var 2)] [.set (.nm 4) (.bin .Mult (.var 4) (.bin .Add (.bin .Sub (.var 5) (.var 3)) (.k (.int 1))))],
  .ret (.var 4)]
def N_law_number : List Str := ["_law_shape", "_law_many_here", "_law_bounds", "_law_low", "_law_told", "_law_high", "_law_i"]
abbrev s_law_number : Stmt := top 30
def d_law_number : Def := ⟨"_law_number", "_law_number", N_law_number, ["_law_shape", "_law_many_here"], [], defScope s_law_number, defBody s_law_number, b_law_number⟩
/-! _law_part_right: 0 _law_shape, 1 _law_passed, 2 _law_part, 3 _law_due, 4 _law_told, 5 _law_place -/
def b_law_part_right : List S := [
  .set (.nm 3) (.call 19 [(.var 0), (.var 2)]),
  .set (.nm 4) (.call 6 [(.var 1), (.var 2)]),
  .set (.nm 5) (.call 5 [(.var 1), (.blt .list [(.var 2)])]),
  .ifS (.or (.not (.isi (.var 4) .bool)) (.cmp .NotEq (.var 4) (.cmp .Is (.var 3) (.k (.non))))) [.ret (.k (.bl false))] [],
  .ifS (.cmp .Is (.var 3) (.k (.non))) [.ret (.cmp .Is (.var 5) (.k (.non)))] [],
  .ret (.and (.call 16 [(.var 5)]) (.cmp .Eq (.var 5) (.var 3)))]
def N_law_part_right : List Str := ["_law_shape", "_law_passed", "_law_part", "_law_due", "_law_told", "_law_place"]
abbrev s_law_part_right : Stmt := top 31
def d_law_part_right : Def := ⟨"_law_part_right", "_law_part_right", N_law_part_right, ["_law_shape", "_law_passed", "_law_part"], [], defScope s_law_part_right, defBody s_law_part_right, b_law_part_right⟩
/-! law: 0 _law_script, 1 _law_hand_here, 2 _law_many_here, 3 _law_shape, 4 _law_passed, 5 _law_size, 6 _law_part, 7 _law_due, 8 _law_told, 9 _law_number_here, 10 _law_great, 11 _law_k -/
def b_law : List S := [
  .set (.nm 2) (.call 13 [(.var 1)]),
  .set (.nm 3) (.call 14 [(.var 1), (.var 2), (.ife (.cmp .Eq (.call 12 [(.var 1), (.k (.int 8))]) (.k (.int 7))) (.k (.int 7)) (.k (.int 4)))]),
  .set (.nm 4) (.call 15 [(.var 1), (.var 3)]),
  .forS (.nm 5) .rng [(.k (.int 1)), (.bin .Add (.var 2) (.k (.int 1)))] [.forS (.nm 6) .seq [(.call 18 [(.var 5), (.bin .Add (.ix (.var 3) (.k (.int 0))) (.k (.int 1)))])] [.ifS (.not (.call 22 [(.var 3), (.var 4), (.var 6)])) [.ret (.k (.bl false))] []], .set (.nm 7) (.call 20 [(.var 3), (.var 5)]), .set (.nm 8) (.call 9 [(.var 4), (.var 5)]), .ifS (.or (.not (.call 17 [(.var 8)])) (.cmp .NotEq (.var 8) (.blt .tuple [(.var 7)]))) [.ret (.k (.bl false))] [], .set (.nm 9) (.call 10 [(.var 4), (.var 5)]), .ifS (.or (.not (.call 16 [(.var 9)])) (.or (.cmp .NotEq (.var 9) (.blt .len [(.var 7)])) (.cmp .NotEq (.var 9) (.call 21 [(.var 3), (.var 5)])))) [.ret (.k (.bl false))] []],
  .ifS (.cmp .NotEq (.blt .tuple [(.var 4)]) (.var 3)) [.ret (.k (.bl false))] [],
  .set (.nm 10) (.blt .tuple [(.rvs (.blt .sorted [(.comp [11] (.nm 11) .rng [(.call 13 [(.var 1)])] none (.call 12 [(.var 1), (.bin .Add (.bin .Pow (.k (.int 10)) (.k (.int 12))) (.k (.int 1)))]))]))]),
  .forS (.nm 5) .rng [(.k (.int 1)), (.bin .Add (.blt .len [(.var 10)]) (.k (.int 1)))] [.set (.nm 9) (.call 10 [(.call 15 [(.var 1), (.var 10)]), (.var 5)]), .ifS (.or (.not (.call 16 [(.var 9)])) (.cmp .NotEq (.var 9) (.call 21 [(.var 10), (.var 5)]))) [.ret (.k (.bl false))] []],
  .ret (.k (.bl true))]
def N_law : List Str := ["_law_script", "_law_hand_here", "_law_many_here", "_law_shape", "_law_passed", "_law_size", "_law_part", "_law_due", "_law_told", "_law_number_here", "_law_great", "_law_k"]
abbrev s_law : Stmt := top 32
abbrev s_law_hand : Stmt := top 19
def defs : List Def := [d_is_whole, d_is_sequence, d_parts_fault, d_check_shape, d_first_unwoven, d_unwoven_place, d_is_woven, d_check_many, d_falling_rows, d_woven_shapes, d_count_woven, d_law_mixed, d_law_take, d_law_many, d_law_parts, d_law_row, d_law_int, d_law_plain, d_law_falls, d_law_unwoven, d_law_woven, d_law_number, d_law_part_right]
def bl : List Str := ["isinstance", "bool", "int", "list", "tuple", "len", "range", "min", "sorted"]
def nm : Nm := ⟨[("is_whole", 3, 0), ("is_whole", 2, 0), ("is_whole", 1, 0), ("is_sequence", 1, 1), ("parts_fault", 2, 2), ("check_shape", 3, 3), ("check_shape", 2, 3), ("check_shape", 1, 3), ("first_unwoven", 2, 4), ("unwoven_place", 2, 5), ("is_woven", 2, 6), ("check_many", 2, 7), ("falling_rows", 1, 8), ("woven_shapes", 2, 9), ("count_woven", 2, 10), ("_law_mixed", 2, 11), ("_law_take", 2, 12), ("_law_many", 1, 13), ("_law_parts", 3, 14), ("_law_row", 2, 15), ("_law_int", 1, 16), ("_law_plain", 1, 17), ("_law_falls", 2, 18), ("_law_unwoven", 2, 19), ("_law_woven", 2, 20), ("_law_number", 2, 21), ("_law_part_right", 3, 22)], bl⟩
theorem nm_eq : nmOf defs bl = nm := by kernel_rfl
theorem c_is_whole : compB nm N_is_whole (compE nm N_is_whole 40) (defScope s_is_whole) 40 (defBody s_is_whole) = some b_is_whole := by kernel_rfl
theorem c_is_sequence : compB nm N_is_sequence (compE nm N_is_sequence 40) (defScope s_is_sequence) 40 (defBody s_is_sequence) = some b_is_sequence := by kernel_rfl
theorem c_parts_fault : compB nm N_parts_fault (compE nm N_parts_fault 40) (defScope s_parts_fault) 40 (defBody s_parts_fault) = some b_parts_fault := by kernel_rfl
theorem c_check_shape : compB nm N_check_shape (compE nm N_check_shape 40) (defScope s_check_shape) 40 (defBody s_check_shape) = some b_check_shape := by kernel_rfl
theorem c_first_unwoven : compB nm N_first_unwoven (compE nm N_first_unwoven 40) (defScope s_first_unwoven) 40 (defBody s_first_unwoven) = some b_first_unwoven := by kernel_rfl
theorem c_unwoven_place : compB nm N_unwoven_place (compE nm N_unwoven_place 40) (defScope s_unwoven_place) 40 (defBody s_unwoven_place) = some b_unwoven_place := by kernel_rfl
theorem c_is_woven : compB nm N_is_woven (compE nm N_is_woven 40) (defScope s_is_woven) 40 (defBody s_is_woven) = some b_is_woven := by kernel_rfl
theorem c_check_many : compB nm N_check_many (compE nm N_check_many 40) (defScope s_check_many) 40 (defBody s_check_many) = some b_check_many := by kernel_rfl
theorem c_falling_rows : compB nm N_falling_rows (compE nm N_falling_rows 40) (defScope s_falling_rows) 40 (defBody s_falling_rows) = some b_falling_rows := by kernel_rfl
theorem c_woven_shapes : compB nm N_woven_shapes (compE nm N_woven_shapes 40) (defScope s_woven_shapes) 40 (defBody s_woven_shapes) = some b_woven_shapes := by kernel_rfl
theorem c_count_woven : compB nm N_count_woven (compE nm N_count_woven 40) (defScope s_count_woven) 40 (defBody s_count_woven) = some b_count_woven := by kernel_rfl
theorem c_law_mixed : compB nm N_law_mixed (compE nm N_law_mixed 40) (defScope s_law_mixed) 40 (defBody s_law_mixed) = some b_law_mixed := by kernel_rfl
theorem c_law_take : compB nm N_law_take (compE nm N_law_take 40) (defScope s_law_take) 40 (defBody s_law_take) = some b_law_take := by kernel_rfl
theorem c_law_many : compB nm N_law_many (compE nm N_law_many 40) (defScope s_law_many) 40 (defBody s_law_many) = some b_law_many := by kernel_rfl
theorem c_law_parts : compB nm N_law_parts (compE nm N_law_parts 40) (defScope s_law_parts) 40 (defBody s_law_parts) = some b_law_parts := by kernel_rfl
theorem c_law_row : compB nm N_law_row (compE nm N_law_row 40) (defScope s_law_row) 40 (defBody s_law_row) = some b_law_row := by kernel_rfl
theorem c_law_int : compB nm N_law_int (compE nm N_law_int 40) (defScope s_law_int) 40 (defBody s_law_int) = some b_law_int := by kernel_rfl
theorem c_law_plain : compB nm N_law_plain (compE nm N_law_plain 40) (defScope s_law_plain) 40 (defBody s_law_plain) = some b_law_plain := by kernel_rfl
theorem c_law_falls : compB nm N_law_falls (compE nm N_law_falls 40) (defScope s_law_falls) 40 (defBody s_law_falls) = some b_law_falls := by kernel_rfl
theorem c_law_unwoven : compB nm N_law_unwoven (compE nm N_law_unwoven 40) (defScope s_law_unwoven) 40 (defBody s_law_unwoven) = some b_law_unwoven := by kernel_rfl
theorem c_law_woven : compB nm N_law_woven (compE nm N_law_woven 40) (defScope s_law_woven) 40 (defBody s_law_woven) = some b_law_woven := by kernel_rfl
theorem c_law_number : compB nm N_law_number (compE nm N_law_number 40) (defScope s_law_number) 40 (defBody s_law_number) = some b_law_number := by kernel_rfl
theorem c_law_part_right : compB nm N_law_part_right (compE nm N_law_part_right 40) (defScope s_law_part_right) 40 (defBody s_law_part_right) = some b_law_part_right := by kernel_rfl
theorem c_law : compB nm N_law (compE nm N_law 40) (defScope s_law) 40 ((defBody s_law).tail) = some b_law := by kernel_rfl
theorem f_is_whole : FnScope N_is_whole ["thing", "low", "high"] (defScope s_is_whole) := ⟨rfl, rfl, rfl, by decide +kernel, rfl, by decide +kernel, by decide +kernel⟩
theorem f_is_sequence : FnScope N_is_sequence ["thing"] (defScope s_is_sequence) := ⟨rfl, rfl, rfl, by decide +kernel, rfl, by decide +kernel, by decide +kernel⟩
theorem f_parts_fault : FnScope N_parts_fault ["thing", "low"] (defScope s_parts_fault) := ⟨rfl, rfl, rfl, by decide +kernel, rfl, by decide +kernel, by decide +kernel⟩
theorem f_check_shape : FnScope N_check_shape ["thing", "length", "most"] (defScope s_check_shape) := ⟨rfl, rfl, rfl, by decide +kernel, rfl, by decide +kernel, by decide +kernel⟩
theorem f_first_unwoven : FnScope N_first_unwoven ["shape", "part"] (defScope s_first_unwoven) := ⟨rfl, rfl, rfl, by decide +kernel, rfl, by decide +kernel, by decide +kernel⟩
theorem f_unwoven_place : FnScope N_unwoven_place ["shape", "part"] (defScope s_unwoven_place) := ⟨rfl, rfl, rfl, by decide +kernel, rfl, by decide +kernel, by decide +kernel⟩
theorem f_is_woven : FnScope N_is_woven ["shape", "part"] (defScope s_is_woven) := ⟨rfl, rfl, rfl, by decide +kernel, rfl, by decide +kernel, by decide +kernel⟩
theorem f_check_many : FnScope N_check_many ["shape", "many"] (defScope s_check_many) := ⟨rfl, rfl, rfl, by decide +kernel, rfl, by decide +kernel, by decide +kernel⟩
theorem f_falling_rows : FnScope N_falling_rows ["bounds"] (defScope s_falling_rows) := ⟨rfl, rfl, rfl, by decide +kernel, rfl, by decide +kernel, by decide +kernel⟩
theorem f_woven_shapes : FnScope N_woven_shapes ["shape", "many"] (defScope s_woven_shapes) := ⟨rfl, rfl, rfl, by decide +kernel, rfl, by decide +kernel, by decide +kernel⟩
theorem f_count_woven : FnScope N_count_woven ["shape", "many"] (defScope s_count_woven) := ⟨rfl, rfl, rfl, by decide +kernel, rfl, by decide +kernel, by decide +kernel⟩
theorem f_law_mixed : FnScope N_law_mixed ["_law_number_here", "_law_turn"] (defScope s_law_mixed) := ⟨rfl, rfl, rfl, by decide +kernel, rfl, by decide +kernel, by decide +kernel⟩
theorem f_law_take : FnScope N_law_take ["_law_hand_here", "_law_many_here"] (defScope s_law_take) := ⟨rfl, rfl, rfl, by decide +kernel, rfl, by decide +kernel, by decide +kernel⟩
theorem f_law_many : FnScope N_law_many ["_law_hand_here"] (defScope s_law_many) := ⟨rfl, rfl, rfl, by decide +kernel, rfl, by decide +kernel, by decide +kernel⟩
theorem f_law_parts : FnScope N_law_parts ["_law_hand_here", "_law_many_here", "_law_most"] (defScope s_law_parts) := ⟨rfl, rfl, rfl, by decide +kernel, rfl, by decide +kernel, by decide +kernel⟩
theorem f_law_row : FnScope N_law_row ["_law_hand_here", "_law_items"] (defScope s_law_row) := ⟨rfl, rfl, rfl, by decide +kernel, rfl, by decide +kernel, by decide +kernel⟩
theorem f_law_int : FnScope N_law_int ["_law_thing"] (defScope s_law_int) := ⟨rfl, rfl, rfl, by decide +kernel, rfl, by decide +kernel, by decide +kernel⟩
theorem f_law_plain : FnScope N_law_plain ["_law_thing"] (defScope s_law_plain) := ⟨rfl, rfl, rfl, by decide +kernel, rfl, by decide +kernel, by decide +kernel⟩
theorem f_law_falls : FnScope N_law_falls ["_law_many_here", "_law_most"] (defScope s_law_falls) := ⟨rfl, rfl, rfl, by decide +kernel, rfl, by decide +kernel, by decide +kernel⟩
theorem f_law_unwoven : FnScope N_law_unwoven ["_law_shape", "_law_part"] (defScope s_law_unwoven) := ⟨rfl, rfl, rfl, by decide +kernel, rfl, by decide +kernel, by decide +kernel⟩
theorem f_law_woven : FnScope N_law_woven ["_law_shape", "_law_many_here"] (defScope s_law_woven) := ⟨rfl, rfl, rfl, by decide +kernel, rfl, by decide +kernel, by decide +kernel⟩
theorem f_law_number : FnScope N_law_number ["_law_shape", "_law_many_here"] (defScope s_law_number) := ⟨rfl, rfl, rfl, by decide +kernel, rfl, by decide +kernel, by decide +kernel⟩
theorem f_law_part_right : FnScope N_law_part_right ["_law_shape", "_law_passed", "_law_part"] (defScope s_law_part_right) := ⟨rfl, rfl, rfl, by decide +kernel, rfl, by decide +kernel, by decide +kernel⟩
theorem f_law : FnScope N_law ["_law_script"] (defScope s_law) := ⟨rfl, rfl, rfl, by decide +kernel, rfl, by decide +kernel, by decide +kernel⟩
theorem p_is_whole_1 (k : Nat) (x0 : D) (g : Hand) : phi defs 0 (k + 1) 0 [x0] g = runF (phi defs 0 k) 0 3 b_is_whole [x0, .non, .non] g := rfl
theorem p_is_whole_2 (k : Nat) (x0 x1 : D) (g : Hand) : phi defs 0 (k + 1) 0 [x0, x1] g = runF (phi defs 0 k) 0 3 b_is_whole [x0, x1, .non] g := rfl
theorem p_is_whole_3 (k : Nat) (x0 x1 x2 : D) (g : Hand) : phi defs 0 (k + 1) 0 [x0, x1, x2] g = runF (phi defs 0 k) 0 3 b_is_whole [x0, x1, x2] g := rfl
theorem p_is_sequence_1 (k : Nat) (x0 : D) (g : Hand) : phi defs 0 (k + 1) 1 [x0] g = runF (phi defs 0 k) 0 1 b_is_sequence [x0] g := rfl
theorem p_parts_fault_2 (k : Nat) (x0 x1 : D) (g : Hand) : phi defs 0 (k + 1) 2 [x0, x1] g = runF (phi defs 0 k) 0 4 b_parts_fault [x0, x1] g := rfl
theorem p_check_shape_1 (k : Nat) (x0 : D) (g : Hand) : phi defs 0 (k + 1) 3 [x0] g = runF (phi defs 0 k) 0 4 b_check_shape [x0, .non, .int 4] g := rfl
theorem p_check_shape_2 (k : Nat) (x0 x1 : D) (g : Hand) : phi defs 0 (k + 1) 3 [x0, x1] g = runF (phi defs 0 k) 0 4 b_check_shape [x0, x1, .int 4] g := rfl
theorem p_check_shape_3 (k : Nat) (x0 x1 x2 : D) (g : Hand) : phi defs 0 (k + 1) 3 [x0, x1, x2] g = runF (phi defs 0 k) 0 4 b_check_shape [x0, x1, x2] g := rfl
theorem p_first_unwoven_2 (k : Nat) (x0 x1 : D) (g : Hand) : phi defs 0 (k + 1) 4 [x0, x1] g = runF (phi defs 0 k) 0 4 b_first_unwoven [x0, x1] g := rfl
theorem p_unwoven_place_2 (k : Nat) (x0 x1 : D) (g : Hand) : phi defs 0 (k + 1) 5 [x0, x1] g = runF (phi defs 0 k) 0 2 b_unwoven_place [x0, x1] g := rfl
theorem p_is_woven_2 (k : Nat) (x0 x1 : D) (g : Hand) : phi defs 0 (k + 1) 6 [x0, x1] g = runF (phi defs 0 k) 0 2 b_is_woven [x0, x1] g := rfl
theorem p_check_many_2 (k : Nat) (x0 x1 : D) (g : Hand) : phi defs 0 (k + 1) 7 [x0, x1] g = runF (phi defs 0 k) 0 2 b_check_many [x0, x1] g := rfl
theorem p_falling_rows_1 (k : Nat) (x0 : D) (g : Hand) : phi defs 0 (k + 1) 8 [x0] g = runF (phi defs 0 k) 0 8 b_falling_rows [x0] g := rfl
theorem p_woven_shapes_2 (k : Nat) (x0 x1 : D) (g : Hand) : phi defs 0 (k + 1) 9 [x0, x1] g = runF (phi defs 0 k) 0 4 b_woven_shapes [x0, x1] g := rfl
theorem p_count_woven_2 (k : Nat) (x0 x1 : D) (g : Hand) : phi defs 0 (k + 1) 10 [x0, x1] g = runF (phi defs 0 k) 0 6 b_count_woven [x0, x1] g := rfl
theorem p_law_mixed_2 (k : Nat) (x0 x1 : D) (g : Hand) : phi defs 0 (k + 1) 11 [x0, x1] g = runF (phi defs 0 k) 0 4 b_law_mixed [x0, x1] g := rfl
theorem p_law_take_2 (k : Nat) (x0 x1 : D) (g : Hand) : phi defs 0 (k + 1) 12 [x0, x1] g = runF (phi defs 0 k) 0 4 b_law_take [x0, x1] g := rfl
theorem p_law_many_1 (k : Nat) (x0 : D) (g : Hand) : phi defs 0 (k + 1) 13 [x0] g = runF (phi defs 0 k) 0 1 b_law_many [x0] g := rfl
theorem p_law_parts_3 (k : Nat) (x0 x1 x2 : D) (g : Hand) : phi defs 0 (k + 1) 14 [x0, x1, x2] g = runF (phi defs 0 k) 0 4 b_law_parts [x0, x1, x2] g := rfl
theorem p_law_row_2 (k : Nat) (x0 x1 : D) (g : Hand) : phi defs 0 (k + 1) 15 [x0, x1] g = runF (phi defs 0 k) 0 2 b_law_row [x0, x1] g := rfl
theorem p_law_int_1 (k : Nat) (x0 : D) (g : Hand) : phi defs 0 (k + 1) 16 [x0] g = runF (phi defs 0 k) 0 1 b_law_int [x0] g := rfl
theorem p_law_plain_1 (k : Nat) (x0 : D) (g : Hand) : phi defs 0 (k + 1) 17 [x0] g = runF (phi defs 0 k) 0 2 b_law_plain [x0] g := rfl
theorem p_law_falls_2 (k : Nat) (x0 x1 : D) (g : Hand) : phi defs 0 (k + 1) 18 [x0, x1] g = runF (phi defs 0 k) 0 7 b_law_falls [x0, x1] g := rfl
theorem p_law_unwoven_2 (k : Nat) (x0 x1 : D) (g : Hand) : phi defs 0 (k + 1) 19 [x0, x1] g = runF (phi defs 0 k) 0 3 b_law_unwoven [x0, x1] g := rfl
theorem p_law_woven_2 (k : Nat) (x0 x1 : D) (g : Hand) : phi defs 0 (k + 1) 20 [x0, x1] g = runF (phi defs 0 k) 0 3 b_law_woven [x0, x1] g := rfl
theorem p_law_number_2 (k : Nat) (x0 x1 : D) (g : Hand) : phi defs 0 (k + 1) 21 [x0, x1] g = runF (phi defs 0 k) 0 7 b_law_number [x0, x1] g := rfl
theorem p_law_part_right_3 (k : Nat) (x0 x1 x2 : D) (g : Hand) : phi defs 0 (k + 1) 22 [x0, x1, x2] g = runF (phi defs 0 k) 0 6 b_law_part_right [x0, x1, x2] g := rfl
end K40

set_option Elab.async false
set_option linter.all false
set_option maxRecDepth 100000
set_option maxHeartbeats 4000000
/-! K40m: woven rows, plain. -/
namespace K40
def at0 (s : List Int) (i : Nat) : Int := s.getD i 0
def rng (lo hi : Int) : List Int := (List.range (hi - lo).toNat).map fun (k : Nat) => lo + (k : Int)
def last (m : Int) (r : List Int) : Int := r.getLast?.getD m
def grow (f : List Int → List Int) (rs : List (List Int)) : List (List Int) := rs.flatMap fun r => (f r).map fun x => r ++ [x]
def falls (m : Int) : Nat → List (List Int)
  | 0 => [[]]
  | n + 1 => grow (fun r => rng 0 (last m r + 1)) (falls m n)
def frB (b : Int × Int) (r : List Int) : List Int := rng b.1 ((if last b.2 r < b.2 then last b.2 r else b.2) + 1)
def fr (bs : List (Int × Int)) : List (List Int) := bs.foldl (fun rs b => grow (frB b) rs) [[]]
def ok (s p : List Int) (i : Nat) : Bool := decide (at0 s (s.length - p.length + i) ≤ at0 p i) && decide (at0 p i ≤ at0 s i)
def fu (s p : List Int) : Option Nat := (List.range p.length).findSome? fun i => if ok s p i then none else some i
structure Shape (s : List Int) : Prop where
  len1 : 1 ≤ s.length
  len4 : s.length ≤ 4
  nn : ∀ x ∈ s, 0 ≤ x
  lim : ∀ x ∈ s, x < 2 ^ 60
  fall : ∀ i, i + 1 < s.length → at0 s (i + 1) ≤ at0 s i
def bnds (s : List Int) (n : Nat) : List (Int × Int) := (List.range n).map fun i => (at0 s (s.length - n + i), at0 s i)

theorem rng_nil {lo hi : Int} (h : hi ≤ lo) : rng lo hi = [] := by
  unfold rng
  rw [show (hi - lo).toNat = 0 from by omega]; rfl
theorem rng_snoc {lo hi : Int} (h : lo ≤ hi) : rng lo (hi + 1) = rng lo hi ++ [hi] := by
  unfold rng
  rw [show (hi + 1 - lo).toNat = (hi - lo).toNat + 1 from by omega, List.range_succ, List.map_append]
  simp
  omega
theorem mem_rng {lo hi x : Int} : x ∈ rng lo hi ↔ lo ≤ x ∧ x < hi := by
  unfold rng
  simp only [List.mem_map, List.mem_range]
  constructor
  · rintro ⟨k, h, rfl⟩
    omega
  · rintro ⟨h1, h2⟩
    exact ⟨(x - lo).toNat, by omega, by omega⟩
theorem rng_len {lo hi : Int} : (rng lo hi).length = (hi - lo).toNat := by simp [rng]
theorem rng_filter {a lo hi : Int} (h : a ≤ lo) : ∀ n : Nat, (rng a (a + n)).filter (fun x => decide (lo ≤ x) && decide (x ≤ hi)) = rng lo (if a + n < hi + 1 then a + n else hi + 1)
  | 0 => by
    rw [rng_nil (by omega), rng_nil (by split <;> omega)]; rfl
  | n + 1 => by
    have e : a + ((n + 1 : Nat) : Int) = a + n + 1 := by omega
    rw [e, rng_snoc (by omega), List.filter_append, rng_filter h n]
    by_cases h1 : lo ≤ a + n
    · by_cases h2 : a + n ≤ hi
      · rw [if_pos (by omega)]
        have : ([a + (n : Int)].filter fun x => decide (lo ≤ x) && decide (x ≤ hi)) = [a + (n : Int)] := by simp [h1, h2]
        rw [this]
        by_cases h3 : a + n + 1 < hi + 1
        · rw [if_pos h3, rng_snoc h1]
        · rw [if_neg h3, ← rng_snoc h1]
          congr 1; omega
      · have : ([a + (n : Int)].filter fun x => decide (lo ≤ x) && decide (x ≤ hi)) = [] := by simp [h2]
        rw [this, List.append_nil, if_neg (by omega), if_neg (by omega)]
    · have : ([a + (n : Int)].filter fun x => decide (lo ≤ x) && decide (x ≤ hi)) = [] := by simp [h1]
      rw [this, List.append_nil, rng_nil (by split <;> omega), rng_nil (by split <;> omega)]
/-- the rows' lengths -/
theorem falls_len {m : Int} : ∀ (n : Nat) (r : List Int), r ∈ falls m n → r.length = n
  | 0, r, h => by
    rw [List.mem_singleton.mp h]; rfl
  | n + 1, r, h => by
    obtain ⟨q, hq, h⟩ := List.mem_flatMap.mp h
    obtain ⟨x, _, rfl⟩ := List.mem_map.mp h
    rw [List.length_append, falls_len n q hq]; rfl
theorem falls_mem {m : Int} (hm : 0 ≤ m) : ∀ (n : Nat) (r : List Int), r ∈ falls m n → (∀ x ∈ r, 0 ≤ x ∧ x ≤ m) ∧ ∀ i, i + 1 < r.length → at0 r (i + 1) ≤ at0 r i
  | 0, r, h => by
    rw [List.mem_singleton.mp h]
    exact ⟨(fun x z => by cases z), fun i z => by simp at z⟩
  | n + 1, r, h => by
    obtain ⟨q, hq, h⟩ := List.mem_flatMap.mp h
    obtain ⟨x, hx, rfl⟩ := List.mem_map.mp h
    obtain ⟨h1, h2⟩ := falls_mem hm n q hq
    have hx := mem_rng.mp hx
    have hl : last m q ≤ m := by
      unfold last
      cases e : q.getLast? with
      | none => exact Int.le_refl _
      | some y => exact (h1 y (List.mem_of_getLast? e)).2
    refine ⟨fun y hy => ?_, fun i hi => ?_⟩
    · rcases List.mem_append.mp hy with hy | hy
      · exact h1 y hy
      · rw [List.mem_singleton.mp hy]; omega
    · rw [List.length_append, List.length_singleton] at hi
      unfold at0 at h2 ⊢
      by_cases hi2 : i + 1 < q.length
      · simp only [List.getD_eq_getElem?_getD] at h2 ⊢
        rw [List.getElem?_append_left hi2, List.getElem?_append_left (by omega)]
        exact h2 i hi2
      · have e : i + 1 = q.length := by omega
        simp only [List.getD_eq_getElem?_getD]
        rw [List.getElem?_append_right (by omega), List.getElem?_append_left (by omega), e, Nat.sub_self]
        have e2 : last m q = q[i]?.getD 0 := by
          unfold last
          rw [List.getLast?_eq_getElem?, show q.length - 1 = i from by omega]
          cases z : q[i]? with
          | none => rw [List.getElem?_eq_none_iff] at z; omega
          | some y => rfl
        show x ≤ q[i]?.getD 0
        rw [← e2]; omega
theorem falls_lim {m : Int} (hm : 0 ≤ m) (h8 : m ≤ 8) : ∀ n : Nat, (falls m n).length ≤ 9 ^ n
  | 0 => Nat.le_refl _
  | n + 1 => by
    have ih := falls_lim hm h8 n
    have key : ∀ rs : List (List Int), (∀ r ∈ rs, last m r ≤ 8) → (grow (fun r => rng 0 (last m r + 1)) rs).length ≤ 9 * rs.length := fun rs => by
      induction rs with
      | nil => exact fun _ => Nat.le_refl _
      | cons r rs ih =>
        intro h
        have z := ih fun q hq => h q (List.mem_cons_of_mem _ hq)
        have e : grow (fun r => rng 0 (last m r + 1)) (r :: rs) = (rng 0 (last m r + 1)).map (fun x => r ++ [x]) ++ grow (fun r => rng 0 (last m r + 1)) rs := rfl
        have hr := h r List.mem_cons_self
        rw [e, List.length_append, List.length_map, rng_len, List.length_cons]
        omega
    have z := key (falls m n) fun r hr => by
      obtain ⟨h1, _⟩ := falls_mem hm n r hr
      unfold last
      cases e : r.getLast? with
      | none => exact h8
      | some y =>
        have := h1 y (List.mem_of_getLast? e)
        show y ≤ 8
        omega
    have e : falls m (n + 1) = grow (fun r => rng 0 (last m r + 1)) (falls m n) := rfl
    rw [e, Nat.pow_succ]
    omega

/-! ### woven rows are the falling rows within the bounds -/
def inB (bs : List (Int × Int)) (p : List Int) : Bool := (bs.zip p).all fun q => decide (q.1.1 ≤ q.2) && decide (q.2 ≤ q.1.2)
theorem inB_snoc {bs : List (Int × Int)} {p : List Int} {b : Int × Int} {x : Int} (h : bs.length = p.length) : inB (bs ++ [b]) (p ++ [x]) = (inB bs p && (decide (b.1 ≤ x) && decide (x ≤ b.2))) := by
  unfold inB
  rw [List.zip_append h, List.all_append]
  simp
theorem grow_filter {f f' : List Int → List Int} {p p' : List Int → Bool} : ∀ rs : List (List Int), (∀ r ∈ rs, ((f r).map fun x => r ++ [x]).filter p = if p' r then (f' r).map (fun x => r ++ [x]) else []) → (grow f rs).filter p = grow f' (rs.filter p')
  | [], _ => rfl
  | r :: rs, h => by
    have e : ∀ f : List Int → List Int, ∀ rs, grow f (r :: rs) = (f r).map (fun x => r ++ [x]) ++ grow f rs := fun _ _ => rfl
    rw [e, List.filter_append, h r List.mem_cons_self, grow_filter rs fun q hq => h q (List.mem_cons_of_mem _ hq)]
    by_cases z : p' r = true
    · rw [if_pos z, List.filter_cons_of_pos z, e]
    · rw [if_neg z, List.filter_cons_of_neg z]; rfl
theorem fr_snoc (bs : List (Int × Int)) (b : Int × Int) : fr (bs ++ [b]) = grow (frB b) (fr bs) := by
  unfold fr
  rw [List.foldl_append]; rfl
theorem map_filter_snoc {r : List Int} {p : List Int → Bool} {q : Int → Bool} : ∀ xs : List Int, (∀ x ∈ xs, p (r ++ [x]) = q x) → (xs.map fun x => r ++ [x]).filter p = (xs.filter q).map fun x => r ++ [x]
  | [], _ => rfl
  | x :: xs, h => by
    have ih := map_filter_snoc (r := r) (p := p) (q := q) xs fun y hy => h y (List.mem_cons_of_mem _ hy)
    rw [List.map_cons]
    by_cases z : q x = true
    · rw [List.filter_cons_of_pos (by rw [h x List.mem_cons_self]; exact z), List.filter_cons_of_pos z, ih]; rfl
    · rw [List.filter_cons_of_neg (by rw [h x List.mem_cons_self]; exact z), List.filter_cons_of_neg z, ih]
theorem last_nil (m : Int) : last m [] = m := rfl
theorem last_snoc (m : Int) (r : List Int) (x : Int) : last m (r ++ [x]) = x := by
  unfold last
  rw [List.getLast?_append]; rfl
theorem last_any {r : List Int} (h : r ≠ []) (m m' : Int) : last m r = last m' r := by
  unfold last
  cases e : r.getLast? with
  | none => rw [List.getLast?_eq_none_iff] at e; exact absurd e h
  | some y => rfl
theorem wov {M : Int} {n : Nat} (g : Nat → Int × Int) (hM : 0 ≤ M) (hg : n ≠ 0 → (g 0).2 = M) (h0 : ∀ i, i < n → 0 ≤ (g i).1) : ∀ k, k ≤ n → (falls M k).filter (inB ((List.range k).map g)) = fr ((List.range k).map g)
  | 0, _ => rfl
  | k + 1, hk => by
    rw [List.range_succ, List.map_append]
    show (falls M (k + 1)).filter (inB ((List.range k).map g ++ [g k])) = fr ((List.range k).map g ++ [g k])
    rw [fr_snoc, ← wov g hM hg h0 k (by omega)]
    refine grow_filter (falls M k) fun r hr => ?_
    have hl := falls_len k r hr
    have hm := (falls_mem hM k r hr).1
    have hl2 : ((List.range k).map g).length = r.length := by rw [List.length_map, List.length_range, hl]
    rw [map_filter_snoc (q := fun x => inB ((List.range k).map g) r && (decide ((g k).1 ≤ x) && decide (x ≤ (g k).2))) _ fun x _ => inB_snoc hl2]
    by_cases z : inB ((List.range k).map g) r = true
    · rw [if_pos z, z]
      congr 1
      have e1 : last M r = last (g k).2 r := by
        by_cases zr : r = []
        · subst zr
          have k0 : k = 0 := hl.symm
          subst k0
          rw [last_nil, last_nil, hg (by omega)]
        · exact last_any zr _ _
      have e2 : 0 ≤ last M r := by
        unfold last
        cases e : r.getLast? with
        | none => exact hM
        | some y => exact (hm y (List.mem_of_getLast? e)).1
      have e3 : last M r + 1 = 0 + ((last M r + 1).toNat : Int) := by omega
      simp only [Bool.true_and]
      rw [e3, rng_filter (h0 k (by omega)), ← e3]
      unfold frB
      rw [e1]
      congr 1
      split <;> split <;> omega
    · rw [if_neg z]
      rw [Bool.not_eq_true] at z
      simp [z]
theorem fu_none {s p : List Int} : fu s p = none ↔ ∀ i, i < p.length → ok s p i = true := by
  unfold fu
  rw [List.findSome?_eq_none_iff]
  constructor
  · intro h i hi
    have z := h i (List.mem_range.mpr hi)
    by_cases q : ok s p i = true
    · exact q
    · rw [if_neg q] at z; cases z
  · intro h i hi
    rw [if_pos (h i (List.mem_range.mp hi))]
theorem fu_inB {s p : List Int} : (fu s p).isNone = inB (bnds s p.length) p := by
  have key : (fu s p).isNone = true ↔ inB (bnds s p.length) p = true := by
    rw [Option.isNone_iff_eq_none, fu_none]
    unfold inB bnds
    rw [List.all_eq_true]
    constructor
    · intro h q hq
      obtain ⟨i, hi, e⟩ := List.getElem_of_mem hq
      have hi2 : i < p.length := by simp at hi; omega
      have z := h i hi2
      simp at e
      subst e
      unfold ok at z
      simpa [at0, List.getD_eq_getElem?_getD, hi2] using z
    · intro h i hi
      have hl : i < (((List.range p.length).map fun i => (at0 s (s.length - p.length + i), at0 s i)).zip p).length := by simp; exact hi
      have z := h _ (List.getElem_mem hl)
      unfold ok
      simpa [at0, List.getD_eq_getElem?_getD, hi] using z
  by_cases z : inB (bnds s p.length) p = true
  · rw [z]; exact key.mpr z
  · rw [Bool.not_eq_true] at z
    rw [z]
    rw [← Bool.not_eq_true]
    intro q
    rw [key.mp q] at z; cases z
theorem at0_mem {s : List Int} {i : Nat} (h : i < s.length) : at0 s i ∈ s := by
  unfold at0
  rw [List.getD_eq_getElem?_getD, List.getElem?_eq_getElem h]
  exact List.getElem_mem h
theorem Shape.at {s : List Int} (h : Shape s) {i : Nat} (hi : i < s.length) : 0 ≤ at0 s i ∧ at0 s i < 2 ^ 60 := ⟨h.nn _ (at0_mem hi), h.lim _ (at0_mem hi)⟩
theorem woven_eq {s : List Int} (h : Shape s) {n : Nat} (hn : n ≤ s.length) : (falls (at0 s 0) n).filter (fun p => (fu s p).isNone) = fr (bnds s n) := by
  have l1 := h.len1
  have z := wov (M := at0 s 0) (n := n) (fun i => (at0 s (s.length - n + i), at0 s i)) (h.at (by omega)).1 (fun _ => rfl) (fun i hi => (h.at (by omega)).1) n (Nat.le_refl _)
  rw [show fr (bnds s n) = _ from z.symm]
  refine List.filter_congr fun p hp => ?_
  rw [fu_inB, falls_len n p hp]; rfl
end K40

set_option Elab.async false
set_option linter.all false
set_option maxRecDepth 100000
set_option maxHeartbeats 4000000
/-! K40n: numbers of woven rows, plain. -/
namespace K40
theorem grow_last {b : Int × Int} {rs : List (List Int)} {m : Int} : ∀ r ∈ grow (frB b) rs, b.1 ≤ last m r := fun r hr => by
  obtain ⟨q, hq, h⟩ := List.mem_flatMap.mp hr
  obtain ⟨x, hx, rfl⟩ := List.mem_map.mp h
  rw [last_snoc]
  exact (mem_rng.mp hx).1
theorem grow_len {b : Int × Int} (hb : b.1 ≤ b.2 + 1) : ∀ rs : List (List Int), (∀ r ∈ rs, b.2 ≤ last b.2 r) → ((grow (frB b) rs).length : Int) = rs.length * (b.2 - b.1 + 1)
  | [], _ => by simp [grow]
  | r :: rs, h => by
    have e : grow (frB b) (r :: rs) = (frB b r).map (fun x => r ++ [x]) ++ grow (frB b) rs := rfl
    have hr := h r List.mem_cons_self
    have l : ((frB b r).length : Int) = b.2 - b.1 + 1 := by
      unfold frB
      rw [if_neg (by omega), rng_len]
      omega
    have ih := grow_len hb rs fun q hq => h q (List.mem_cons_of_mem _ hq)
    rw [e, List.length_append, List.length_map, List.length_cons]
    have e2 : (((rs.length + 1 : Nat) : Int)) * (b.2 - b.1 + 1) = rs.length * (b.2 - b.1 + 1) + (b.2 - b.1 + 1) := by
      rw [Int.natCast_add, Int.add_mul]; simp
    rw [e2]
    omega
/-- a chain of bounds none of which reaches over the one ahead -/
theorem fr_len : ∀ (n : Nat) (g : Nat → Int × Int), (∀ i, i < n → (g i).1 ≤ (g i).2 + 1) → (∀ i, i + 1 < n → (g (i + 1)).2 ≤ (g i).1) → ((fr ((List.range n).map g)).length : Int) = (List.range n).foldl (fun t i => t * ((g i).2 - (g i).1 + 1)) 1
  | 0, g, _, _ => rfl
  | n + 1, g, h1, h2 => by
    rw [List.range_succ, List.map_append, List.foldl_append]
    show ((fr ((List.range n).map g ++ [g n])).length : Int) = (List.range n).foldl _ 1 * _
    rw [fr_snoc, grow_len (h1 n (by omega)), fr_len n g (fun i hi => h1 i (by omega)) (fun i hi => h2 i (by omega))]
    intro r hr
    cases n with
    | zero =>
      rw [List.mem_singleton.mp hr]
      exact Int.le_refl _
    | succ n =>
      rw [List.range_succ, List.map_append] at hr
      have hr : r ∈ fr ((List.range n).map g ++ [g n]) := hr
      rw [fr_snoc] at hr
      have z := grow_last (m := (g (n + 1)).2) r hr
      have z2 := h2 n (by omega)
      omega
/-- the numbers, as both ways have them -/
def prodN (s : List Int) (n : Nat) : Int := (List.range n).foldl (fun t i => t * (at0 s i - at0 s (s.length - n + i) + 1)) 1
def wide (s : List Int) : Int := at0 s 1 - at0 s 2 + 1
def cnt (s : List Int) (n : Nat) : Int := if n = 2 ∧ s.length - n = 2 then prodN s n - wide s * (wide s - 1) / 2 else prodN s n
def numL (s : List Int) (n : Nat) : Int := if n = 2 ∧ s.length = 4 then (at0 s 2 - at0 s 3 + 1) * (at0 s 0 - at0 s 2 + 1) + (at0 s 1 - at0 s 2) * (at0 s 0 - at0 s 2 + at0 s 0 - at0 s 1 + 1) / 2 else prodN s n
theorem even_mul (b : Int) : ∃ m, b * (b + 1) = 2 * m := by
  rcases Int.emod_two_eq b with h | h
  · exact ⟨(b / 2) * (b + 1), by
      have e : b = 2 * (b / 2) := by omega
      rw [← Int.mul_assoc, ← e]⟩
  · exact ⟨b * ((b + 1) / 2), by
      have e : b + 1 = 2 * ((b + 1) / 2) := by omega
      rw [← Int.mul_assoc, Int.mul_comm 2 b, Int.mul_assoc, ← e]⟩
theorem cnt_numL {s : List Int} (h : Shape s) {n : Nat} (hn : n ≤ s.length) : cnt s n = numL s n := by
  unfold cnt numL
  by_cases c : n = 2 ∧ s.length = 4
  · obtain ⟨c1, c2⟩ := c
    subst c1
    rw [if_pos ⟨rfl, by omega⟩, if_pos ⟨rfl, c2⟩]
    unfold prodN wide
    rw [c2]
    show 1 * (at0 s 0 - at0 s 2 + 1) * (at0 s 1 - at0 s 3 + 1) - _ = _
    generalize at0 s 0 = a0
    generalize at0 s 1 = a1
    generalize at0 s 2 = a2
    generalize at0 s 3 = a3
    obtain ⟨m, hm⟩ := even_mul (a1 - a2)
    have e1 : (a1 - a2 + 1) * (a1 - a2 + 1 - 1) = 2 * m := by grind
    have e2 : (a1 - a2) * (a0 - a2 + a0 - a1 + 1) = 2 * ((a0 - a2 + 1) * (a1 - a2) - m) := by grind
    rw [e1, e2, Int.mul_ediv_cancel_left _ (by decide), Int.mul_ediv_cancel_left _ (by decide)]
    grind
  · rw [if_neg (fun z => c ⟨z.1, by omega⟩), if_neg c]
theorem grow_append (f : List Int → List Int) (xs ys : List (List Int)) : grow f (xs ++ ys) = grow f xs ++ grow f ys := by
  unfold grow
  rw [List.flatMap_append]
/-- over the second bound of four and two -/
theorem sum_min {lo hi b : Int} (h : b ≤ lo) (h2 : lo ≤ hi) : ∀ (k : Nat), 2 * ((grow (frB (b, hi)) ((rng lo (lo + k)).map fun x => [x])).length : Int) =
    if lo + k ≤ hi + 1 then k * (2 * (lo - b + 1) + k - 1) else 2 * (k * (hi - b + 1)) - (hi + 1 - lo) * (hi - lo)
  | 0 => by
    rw [rng_nil (by omega), if_pos (by omega)]
    simp [grow]
  | k + 1 => by
    have ih := sum_min h h2 k
    have e : lo + ((k + 1 : Nat) : Int) = lo + k + 1 := by omega
    rw [e, rng_snoc (by omega), List.map_append, grow_append, List.length_append]
    have one : ((grow (frB (b, hi)) ([lo + (k : Int)].map fun x => [x])).length : Int) = (if lo + k < hi then lo + k else hi) + 1 - b := by
      have e2 : grow (frB (b, hi)) ([lo + (k : Int)].map fun x => [x]) = (frB (b, hi) [lo + (k : Int)]).map (fun x => [lo + (k : Int)] ++ [x]) ++ [] := rfl
      rw [e2, List.append_nil, List.length_map]
      unfold frB
      rw [rng_len]
      have l : last hi [lo + (k : Int)] = lo + k := rfl
      rw [show (b, hi).2 = hi from rfl, show (b, hi).1 = b from rfl, l]
      split <;> omega
    rw [Int.natCast_add, one, Int.mul_add, ih, Int.natCast_add]
    generalize (grow (frB (b, hi)) ((rng lo (lo + (k : Int))).map fun x => [x])).length = L at *
    generalize (k : Int) = K at *
    by_cases c : lo + K ≤ hi
    · rw [if_pos (show lo + K ≤ hi + 1 by omega), if_pos (show lo + K + 1 ≤ hi + 1 by omega)]
      by_cases c3 : lo + K < hi
      · rw [if_pos c3]; grind
      · rw [if_neg c3]
        have e3 : hi = lo + K := by omega
        subst e3
        grind
    · rw [if_neg (show ¬ lo + K + 1 ≤ hi + 1 by omega), if_neg (show ¬ lo + K < hi by omega)]
      by_cases c2 : lo + K ≤ hi + 1
      · have hk : K = hi + 1 - lo := by omega
        rw [if_pos c2, hk]
        grind
      · rw [if_neg c2]
        grind
theorem fr_cnt {s : List Int} (h : Shape s) {n : Nat} (h1 : 1 ≤ n) (hn : n ≤ s.length) : ((fr (bnds s n)).length : Int) = cnt s n := by
  have l4 := h.len4
  have f := h.fall
  unfold cnt
  by_cases c : n = 2 ∧ s.length - n = 2
  · obtain ⟨c1, c2⟩ := c
    subst c1
    have l : s.length = 4 := by omega
    have a1 : at0 s 1 ≤ at0 s 0 := f 0 (by omega)
    have a2 : at0 s 2 ≤ at0 s 1 := f 1 (by omega)
    have a3 : at0 s 3 ≤ at0 s 2 := f 2 (by omega)
    rw [if_pos ⟨rfl, c2⟩]
    unfold prodN wide bnds
    rw [l]
    show ((fr [(at0 s 2, at0 s 0), (at0 s 3, at0 s 1)]).length : Int) = 1 * (at0 s 0 - at0 s 2 + 1) * (at0 s 1 - at0 s 3 + 1) - _
    have e1 : fr [(at0 s 2, at0 s 0), (at0 s 3, at0 s 1)] = grow (frB (at0 s 3, at0 s 1)) (grow (frB (at0 s 2, at0 s 0)) [[]]) := rfl
    have e2 : grow (frB (at0 s 2, at0 s 0)) [[]] = (rng (at0 s 2) (at0 s 2 + ((at0 s 0 - at0 s 2 + 1).toNat : Nat))).map fun x => [x] := by
      show (frB (at0 s 2, at0 s 0) []).map (fun x => [] ++ [x]) ++ [] = _
      rw [List.append_nil]
      unfold frB
      rw [last_nil, if_neg (by exact Int.lt_irrefl _), show at0 s 2 + ((at0 s 0 - at0 s 2 + 1).toNat : Int) = at0 s 0 + 1 by omega]
      rfl
    have z := sum_min (lo := at0 s 2) (hi := at0 s 1) (b := at0 s 3) a3 a2 (at0 s 0 - at0 s 2 + 1).toNat
    rw [← e2, ← e1] at z
    have e3 : ((at0 s 0 - at0 s 2 + 1).toNat : Int) = at0 s 0 - at0 s 2 + 1 := by omega
    rw [e3] at z
    generalize (fr [(at0 s 2, at0 s 0), (at0 s 3, at0 s 1)]).length = len at z ⊢
    generalize at0 s 0 = x0 at *
    generalize at0 s 1 = x1 at *
    generalize at0 s 2 = x2 at *
    generalize at0 s 3 = x3 at *
    obtain ⟨m, hm⟩ := even_mul (x1 - x2)
    have e4 : (x1 - x2 + 1) * (x1 - x2 + 1 - 1) = 2 * m := by grind
    rw [e4, Int.mul_ediv_cancel_left _ (by decide)]
    split at z
    · have e5 : x0 = x1 := by omega
      subst e5
      grind
    · grind
  · rw [if_neg c]
    unfold bnds prodN
    refine fr_len n _ (fun i hi => ?_) (fun i hi => ?_)
    · show at0 s (s.length - n + i) ≤ at0 s i + 1
      have down : ∀ k, i + k < s.length → at0 s (i + k) ≤ at0 s i := fun k => by
        induction k with
        | zero => exact fun _ => Int.le_refl _
        | succ k ih =>
          intro hk
          have := ih (by omega)
          have := f (i + k) (by omega)
          rw [show i + (k + 1) = i + k + 1 from rfl]
          omega
      have := down (s.length - n) (by omega)
      rw [Nat.add_comm] at this
      omega
    · show at0 s (i + 1) ≤ at0 s (s.length - n + i)
      have hs : s.length - n ≤ 1 := by omega
      by_cases z : s.length - n = 0
      · rw [z, Nat.zero_add]
        exact f i (by omega)
      · rw [show s.length - n + i = i + 1 by omega]
        exact Int.le_refl _
end K40

set_option Elab.async false
set_option linter.all false
set_option maxRecDepth 100000
set_option maxHeartbeats 4000000
/-! K40p1: what the program's defs answer. -/
namespace K40
open PySem PD
abbrev T (xs : List Int) : D := .tup (xs.map .int)
abbrev L (xs : List Int) : D := .lst (xs.map .int)
def Sq (b : Bool) (xs : List Int) : D := if b then L xs else T xs
theorem it_T {xs : List Int} {i : Int} (h0 : 0 ≤ i) (h : i < xs.length) : item (T xs) (.int i) = some (.int (at0 xs i.toNat)) := item_tup h0 (by
  have hl : i.toNat < xs.length := by omega
  rw [List.getElem?_map, List.getElem?_eq_getElem hl]
  unfold at0
  rw [List.getD_eq_getElem?_getD, List.getElem?_eq_getElem hl]; rfl)
theorem it_L {xs : List Int} {i : Int} (h0 : 0 ≤ i) (h : i < xs.length) : item (L xs) (.int i) = some (.int (at0 xs i.toNat)) := item_lst h0 (by
  have hl : i.toNat < xs.length := by omega
  rw [List.getElem?_map, List.getElem?_eq_getElem hl]
  unfold at0
  rw [List.getD_eq_getElem?_getD, List.getElem?_eq_getElem hl]; rfl)
theorem it_T0 {xs : List Int} {i : Nat} (h : i < xs.length) : item (T xs) (.int (i : Int)) = some (.int (at0 xs i)) := it_T (by omega) (by omega)
theorem it_L0 {xs : List Int} {i : Nat} (h : i < xs.length) : item (L xs) (.int (i : Int)) = some (.int (at0 xs i)) := it_L (by omega) (by omega)
theorem rngOk_0 {j : Int} (h0 : 0 ≤ j) (h : j < 2 ^ 62) : rngOk 0 j = true := by
  unfold rngOk
  simp
  omega
theorem rngOk_2 {i j : Int} (h0 : 0 ≤ i) (h1 : i < 2 ^ 62) (h2 : 0 ≤ j) (h : j < 2 ^ 62) : rngOk i j = true := by
  unfold rngOk
  simp
  omega
theorem rngL_rng (i j : Int) : rngL i j = (rng i j).map .int := by
  unfold rngL rng
  rw [List.map_map]; rfl
theorem ev_whole2 (k : Nat) (g : Hand) (i a : Int) : phi defs 0 (k + 1) 0 [.int i, .int a] g = .ret (.d (.bl (decide (a ≤ i)))) g := by
  rw [p_is_whole_2]
  by_cases c : i < a
  · have c2 : ¬ a ≤ i := by omega
    simp [runF, b_is_whole, c, c2]
  · have c2 : a ≤ i := by omega
    simp [runF, b_is_whole, c, c2]
theorem ev_whole3 (k : Nat) (g : Hand) (i a b : Int) : phi defs 0 (k + 1) 0 [.int i, .int a, .int b] g = .ret (.d (.bl (decide (a ≤ i ∧ i ≤ b)))) g := by
  rw [p_is_whole_3]
  by_cases c : i < a
  · have c2 : ¬ a ≤ i := by omega
    simp [runF, b_is_whole, c, c2]
  · have c2 : a ≤ i := by omega
    simp [runF, b_is_whole, c, c2]
theorem ev_seq (k : Nat) (g : Hand) (b : Bool) (xs : List Int) : phi defs 0 (k + 1) 1 [Sq b xs] g = .ret (.d (.bl true)) g := by
  rw [p_is_sequence_1]
  cases b <;> simp [runF, b_is_sequence, Sq]
theorem ev_fault (k : Nat) (g : Hand) (b : Bool) {xs : List Int} (h : Shape xs) : phi defs 0 (k + 2) 2 [Sq b xs, .int 0] g = .ret (.d .non) g := by
  rw [p_parts_fault_2]
  have w2 := ev_whole2 k
  generalize phi defs 0 (k + 1) = Φ at w2 ⊢
  have l4 := h.len4
  have key : ∀ q : D, (q = L xs ∨ q = T xs) → runF (Φ) 0 4 b_parts_fault [q, .int 0] g = .ret (.d .non) g := by
    intro q hq
    obtain ⟨s', ⟨c, rfl⟩, e1⟩ := forL_map (f := evB (Φ) 0 [.ifS (.not (.call 0 [(.var 2), (.var 1)])) [.ret (.k (.str "number"))] []]) (t := .nm 2) (fun s => ∃ c, s = ⟨[.d q, .d (.int 0), c, .no], g⟩) D.int (fun _ => none) xs ⟨[.d q, .d (.int 0), .no, .no], g⟩ ⟨.no, rfl⟩ (by
      rintro x hx s ⟨c, rfl⟩
      refine ⟨_, rfl, _, ⟨.d (.int x), rfl⟩, ?_⟩
      have z := h.nn x hx
      simp [w2, z, flO])
    obtain ⟨s', ⟨c', rfl⟩, e2⟩ := forL_map (f := evB (Φ) 0 [.ifS (.cmp .Gt (.ix (.var 0) (.var 3)) (.ix (.var 0) (.bin .Sub (.var 3) (.k (.int 1))))) [.ret (.k (.str "falling"))] []]) (t := .nm 3) (fun s => ∃ c', s = ⟨[.d q, .d (.int 0), c, c'], g⟩) D.int (fun _ => none) (rng 1 xs.length) ⟨[.d q, .d (.int 0), c, .no], g⟩ ⟨.no, rfl⟩ (by
      rintro x hx s ⟨c', rfl⟩
      obtain ⟨x1, x2⟩ := mem_rng.mp hx
      refine ⟨_, rfl, _, ⟨.d (.int x), rfl⟩, ?_⟩
      have f := h.fall (x.toNat - 1) (by omega)
      rw [show x.toNat - 1 + 1 = x.toNat by omega] at f
      have e3 : (x - 1).toNat = x.toNat - 1 := by omega
      rcases hq with rfl | rfl
      · have i1 := it_L (xs := xs) (i := x) (by omega) x2
        have i2 := it_L (xs := xs) (i := x - 1) (by omega) (by omega)
        have c : ¬ at0 xs (x.toNat - 1) < at0 xs x.toNat := by omega
        simp [i1, i2, e3, c, flO]
      · have i1 := it_T (xs := xs) (i := x) (by omega) x2
        have i2 := it_T (xs := xs) (i := x - 1) (by omega) (by omega)
        have c : ¬ at0 xs (x.toNat - 1) < at0 xs x.toNat := by omega
        simp [i1, i2, e3, c, flO])
    have fs : ∀ α : Type, ∀ l : List α, l.findSome? (fun _ => (none : Option R)) = none := fun α l => by simp
    rw [fs] at e1 e2
    have ro : rngOk 1 xs.length = true := rngOk_2 (by decide) (by decide) (by omega) (by omega)
    rcases hq with rfl | rfl
    · simp [runF, b_parts_fault, e1, srcL_r2 ro, rngL_rng, e2, flO]
    · simp [runF, b_parts_fault, e1, srcL_r2 ro, rngL_rng, e2, flO]
  refine key _ ?_
  cases b
  · exact .inr rfl
  · exact .inl rfl
theorem ev_check (k : Nat) (g : Hand) (b : Bool) {xs : List Int} (h : Shape xs) : phi defs 0 (k + 3) 3 [Sq b xs] g = .ret (.d (T xs)) g := by
  rw [p_check_shape_1]
  have l1 := h.len1
  have l4 := h.len4
  have f := ev_fault k g b h
  have s := ev_seq (k + 1) g b xs
  generalize phi defs 0 (k + 2) = Φ at f s ⊢
  have c1 : ¬ ((xs.length : Int) < 1) := by omega
  have c2 : ¬ ((4 : Int) < (xs.length : Int)) := by omega
  cases b
  · have f : Φ 2 [T xs, .int 0] g = .ret (.d .non) g := f
    have s : Φ 1 [T xs] g = .ret (.d (.bl true)) g := s
    show runF Φ 0 4 b_check_shape [T xs, .non, .int 4] g = _
    simp [runF, b_check_shape, s, f, c1, c2]
  · have f : Φ 2 [L xs, .int 0] g = .ret (.d .non) g := f
    have s : Φ 1 [L xs] g = .ret (.d (.bl true)) g := s
    show runF Φ 0 4 b_check_shape [L xs, .non, .int 4] g = _
    simp [runF, b_check_shape, s, f, c1, c2]
end K40

set_option Elab.async false
set_option linter.all false
set_option maxRecDepth 100000
set_option maxHeartbeats 4000000
/-! K40p2: which rows are woven. -/
namespace K40
open PySem PD
def dO : Option Nat → D
  | none => .non
  | some i => .int (i : Int)
theorem rngL_0 (n : Nat) : rngL 0 (n : Int) = (List.range n).map fun (i : Nat) => D.int (i : Int) := by
  unfold rngL
  rw [Int.sub_zero, Int.toNat_natCast]
  refine List.map_congr_left fun i _ => ?_
  rw [Int.zero_add]
theorem find_map {F : Nat → R} {c : Nat → Bool} : ∀ l : List Nat, l.findSome? (fun i => if c i then none else some (F i)) = (l.findSome? fun i => if c i then none else some i).map F
  | [] => rfl
  | i :: l => by
    rw [List.findSome?_cons, List.findSome?_cons]
    by_cases h : c i = true
    · simp only [if_pos h]
      exact find_map l
    · simp only [if_neg h]; rfl
theorem r_first (Φ : FEnv) (g : Hand) {s p : List Int} (hp : p.length ≤ s.length) (h4 : s.length ≤ 4) : runF Φ 0 4 b_first_unwoven [T s, T p] g = .ret (.d (dO (fu s p))) g := by
  obtain ⟨s', ⟨c, rfl⟩, e1⟩ := forL_map (f := evB Φ 0 [.ifS (.or (.cmp .Lt (.ix (.var 1) (.var 3)) (.ix (.var 0) (.bin .Add (.var 2) (.var 3)))) (.cmp .Gt (.ix (.var 1) (.var 3)) (.ix (.var 0) (.var 3)))) [.ret (.var 3)] []]) (t := .nm 3) (fun st => ∃ c, st = ⟨[.d (T s), .d (T p), .d (.int (s.length - p.length)), c], g⟩) (fun i : Nat => D.int (i : Int)) (fun i => if ok s p i then none else some (.d (.int (i : Int)))) (List.range p.length) ⟨[.d (T s), .d (T p), .d (.int (s.length - p.length)), .no], g⟩ ⟨.no, rfl⟩ (by
    rintro i hi st ⟨c, rfl⟩
    have hi := List.mem_range.mp hi
    refine ⟨_, rfl, _, ⟨.d (.int (i : Int)), rfl⟩, ?_⟩
    have i1 := it_T0 (xs := p) hi
    have i2 := it_T0 (xs := s) (i := i) (by omega)
    have i3 := it_T (xs := s) (i := (s.length : Int) - p.length + i) (by omega) (by omega)
    rw [show ((s.length : Int) - p.length + i).toNat = s.length - p.length + i by omega] at i3
    have eo : ok s p i = (decide (at0 s (s.length - p.length + i) ≤ at0 p i) && decide (at0 p i ≤ at0 s i)) := rfl
    by_cases c1 : at0 p i < at0 s (s.length - p.length + i)
    · have c2 : ¬ at0 s (s.length - p.length + i) ≤ at0 p i := by omega
      rw [eo]
      simp [i1, i2, i3, c1, c2, flO]
    · have c2 : at0 s (s.length - p.length + i) ≤ at0 p i := by omega
      by_cases c3 : at0 s i < at0 p i
      · have c4 : ¬ at0 p i ≤ at0 s i := by omega
        rw [eo]
        simp [i1, i2, i3, c1, c2, c3, c4, flO]
      · have c4 : at0 p i ≤ at0 s i := by omega
        rw [eo]
        simp [i1, i2, i3, c1, c2, c3, c4, flO])
  rw [find_map] at e1
  have ro : rngOk 0 (p.length : Int) = true := rngOk_0 (by omega) (by omega)
  have ef : (List.range p.length).findSome? (fun i => if ok s p i then none else some i) = fu s p := rfl
  rw [ef] at e1
  cases h : fu s p with
  | none =>
    rw [h] at e1
    have e1 := e1.trans (show _ = Res.ok Fl.nx _ from rfl)
    refine runF_rt ?_
    simp [b_first_unwoven, srcL_r ro, rngL_0, e1, dO]
  | some i =>
    rw [h] at e1
    have e1 := e1.trans (show _ = Res.ok (Fl.rt (.d (.int (i : Int)))) _ from rfl)
    refine runF_rt ?_
    simp [b_first_unwoven, srcL_r ro, rngL_0, e1, dO]
theorem ev_first (k : Nat) (g : Hand) {s p : List Int} (hp : p.length ≤ s.length) (h4 : s.length ≤ 4) : phi defs 0 (k + 1) 4 [T s, T p] g = .ret (.d (dO (fu s p))) g := (p_first_unwoven_2 k _ _ g).trans (r_first _ g hp h4)
theorem r_lunw (Φ : FEnv) (g : Hand) {s p : List Int} (hp : p.length ≤ s.length) (h4 : s.length ≤ 4) : runF Φ 0 3 b_law_unwoven [T s, T p] g = .ret (.d (dO (fu s p))) g := by
  obtain ⟨s', ⟨c, rfl⟩, e1⟩ := forL_map (f := evB Φ 0 [.ifS (.not (.chain .LtE .LtE (.ix (.var 0) (.bin .Add (.bin .Sub (.blt .len [(.var 0)]) (.blt .len [(.var 1)])) (.var 2))) (.ix (.var 1) (.var 2)) (.ix (.var 0) (.var 2)))) [.ret (.var 2)] []]) (t := .nm 2) (fun st => ∃ c, st = ⟨[.d (T s), .d (T p), c], g⟩) (fun i : Nat => D.int (i : Int)) (fun i => if ok s p i then none else some (.d (.int (i : Int)))) (List.range p.length) ⟨[.d (T s), .d (T p), .no], g⟩ ⟨.no, rfl⟩ (by
    rintro i hi st ⟨c, rfl⟩
    have hi := List.mem_range.mp hi
    refine ⟨_, rfl, _, ⟨.d (.int (i : Int)), rfl⟩, ?_⟩
    have i1 := it_T0 (xs := p) hi
    have i2 := it_T0 (xs := s) (i := i) (by omega)
    have i3 := it_T (xs := s) (i := (s.length : Int) - p.length + i) (by omega) (by omega)
    rw [show ((s.length : Int) - p.length + i).toNat = s.length - p.length + i by omega] at i3
    have eo : ok s p i = (decide (at0 s (s.length - p.length + i) ≤ at0 p i) && decide (at0 p i ≤ at0 s i)) := rfl
    by_cases c2 : at0 s (s.length - p.length + i) ≤ at0 p i
    · by_cases c4 : at0 p i ≤ at0 s i
      · rw [eo]
        simp [i1, i2, i3, c2, c4, flO]
      · rw [eo]
        simp [i1, i2, i3, c2, c4, flO]
    · rw [eo]
      simp [i1, i2, i3, c2, flO])
  rw [find_map] at e1
  have ro : rngOk 0 (p.length : Int) = true := rngOk_0 (by omega) (by omega)
  have ef : (List.range p.length).findSome? (fun i => if ok s p i then none else some i) = fu s p := rfl
  rw [ef] at e1
  cases h : fu s p with
  | none =>
    rw [h] at e1
    have e1 := e1.trans (show _ = Res.ok Fl.nx _ from rfl)
    refine runF_rt ?_
    simp [b_law_unwoven, srcL_r ro, rngL_0, e1, dO]
  | some i =>
    rw [h] at e1
    have e1 := e1.trans (show _ = Res.ok (Fl.rt (.d (.int (i : Int)))) _ from rfl)
    refine runF_rt ?_
    simp [b_law_unwoven, srcL_r ro, rngL_0, e1, dO]
theorem ev_lunw (k : Nat) (g : Hand) {s p : List Int} (hp : p.length ≤ s.length) (h4 : s.length ≤ 4) : phi defs 0 (k + 1) 19 [T s, T p] g = .ret (.d (dO (fu s p))) g := (p_law_unwoven_2 k _ _ g).trans (r_lunw _ g hp h4)
theorem ev_place (k : Nat) (g : Hand) (b b' : Bool) {s p : List Int} (hs : Shape s) (hp : Shape p) (hl : p.length ≤ s.length) : phi defs 0 (k + 4) 5 [Sq b s, Sq b' p] g = .ret (.d (dO (fu s p))) g := by
  rw [p_unwoven_place_2]
  have c1 : phi defs 0 (k + 3) 3 [Sq b s] g = _ := ev_check k g b hs
  have c2 : phi defs 0 (k + 3) 3 [Sq b' p] g = _ := ev_check k g b' hp
  have f : phi defs 0 (k + 3) 4 [T s, T p] g = _ := ev_first (k + 2) g hl hs.len4
  generalize phi defs 0 (k + 3) = Φ at *
  have c3 : ¬ ((s.length : Int) < p.length) := by omega
  simp [runF, b_unwoven_place, c1, c2, f, c3]
theorem isNon_dO (o : Option Nat) : isNon (dO o) = o.isNone := by cases o <;> rfl
theorem ev_iswov (k : Nat) (g : Hand) (b b' : Bool) {s p : List Int} (hs : Shape s) (hp : Shape p) (hl : p.length ≤ s.length) : phi defs 0 (k + 5) 6 [Sq b s, Sq b' p] g = .ret (.d (.bl (fu s p).isNone)) g := by
  rw [p_is_woven_2]
  have c1 := ev_place k g b b' hs hp hl
  generalize phi defs 0 (k + 4) = Φ at *
  simp [runF, b_is_woven, c1, isNon_dO]
theorem ev_lint (k : Nat) (g : Hand) (i : Int) : phi defs 0 (k + 1) 16 [.int i] g = .ret (.d (.bl true)) g := by
  rw [p_law_int_1]
  simp [runF, b_law_int]
theorem r_right (Φ : FEnv) (g : Hand) (q : D) (s p : List Int) (o : Option Nat) (c1 : Φ 19 [T s, T p] g = .ret (.d (dO o)) g) (c2 : Φ 6 [q, T p] g = .ret (.d (.bl o.isNone)) g) (c3 : Φ 5 [q, L p] g = .ret (.d (dO o)) g) (c4 : ∀ i : Int, Φ 16 [.int i] g = .ret (.d (.bl true)) g) :
    runF Φ 0 6 b_law_part_right [T s, q, T p] g = .ret (.d (.bl true)) g := by
  cases o with
  | none =>
    have c1 : Φ 19 [T s, T p] g = .ret (.d .non) g := c1
    have c2 : Φ 6 [q, T p] g = .ret (.d (.bl true)) g := c2
    have c3 : Φ 5 [q, L p] g = .ret (.d .non) g := c3
    simp [runF, b_law_part_right, c1, c2, c3]
  | some i =>
    have c1 : Φ 19 [T s, T p] g = .ret (.d (.int (i : Int))) g := c1
    have c2 : Φ 6 [q, T p] g = .ret (.d (.bl false)) g := c2
    have c3 : Φ 5 [q, L p] g = .ret (.d (.int (i : Int))) g := c3
    have c4 := c4 (i : Int)
    simp [runF, b_law_part_right, c1, c2, c3, c4]
theorem ev_right (k : Nat) (g : Hand) (b : Bool) {s p : List Int} (hs : Shape s) (hp : Shape p) (hl : p.length ≤ s.length) : phi defs 0 (k + 6) 22 [T s, Sq b s, T p] g = .ret (.d (.bl true)) g :=
  (p_law_part_right_3 (k + 5) _ _ _ g).trans (r_right _ g (Sq b s) s p (fu s p) (ev_lunw (k + 4) g hl hs.len4) (ev_iswov k g b false hs hp hl) (ev_place (k + 1) g b true hs hp hl) (fun i => ev_lint (k + 4) g i))
end K40

set_option Elab.async false
set_option linter.all false
set_option maxRecDepth 100000
set_option maxHeartbeats 4000000
/-! K40p3: the falling rows, by the law and by the program. -/
namespace K40
open PySem PD
def rows (rs : List (List Int)) : List D := rs.map T
theorem rows_append (a b : List (List Int)) : rows (a ++ b) = rows a ++ rows b := List.map_append
theorem rows_len (a : List (List Int)) : (rows a).length = a.length := List.length_map _
theorem it_last {r : List Int} (h : r ≠ []) (m : Int) : item (T r) (.int (-1)) = some (.int (last m r)) := by
  have hp : 0 < r.length := List.length_pos_iff.mpr h
  show (ixN (r.map D.int).length (-1)).bind (fun j => (r.map D.int)[j]?) = _
  rw [ixN_neg (by decide) (by rw [List.length_map]; omega), List.length_map]
  show (r.map D.int)[(-1 + (r.length : Int)).toNat]? = _
  rw [List.getElem?_map]
  unfold last
  rw [List.getLast?_eq_getElem?, show (-1 + (r.length : Int)).toNat = r.length - 1 by omega, List.getElem?_eq_getElem (by omega)]
  rfl
def grown (f : List Int → List Int) (r : List Int) : List (List Int) := (f r).map fun x => r ++ [x]
theorem one_le : 1 ≤ sizeLine := by decide
/-- one row of _law_falls -/
theorem falls_step (Φ : FEnv) (g : Hand) {m : Int} {c0 c2 c3 : Cell} {r : List Int} {acc : List (List Int)} (hr : r.length ≤ 4) (h0 : -1 ≤ last m r) (h1 : last m r ≤ 8) (ha : acc.length ≤ 100000) :
    evB Φ 0 [.set (.nm 4) (.bin .Add (.var 4) (.comp [6] (.nm 6) .rng [(.bin .Add (.ife (.var 5) (.ix (.var 5) (.neg (.k (.int 1)))) (.var 1)) (.k (.int 1)))] none (.bin .Add (.var 5) (.tup [(.var 6)]))))]
      ⟨[c0, .d (.int m), c2, c3, .own (rows acc), .d (T r), .no], g⟩ = .ok .nx ⟨[c0, .d (.int m), c2, c3, .own (rows (acc ++ grown (fun r => rng 0 (last m r + 1)) r)), .d (T r), .no], g⟩ := by
  have ro : rngOk 0 (last m r + 1) = true := rngOk_0 (by omega) (by omega)
  have sz : sizeLine = 16777216 := rfl
  have cm : compR Φ [6] (.nm 6) none (.bin .Add (.var 5) (.tup [(.var 6)])) ((rng 0 (last m r + 1)).map D.int) ⟨[c0, .d (.int m), c2, c3, .own (rows acc), .d (T r), .no], g⟩ = .ok ((rng 0 (last m r + 1)).map fun x => T (r ++ [x])) ⟨[c0, .d (.int m), c2, c3, .own (rows acc), .d (T r), .no], g⟩ := by
    refine compR_map D.int (fun x => T (r ++ [x])) (fun x hx => ?_) (by rw [rng_len, sz]; omega)
    refine ⟨_, rfl, .d (T (r ++ [x])), ⟨[c0, .d (.int m), c2, c3, .own (rows acc), .d (T r), .d (.int x)], g⟩, ?_, rfl, rfl⟩
    have e : binop .Add (.tup (r.map D.int)) (.tup [.int x]) = some (.d (.tup (r.map D.int ++ [.int x]))) := add_tup (by rw [List.length_map, sz]; show r.length + 1 ≤ _; omega)
    simp [e, one_le]
  have gl : ((rng 0 (last m r + 1)).map fun x => T (r ++ [x])) = rows (grown (fun r => rng 0 (last m r + 1)) r) := by
    unfold rows grown
    rw [List.map_map]; rfl
  have ad : binop .Add (.lst (rows acc)) (.lst (rows (grown (fun r => rng 0 (last m r + 1)) r))) = some (.f (rows acc ++ rows (grown (fun r => rng 0 (last m r + 1)) r))) := add_lst (by
    rw [rows_len, rows_len, sz]
    unfold grown
    rw [List.length_map, rng_len]; omega)
  rw [rows_append]
  rw [gl] at cm
  by_cases z : r = []
  · subst z
    have l0 : last m [] = m := rfl
    generalize rows (grown (fun r => rng 0 (last m r + 1)) []) = gr at *
    rw [l0] at ro cm
    simp [srcL_r ro, rngL_rng, cm, ad]
  · have il := it_last z m
    have ne : r.isEmpty = false := by cases r with
      | nil => exact absurd rfl z
      | cons _ _ => rfl
    simp [srcL_r ro, rngL_rng, cm, ad, il, ne]

theorem grow_grown (f : List Int → List Int) (rs : List (List Int)) : grow f rs = rs.flatMap (grown f) := rfl
theorem last_range {m : Int} (hm : 0 ≤ m) (h8 : m ≤ 8) {n : Nat} {r : List Int} (h : r ∈ falls m n) : -1 ≤ last m r ∧ last m r ≤ 8 := by
  obtain ⟨h1, _⟩ := falls_mem hm n r h
  unfold last
  cases e : r.getLast? with
  | none => exact ⟨by show -1 ≤ m; omega, h8⟩
  | some y =>
    have := h1 y (List.mem_of_getLast? e)
    exact ⟨by show -1 ≤ y; omega, by show y ≤ 8; omega⟩
theorem pow9 {n : Nat} (h : n ≤ 4) : 9 ^ n ≤ 6561 := by
  have : 9 ^ n ≤ 9 ^ 4 := Nat.pow_le_pow_right (by decide) h
  exact this
/-- a part of the rows, grown -/
theorem part_len {m : Int} (hm : 0 ≤ m) (h8 : m ≤ 8) {n : Nat} (hn : n + 1 ≤ 4) (i : Nat) : (((falls m n).take i).flatMap (grown (fun r => rng 0 (last m r + 1)))).length ≤ 6561 := by
  have e : falls m (n + 1) = ((falls m n).take i).flatMap (grown (fun r => rng 0 (last m r + 1))) ++ ((falls m n).drop i).flatMap (grown (fun r => rng 0 (last m r + 1))) := by
    rw [← List.flatMap_append, List.take_append_drop]; rfl
  have l := falls_lim hm h8 (n + 1)
  have p := pow9 hn
  rw [e, List.length_append] at l
  omega
theorem falls_inner (Φ : FEnv) (g : Hand) {m : Int} (hm : 0 ≤ m) (h8 : m ≤ 8) {n : Nat} (hn : n + 1 ≤ 4) {c0 c3 c5 : Cell} :
    ∃ c, forL (evB Φ 0 [.set (.nm 4) (.bin .Add (.var 4) (.comp [6] (.nm 6) .rng [(.bin .Add (.ife (.var 5) (.ix (.var 5) (.neg (.k (.int 1)))) (.var 1)) (.k (.int 1)))] none (.bin .Add (.var 5) (.tup [(.var 6)]))))]) (.nm 5) (rows (falls m n))
      ⟨[c0, .d (.int m), .d (.lst (rows (falls m n))), c3, .own [], c5, .no], g⟩ = .ok .nx ⟨[c0, .d (.int m), .d (.lst (rows (falls m n))), c3, .own (rows (falls m (n + 1))), c, .no], g⟩ := by
  obtain ⟨s', e, c, hs⟩ := forL_inv (f := evB Φ 0 [.set (.nm 4) (.bin .Add (.var 4) (.comp [6] (.nm 6) .rng [(.bin .Add (.ife (.var 5) (.ix (.var 5) (.neg (.k (.int 1)))) (.var 1)) (.k (.int 1)))] none (.bin .Add (.var 5) (.tup [(.var 6)]))))]) (t := .nm 5)
    (fun i s => ∃ c, s = ⟨[c0, .d (.int m), .d (.lst (rows (falls m n))), c3, .own (rows (((falls m n).take i).flatMap (grown (fun r => rng 0 (last m r + 1))))), c, .no], g⟩) (rows (falls m n)) 0
    ⟨[c0, .d (.int m), .d (.lst (rows (falls m n))), c3, .own [], c5, .no], g⟩ ⟨c5, rfl⟩ (by
    rintro i x s hx ⟨c, rfl⟩
    have hx : ((falls m n).map T)[i]? = some x := hx
    rw [List.getElem?_map] at hx
    cases e : (falls m n)[i]? with
    | none => rw [e] at hx; cases hx
    | some r =>
      rw [e] at hx
      cases hx
      have hr : r ∈ falls m n := List.mem_of_getElem? e
      obtain ⟨b0, b1⟩ := last_range hm h8 hr
      rw [Nat.zero_add]
      have st := falls_step Φ g (m := m) (c0 := c0) (c2 := .d (.lst (rows (falls m n)))) (c3 := c3) (r := r) (acc := ((falls m n).take i).flatMap (grown (fun r => rng 0 (last m r + 1)))) (by rw [falls_len n r hr]; omega) b0 b1 (Nat.le_trans (part_len hm h8 hn i) (by decide))
      refine ⟨_, rfl, _, .inl st, .d (T r), ?_⟩
      rw [List.take_add_one, e, List.flatMap_append]
      simp)
  refine ⟨c, ?_⟩
  rw [e, hs, Nat.zero_add, rows_len, List.take_length]; rfl
theorem falls_turn (Φ : FEnv) (g : Hand) {m : Int} (hm : 0 ≤ m) (h8 : m ≤ 8) {n : Nat} (hn : n + 1 ≤ 4) {c0 cr c3 c4 c5 : Cell} (hc : cr = .d (.lst (rows (falls m n))) ∨ cr = .own (rows (falls m n))) :
    ∃ c4' c5', evB Φ 0 [.set (.nm 4) (.lst []), .forS (.nm 5) .seq [(.var 2)] [.set (.nm 4) (.bin .Add (.var 4) (.comp [6] (.nm 6) .rng [(.bin .Add (.ife (.var 5) (.ix (.var 5) (.neg (.k (.int 1)))) (.var 1)) (.k (.int 1)))] none (.bin .Add (.var 5) (.tup [(.var 6)]))))], .set (.nm 2) (.var 4)]
      ⟨[c0, .d (.int m), cr, c3, c4, c5, .no], g⟩ = .ok .nx ⟨[c0, .d (.int m), .d (.lst (rows (falls m (n + 1)))), c3, c4', c5', .no], g⟩ := by
  obtain ⟨c, e⟩ := falls_inner Φ g hm h8 hn (c0 := c0) (c3 := c3) (c5 := c5)
  refine ⟨.d (.lst (rows (falls m (n + 1)))), c, ?_⟩
  rcases hc with rfl | rfl
  · simp [e]
  · simp [e]
theorem r_falls (Φ : FEnv) (g : Hand) {m : Int} (hm : 0 ≤ m) (h8 : m ≤ 8) {n : Nat} (hn : n ≤ 4) : ∃ r, runF Φ 0 7 b_law_falls [.int (n : Int), .int m] g = .ret r g ∧ r.D = .lst (rows (falls m n)) := by
  obtain ⟨s', e, cr, c3, c4, c5, hs, hc⟩ := forL_inv (f := evB Φ 0 [.set (.nm 4) (.lst []), .forS (.nm 5) .seq [(.var 2)] [.set (.nm 4) (.bin .Add (.var 4) (.comp [6] (.nm 6) .rng [(.bin .Add (.ife (.var 5) (.ix (.var 5) (.neg (.k (.int 1)))) (.var 1)) (.k (.int 1)))] none (.bin .Add (.var 5) (.tup [(.var 6)]))))], .set (.nm 2) (.var 4)]) (t := .nm 3)
    (fun i s => ∃ cr c3 c4 c5, s = ⟨[.d (.int (n : Int)), .d (.int m), cr, c3, c4, c5, .no], g⟩ ∧ (cr = .d (.lst (rows (falls m i))) ∨ cr = .own (rows (falls m i)))) ((List.range n).map fun (i : Nat) => D.int (i : Int)) 0
    ⟨[.d (.int (n : Int)), .d (.int m), .own [.tup []], .no, .no, .no, .no], g⟩ ⟨_, _, _, _, rfl, .inr rfl⟩ (by
    rintro i x s hx ⟨cr, c3, c4, c5, rfl, hc⟩
    rw [Nat.zero_add] at hc
    have hi : i < n := by
      have z := (List.getElem?_eq_some_iff.mp hx).1
      simpa using z
    obtain ⟨c4', c5', e⟩ := falls_turn Φ g hm h8 (n := i) (by omega) (c0 := .d (.int (n : Int))) (cr := cr) (c3 := .d x) (c4 := c4) (c5 := c5) hc
    refine ⟨_, rfl, _, .inl e, _, _, _, _, rfl, .inl ?_⟩
    rw [Nat.zero_add])
  have ro : rngOk 0 (n : Int) = true := rngOk_0 (by omega) (by omega)
  rw [Nat.zero_add, List.length_map, List.length_range] at hc
  subst hs
  rcases hc with rfl | rfl
  · refine ⟨.d (.lst (rows (falls m n))), runF_rt ?_, rfl⟩
    simp [b_law_falls, srcL_r ro, rngL_0, e, one_le]
  · refine ⟨.f (rows (falls m n)), runF_rt ?_, rfl⟩
    simp [b_law_falls, srcL_r ro, rngL_0, e, one_le]
theorem ev_falls (k : Nat) (g : Hand) {m : Int} (hm : 0 ≤ m) (h8 : m ≤ 8) {n : Nat} (hn : n ≤ 4) : ∃ r, phi defs 0 (k + 1) 18 [.int (n : Int), .int m] g = .ret r g ∧ r.D = .lst (rows (falls m n)) := by
  obtain ⟨r, e, h⟩ := r_falls (phi defs 0 k) g hm h8 hn
  exact ⟨r, (p_law_falls_2 k _ _ g).trans e, h⟩
/-! ### the woven ones among them -/
theorem r_woven (Φ : FEnv) (g : Hand) {s : List Int} {n : Nat} {r : R} (hl : 1 ≤ s.length) (h1 : Φ 18 [.int (n : Int), .int (at0 s 0)] g = .ret r g) (h2 : r.D = .lst (rows (falls (at0 s 0) n))) (h3 : ∀ p, p.length = n → Φ 19 [T s, T p] g = .ret (.d (dO (fu s p))) g) (hz : (falls (at0 s 0) n).length ≤ 6561) :
    runF Φ 0 3 b_law_woven [T s, .int (n : Int)] g = .ret (.f (rows ((falls (at0 s 0) n).filter fun p => (fu s p).isNone))) g := by
  have i0 := it_T0 (xs := s) (i := 0) (by omega)
  have i0 : item (T s) (.int 0) = some (.int (at0 s 0)) := i0
  have cm : compR Φ [2] (.nm 2) (some (.cmp .Is (.call 19 [(.var 0), (.var 2)]) (.k (.non)))) (.var 2) (rows (falls (at0 s 0) n)) ⟨[.d (T s), .d (.int (n : Int)), .no], g⟩ = .ok (rows ((falls (at0 s 0) n).filter fun p => (fu s p).isNone)) ⟨[.d (T s), .d (.int (n : Int)), .no], g⟩ := by
    refine compR_filter T T (fun p => (fu s p).isNone) (fun p hp => ?_) (Nat.le_trans hz (by decide))
    have h := h3 p (falls_len n p hp)
    refine ⟨_, rfl, ⟨[.d (T s), .d (.int (n : Int)), .d (T p)], g⟩, ?_, rfl, fun _ => ⟨.d (T p), ⟨[.d (T s), .d (.int (n : Int)), .d (T p)], g⟩, ?_, rfl, rfl⟩⟩
    · simp [h, isNon_dO]
    · simp
  refine runF_rt ?_
  simp [b_law_woven, i0, h1, h2, cm]
theorem ev_woven (k : Nat) (g : Hand) {s : List Int} (hs : Shape s) (h8 : at0 s 0 ≤ 8) {n : Nat} (hn : n ≤ s.length) : phi defs 0 (k + 2) 20 [T s, .int (n : Int)] g = .ret (.f (rows (fr (bnds s n)))) g := by
  have l1 := hs.len1
  have l4 := hs.len4
  have a0 := (hs.at (i := 0) (by omega)).1
  obtain ⟨r, e, h⟩ := ev_falls k g a0 h8 (n := n) (by omega)
  have z := r_woven (phi defs 0 (k + 1)) g (s := s) (n := n) (r := r) l1 e h (fun p hp => ev_lunw k g (by omega) l4) (Nat.le_trans (falls_lim a0 h8 n) (pow9 (by omega)))
  rw [woven_eq hs hn] at z
  exact (p_law_woven_2 (k + 1) _ _ g).trans z
end K40

set_option Elab.async false
set_option linter.all false
set_option maxRecDepth 100000
set_option maxHeartbeats 4000000
/-! K40p4: the program's falling rows. -/
namespace K40
open PySem PD
def pair (b : Int × Int) : D := .tup [.int b.1, .int b.2]
/-- one row of falling_rows -/
theorem rows_step (Φ : FEnv) (g : Hand) {b : Int × Int} {c0 c1 c6 : Cell} {r : List Int} {acc : List (List Int)} (hr : r.length ≤ 4) (b0 : 0 ≤ b.1) (b1 : b.1 ≤ 8) (h0 : 0 ≤ b.2) (h2 : b.2 ≤ 8) (h1 : r ≠ [] → 0 ≤ last b.2 r) (ha : acc.length ≤ 100000) :
    ∃ c6', evB Φ 0 [.set (.nm 6) (.ife (.cmp .Gt (.blt .len [(.var 5)]) (.k (.int 0))) (.blt .min [(.var 3), (.ix (.var 5) (.neg (.k (.int 1))))]) (.var 3)), .ext 4 (.comp [7] (.nm 7) .rng [(.var 2), (.bin .Add (.var 6) (.k (.int 1)))] none (.bin .Add (.var 5) (.tup [(.var 7)])))]
      ⟨[c0, c1, .d (.int b.1), .d (.int b.2), .own (rows acc), .d (T r), c6, .no], g⟩ = .ok .nx ⟨[c0, c1, .d (.int b.1), .d (.int b.2), .own (rows (acc ++ grown (frB b) r)), .d (T r), c6', .no], g⟩ := by
  have sz : sizeLine = 16777216 := rfl
  have ht : 0 ≤ (if last b.2 r < b.2 then last b.2 r else b.2) ∧ (if last b.2 r < b.2 then last b.2 r else b.2) ≤ 8 := by
    by_cases z : r = []
    · subst z
      rw [last_nil, if_neg (Int.lt_irrefl _)]; exact ⟨h0, h2⟩
    · have := h1 z
      split <;> constructor <;> omega
  have et : grown (frB b) r = (rng b.1 ((if last b.2 r < b.2 then last b.2 r else b.2) + 1)).map fun x => r ++ [x] := rfl
  generalize htop : (if last b.2 r < b.2 then last b.2 r else b.2) = top at ht et
  have ro : rngOk b.1 (top + 1) = true := rngOk_2 b0 (by omega) (by omega) (by omega)
  have cm : compR Φ [7] (.nm 7) none (.bin .Add (.var 5) (.tup [(.var 7)])) ((rng b.1 (top + 1)).map D.int) ⟨[c0, c1, .d (.int b.1), .d (.int b.2), .own (rows acc), .d (T r), .d (.int top), .no], g⟩ = .ok ((rng b.1 (top + 1)).map fun x => T (r ++ [x])) ⟨[c0, c1, .d (.int b.1), .d (.int b.2), .own (rows acc), .d (T r), .d (.int top), .no], g⟩ := by
    refine compR_map D.int (fun x => T (r ++ [x])) (fun x hx => ?_) (by rw [rng_len, sz]; omega)
    refine ⟨_, rfl, .d (T (r ++ [x])), ⟨[c0, c1, .d (.int b.1), .d (.int b.2), .own (rows acc), .d (T r), .d (.int top), .d (.int x)], g⟩, ?_, rfl, rfl⟩
    have e : binop .Add (.tup (r.map D.int)) (.tup [.int x]) = some (.d (.tup (r.map D.int ++ [.int x]))) := add_tup (by rw [List.length_map, sz]; show r.length + 1 ≤ _; omega)
    simp [e, one_le]
  have gl : ((rng b.1 (top + 1)).map fun x => T (r ++ [x])) = rows (grown (frB b) r) := by
    rw [et]
    unfold rows
    rw [List.map_map]; rfl
  have gz : (rows acc).length + (rows (grown (frB b) r)).length ≤ sizeLine := by
    rw [rows_len, rows_len, et, List.length_map, rng_len, sz]; omega
  rw [rows_append]
  rw [gl] at cm
  generalize rows (grown (frB b) r) = gr at *
  refine ⟨.d (.int top), ?_⟩
  by_cases z : r = []
  · subst z
    rw [last_nil, if_neg (Int.lt_irrefl _)] at htop
    subst htop
    simp [srcL_r2 ro, rngL_rng, cm, lstOf, gz]
  · have il := it_last z b.2
    have ne : 0 < r.length := List.length_pos_iff.mpr z
    have mn : blt .min [.int b.2, .int (last b.2 r)] = some (.d (.int top)) := by rw [min_int, htop]
    simp only [min_int] at mn
    have ne2 : (0 : Int) < (r.length : Int) := by omega
    simp [srcL_r2 ro, rngL_rng, cm, lstOf, gz, il, ne, htop]
structure RowsOk (rs : List (List Int)) (b : Int × Int) : Prop where
  b0 : 0 ≤ b.1
  b1 : b.1 ≤ 8
  b2 : 0 ≤ b.2
  b3 : b.2 ≤ 8
  len : ∀ r ∈ rs, r.length ≤ 4
  las : ∀ r ∈ rs, r ≠ [] → 0 ≤ last b.2 r
  big : (grow (frB b) rs).length ≤ 6561
abbrev rowsBody : List S := [.set (.nm 6) (.ife (.cmp .Gt (.blt .len [(.var 5)]) (.k (.int 0))) (.blt .min [(.var 3), (.ix (.var 5) (.neg (.k (.int 1))))]) (.var 3)), .ext 4 (.comp [7] (.nm 7) .rng [(.var 2), (.bin .Add (.var 6) (.k (.int 1)))] none (.bin .Add (.var 5) (.tup [(.var 7)])))]
theorem rows_inner (Φ : FEnv) (g : Hand) {b : Int × Int} {rs : List (List Int)} (h : RowsOk rs b) {c0 c1 c5 c6 : Cell} :
    ∃ c c', forL (evB Φ 0 rowsBody) (.nm 5) (rows rs) ⟨[c0, c1, .d (.int b.1), .d (.int b.2), .own [], c5, c6, .no], g⟩ = .ok .nx ⟨[c0, c1, .d (.int b.1), .d (.int b.2), .own (rows (grow (frB b) rs)), c, c', .no], g⟩ := by
  obtain ⟨s', e, c, c', hs⟩ := forL_inv (f := evB Φ 0 rowsBody) (t := .nm 5)
    (fun i s => ∃ c c', s = ⟨[c0, c1, .d (.int b.1), .d (.int b.2), .own (rows ((rs.take i).flatMap (grown (frB b)))), c, c', .no], g⟩) (rows rs) 0
    ⟨[c0, c1, .d (.int b.1), .d (.int b.2), .own [], c5, c6, .no], g⟩ ⟨c5, c6, rfl⟩ (by
    rintro i x s hx ⟨c, c', rfl⟩
    have hx : (rs.map T)[i]? = some x := hx
    rw [List.getElem?_map] at hx
    cases e : rs[i]? with
    | none => rw [e] at hx; cases hx
    | some r =>
      rw [e] at hx
      cases hx
      have hr : r ∈ rs := List.mem_of_getElem? e
      rw [Nat.zero_add]
      have part : ((rs.take i).flatMap (grown (frB b))).length ≤ 100000 := by
        have e : grow (frB b) rs = (rs.take i).flatMap (grown (frB b)) ++ (rs.drop i).flatMap (grown (frB b)) := by
          rw [← List.flatMap_append, List.take_append_drop]; rfl
        have l := h.big
        rw [e, List.length_append] at l
        omega
      obtain ⟨c6', st⟩ := rows_step Φ g (b := b) (c0 := c0) (c1 := c1) (c6 := c') (r := r) (acc := (rs.take i).flatMap (grown (frB b))) (h.len r hr) h.b0 h.b1 h.b2 h.b3 (h.las r hr) part
      refine ⟨_, rfl, _, .inl st, .d (T r), c6', ?_⟩
      rw [List.take_add_one, e, List.flatMap_append]
      simp)
  refine ⟨c, c', ?_⟩
  rw [e, hs, Nat.zero_add, rows_len, List.take_length]; rfl
abbrev rowsOut : List S := [.set (.nm 4) (.lst []), .forS (.nm 5) .seq [(.var 1)] rowsBody, .set (.nm 1) (.blt .list [(.var 4)])]
theorem rows_turn (Φ : FEnv) (g : Hand) {b : Int × Int} {rs : List (List Int)} (h : RowsOk rs b) {c0 c4 c5 c6 : Cell} :
    ∃ c4' c5' c6', evB Φ 0 rowsOut ⟨[c0, .own (rows rs), .d (.int b.1), .d (.int b.2), c4, c5, c6, .no], g⟩ = .ok .nx ⟨[c0, .own (rows (grow (frB b) rs)), .d (.int b.1), .d (.int b.2), c4', c5', c6', .no], g⟩ := by
  obtain ⟨c, c', e⟩ := rows_inner Φ g h (c0 := c0) (c1 := .d (.lst (rows rs))) (c5 := c5) (c6 := c6)
  refine ⟨.own (rows (grow (frB b) rs)), c, c', ?_⟩
  simp [rowsOut, e]
theorem r_rows (Φ : FEnv) (g : Hand) {n : Nat} (f : Nat → Int × Int) (h : ∀ i, i < n → RowsOk (fr ((List.range i).map f)) (f i)) : runF Φ 0 8 b_falling_rows [.lst (((List.range n).map f).map pair)] g = .ret (.d (.tup (rows (fr ((List.range n).map f))))) g := by
  obtain ⟨s', e, c2, c3, c4, c5, c6, hs⟩ := forL_inv (f := evB Φ 0 rowsOut) (t := .tp [2, 3])
    (fun i s => ∃ c2 c3 c4 c5 c6, s = ⟨[.d (.lst (((List.range n).map f).map pair)), .own (rows (fr ((List.range i).map f))), c2, c3, c4, c5, c6, .no], g⟩) (((List.range n).map f).map pair) 0
    ⟨[.d (.lst (((List.range n).map f).map pair)), .own [.tup []], .no, .no, .no, .no, .no, .no], g⟩ ⟨_, _, _, _, _, rfl⟩ (by
    rintro i x s hx ⟨c2, c3, c4, c5, c6, rfl⟩
    rw [Nat.zero_add]
    have hi : i < n := by
      have z := (List.getElem?_eq_some_iff.mp hx).1
      simpa using z
    have ex : x = pair (f i) := by
      rw [List.getElem?_map, List.getElem?_map, List.getElem?_range hi] at hx
      exact (Option.some.inj hx).symm
    subst ex
    obtain ⟨c4', c5', c6', e⟩ := rows_turn Φ g (h i hi) (c0 := .d (.lst (((List.range n).map f).map pair))) (c4 := c4) (c5 := c5) (c6 := c6)
    have es : fr ((List.range (i + 1)).map f) = grow (frB (f i)) (fr ((List.range i).map f)) := by
      rw [List.range_succ, List.map_append]
      exact fr_snoc _ _
    refine ⟨_, rfl, _, .inl e, .d (.int (f i).1), .d (.int (f i).2), c4', c5', c6', ?_⟩
    rw [es])
  rw [Nat.zero_add, List.length_map, List.length_map, List.length_range] at hs
  subst hs
  refine runF_rt ?_
  generalize ((List.range n).map f).map pair = q at e ⊢
  generalize rows (fr ((List.range n).map f)) = o at e ⊢
  simp [b_falling_rows, one_le, e]
end K40

set_option Elab.async false
set_option linter.all false
set_option maxRecDepth 100000
set_option maxHeartbeats 4000000
/-! K40p5: woven_shapes, counts. -/
namespace K40
open PySem PD
theorem falling {s : List Int} (hs : Shape s) : ∀ k i, i + k < s.length → at0 s (i + k) ≤ at0 s i
  | 0, i, _ => Int.le_refl _
  | k + 1, i, h => by
    have a := falling hs k i (by omega)
    have b := hs.fall (i + k) (by omega)
    rw [show i + (k + 1) = i + k + 1 from rfl]
    omega
theorem rowsOk_of {s : List Int} (hs : Shape s) (h8 : at0 s 0 ≤ 8) {n : Nat} (hn : n ≤ s.length) (i : Nat) (hi : i < n) :
    RowsOk (fr ((List.range i).map fun i => (at0 s (s.length - n + i), at0 s i))) (at0 s (s.length - n + i), at0 s i) := by
  have l4 := hs.len4
  have up : ∀ j, j < s.length → at0 s j ≤ at0 s 0 := fun j hj => by
    have z := falling hs j 0 (by omega)
    rw [Nat.zero_add] at z
    exact z
  have m0 := (hs.at (i := 0) (by omega)).1
  have w := fun k hk => wov (M := at0 s 0) (n := n) (fun i => (at0 s (s.length - n + i), at0 s i)) m0 (fun _ => rfl) (fun i hi => (hs.at (by omega)).1) k hk
  have a1 := hs.at (i := s.length - n + i) (by omega)
  have a2 := hs.at (i := i) (by omega)
  have u1 := up (s.length - n + i) (by omega)
  have u2 := up i (by omega)
  refine ⟨a1.1, by show at0 s (s.length - n + i) ≤ 8; omega, a2.1, by show at0 s i ≤ 8; omega, fun r hr => ?_, fun r hr ne => ?_, ?_⟩
  · rw [← w i (by omega)] at hr
    rw [falls_len i r (List.mem_filter.mp hr).1]; omega
  · rw [← w i (by omega)] at hr
    obtain ⟨h1, _⟩ := falls_mem m0 i r (List.mem_filter.mp hr).1
    unfold last
    cases e : r.getLast? with
    | none => rw [List.getLast?_eq_none_iff] at e; exact absurd e ne
    | some y => exact (h1 y (List.mem_of_getLast? e)).1
  · have e : grow (frB (at0 s (s.length - n + i), at0 s i)) (fr ((List.range i).map fun i => (at0 s (s.length - n + i), at0 s i))) = fr ((List.range (i + 1)).map fun i => (at0 s (s.length - n + i), at0 s i)) := by
      rw [List.range_succ, List.map_append]
      exact (fr_snoc _ _).symm
    rw [e, ← w (i + 1) (by omega)]
    exact Nat.le_trans (List.length_filter_le _ _) (Nat.le_trans (falls_lim m0 h8 (i + 1)) (pow9 (by omega)))
theorem r_many (Φ : FEnv) (g : Hand) {s : List Int} {n : Nat} (h1 : 1 ≤ n) (hn : n ≤ s.length) (w : ∀ i a b : Int, Φ 0 [.int i, .int a, .int b] g = .ret (.d (.bl (decide (a ≤ i ∧ i ≤ b)))) g) : runF Φ 0 2 b_check_many [T s, .int (n : Int)] g = .ret (.d (.int (n : Int))) g := by
  have w := w (n : Int) 1 (s.length : Int)
  have c : decide ((1 : Int) ≤ (n : Int) ∧ (n : Int) ≤ (s.length : Int)) = true := decide_eq_true ⟨by omega, by omega⟩
  rw [c] at w
  refine runF_rt ?_
  simp [b_check_many, w]
theorem ev_many (k : Nat) (g : Hand) {s : List Int} {n : Nat} (h1 : 1 ≤ n) (hn : n ≤ s.length) : phi defs 0 (k + 2) 7 [T s, .int (n : Int)] g = .ret (.d (.int (n : Int))) g :=
  (p_check_many_2 (k + 1) _ _ g).trans (r_many _ g h1 hn fun i a b => ev_whole3 k g i a b)
theorem r_wshapes (Φ : FEnv) (g : Hand) {q : D} {s : List Int} {n : Nat} (hn : n ≤ s.length) (h4 : s.length ≤ 4) (c1 : Φ 3 [q] g = .ret (.d (T s)) g) (c2 : Φ 7 [T s, .int (n : Int)] g = .ret (.d (.int (n : Int))) g) (c3 : Φ 8 [.lst ((bnds s n).map pair)] g = .ret (.d (.tup (rows (fr (bnds s n))))) g) :
    runF Φ 0 4 b_woven_shapes [q, .int (n : Int)] g = .ret (.d (.tup (rows (fr (bnds s n))))) g := by
  have ro : rngOk 0 (n : Int) = true := rngOk_0 (by omega) (by omega)
  have cm : compR Φ [3] (.nm 3) none (.tup [(.ix (.var 0) (.bin .Add (.var 2) (.var 3))), (.ix (.var 0) (.var 3))]) ((List.range n).map fun (i : Nat) => D.int (i : Int)) ⟨[.d (T s), .d (.int (n : Int)), .d (.int ((s.length : Int) - n)), .no], g⟩ = .ok ((bnds s n).map pair) ⟨[.d (T s), .d (.int (n : Int)), .d (.int ((s.length : Int) - n)), .no], g⟩ := by
    unfold bnds
    rw [List.map_map]
    refine compR_map (fun (i : Nat) => D.int (i : Int)) _ (fun i hi => ?_) (by rw [List.length_range]; exact Nat.le_trans (Nat.le_trans hn h4) (by decide))
    have hi := List.mem_range.mp hi
    refine ⟨_, rfl, .d (pair (at0 s (s.length - n + i), at0 s i)), ⟨[.d (T s), .d (.int (n : Int)), .d (.int ((s.length : Int) - n)), .d (.int (i : Int))], g⟩, ?_, rfl, rfl⟩
    have i2 := it_T0 (xs := s) (i := i) (by omega)
    have i3 := it_T (xs := s) (i := (s.length : Int) - n + i) (by omega) (by omega)
    rw [show ((s.length : Int) - n + i).toNat = s.length - n + i by omega] at i3
    have two : 2 ≤ sizeLine := by decide
    simp [i2, i3, two, pair]
  generalize (bnds s n).map pair = bq at cm c3
  generalize rows (fr (bnds s n)) = o at c3 ⊢
  refine runF_rt ?_
  simp [b_woven_shapes, c1, c2, srcL_r ro, rngL_0, cm, c3]
theorem ev_wshapes (k : Nat) (g : Hand) (b : Bool) {s : List Int} (hs : Shape s) (h8 : at0 s 0 ≤ 8) {n : Nat} (h1 : 1 ≤ n) (hn : n ≤ s.length) : phi defs 0 (k + 4) 9 [Sq b s, .int (n : Int)] g = .ret (.d (.tup (rows (fr (bnds s n))))) g :=
  (p_woven_shapes_2 (k + 3) _ _ g).trans (r_wshapes _ g hn hs.len4 (ev_check k g b hs) (ev_many (k + 1) g h1 hn)
    ((p_falling_rows_1 (k + 2) _ g).trans (r_rows _ g (fun i => (at0 s (s.length - n + i), at0 s i)) fun i hi => rowsOk_of hs h8 hn i hi)))
end K40

set_option Elab.async false
set_option linter.all false
set_option maxRecDepth 100000
set_option maxHeartbeats 4000000
/-! K40p6: the numbers, by both ways. -/
namespace K40
open PySem PD
def pr (f : Nat → Int) (i : Nat) : Int := (List.range i).foldl (fun t j => t * f j) 1
theorem pr_succ (f : Nat → Int) (i : Nat) : pr f (i + 1) = pr f i * f i := by
  unfold pr
  rw [List.range_succ, List.foldl_append]; rfl
theorem pr_lt (f : Nat → Int) : ∀ i, (∀ j, j < i → (f j).natAbs ≤ 2 ^ 61) → (pr f i).natAbs ≤ 2 ^ (61 * i)
  | 0, _ => Nat.le_refl _
  | i + 1, h => by
    rw [pr_succ, Int.natAbs_mul, show 61 * (i + 1) = 61 * i + 61 from rfl, Nat.pow_add]
    exact Nat.mul_le_mul (pr_lt f i fun j hj => h j (by omega)) (h i (by omega))
theorem mul_pr {f : Nat → Int} {i : Nat} (hi : i ≤ 3) (h : ∀ j, j ≤ i → (f j).natAbs ≤ 2 ^ 61) : mulOk (pr f i) (f i) = true := by
  have a := pr_lt f i fun j hj => h j (by omega)
  have b := h i (Nat.le_refl _)
  have c : 2 ^ (61 * i) ≤ 2 ^ 183 := Nat.pow_le_pow_right (by decide) (by omega)
  have d : (2 : Nat) ^ 183 < 2 ^ 200 := by decide
  have e : (2 : Nat) ^ 61 < 2 ^ 200 := by decide
  exact mulOk_of (Nat.lt_of_le_of_lt (Nat.le_trans a c) d) (Nat.lt_of_le_of_lt b e)
def fac (s : List Int) (n : Nat) (i : Nat) : Int := at0 s i - at0 s (s.length - n + i) + 1
theorem fac_lt {s : List Int} (hs : Shape s) {n i : Nat} (hn : n ≤ s.length) (hi : i < n) : (fac s n i).natAbs ≤ 2 ^ 61 := by
  have a1 := hs.at (i := s.length - n + i) (by omega)
  have a2 := hs.at (i := i) (by omega)
  unfold fac
  omega
theorem mulOk_61 {i j : Int} (h1 : i.natAbs ≤ 2 ^ 61) (h2 : j.natAbs ≤ 2 ^ 61) : mulOk i j = true := by
  have e : (2 : Nat) ^ 61 < 2 ^ 200 := by decide
  exact mulOk_of (by omega) (by omega)
theorem r_count (Φ : FEnv) (g : Hand) {q : D} {s : List Int} (hs : Shape s) {n : Nat} (hn : n ≤ s.length) (c1 : Φ 3 [q] g = .ret (.d (T s)) g) (c2 : Φ 7 [T s, .int (n : Int)] g = .ret (.d (.int (n : Int))) g) :
    runF Φ 0 6 b_count_woven [q, .int (n : Int)] g = .ret (.d (.int (cnt s n))) g := by
  have l4 := hs.len4
  have ro : rngOk 0 (n : Int) = true := rngOk_0 (by omega) (by omega)
  obtain ⟨s', e, c, hst⟩ := forL_inv (f := evB Φ 0 [.set (.nm 3) (.bin .Mult (.var 3) (.bin .Add (.bin .Sub (.ix (.var 0) (.var 4)) (.ix (.var 0) (.bin .Add (.var 2) (.var 4)))) (.k (.int 1))))]) (t := .nm 4)
    (fun i st => ∃ c, st = ⟨[.d (T s), .d (.int (n : Int)), .d (.int ((s.length : Int) - n)), .d (.int (pr (fac s n) i)), c, .no], g⟩) ((List.range n).map fun (i : Nat) => D.int (i : Int)) 0
    ⟨[.d (T s), .d (.int (n : Int)), .d (.int ((s.length : Int) - n)), .d (.int 1), .no, .no], g⟩ ⟨.no, rfl⟩ (by
    rintro i x st hx ⟨c, rfl⟩
    have hi : i < n := by
      have z := (List.getElem?_eq_some_iff.mp hx).1
      simpa using z
    have ex : x = .int (i : Int) := by
      rw [List.getElem?_map, List.getElem?_range hi] at hx
      exact (Option.some.inj hx).symm
    subst ex
    rw [Nat.zero_add]
    have i2 := it_T0 (xs := s) (i := i) (by omega)
    have i3 := it_T (xs := s) (i := (s.length : Int) - n + i) (by omega) (by omega)
    rw [show ((s.length : Int) - n + i).toNat = s.length - n + i by omega] at i3
    have mo := mul_pr (f := fac s n) (i := i) (by omega) fun j hj => fac_lt hs hn (by omega)
    have mi : binop .Mult (.int (pr (fac s n) i)) (.int (at0 s i - at0 s (s.length - n + i) + 1)) = some (.d (.int (pr (fac s n) i * fac s n i))) := mul_int mo
    refine ⟨_, rfl, ⟨[.d (T s), .d (.int (n : Int)), .d (.int ((s.length : Int) - n)), .d (.int (pr (fac s n) (i + 1))), .d (.int (i : Int)), .no], g⟩, .inl ?_, _, rfl⟩
    rw [pr_succ]
    simp [i2, i3, mi])
  rw [Nat.zero_add, List.length_map, List.length_range] at hst
  subst hst
  have ep : pr (fac s n) n = prodN s n := rfl
  rw [ep] at e
  refine runF_rt ?_
  unfold cnt
  by_cases cc : n = 2 ∧ s.length - n = 2
  · obtain ⟨n2, sh⟩ := cc
    have sl : s.length = 4 := by omega
    rw [if_pos ⟨n2, sh⟩]
    have d1 : eqD (.int (n : Int)) (.int 2) = some true := by rw [eqD_int, decide_eq_true (by omega)]
    have d2 : eqD (.int ((s.length : Int) - n)) (.int 2) = some true := by rw [eqD_int, decide_eq_true (by omega)]
    have j1 := it_T0 (xs := s) (i := 1) (by omega)
    have j2 := it_T0 (xs := s) (i := 2) (by omega)
    have j1 : item (T s) (.int 1) = some (.int (at0 s 1)) := j1
    have j2 : item (T s) (.int 2) = some (.int (at0 s 2)) := j2
    have a1 := hs.at (i := 1) (by omega)
    have a2 := hs.at (i := 2) (by omega)
    have mw : binop .Mult (.int (at0 s 1 - at0 s 2 + 1)) (.int (at0 s 1 - at0 s 2 + 1 - 1)) = some (.d (.int (wide s * (wide s - 1)))) := mul_int (mulOk_61 (by omega) (by omega))
    have dv : divOk 2 = true := divOk_of (by decide) (by decide)
    rw [show at0 s 1 - at0 s 2 + 1 - 1 = at0 s 1 - at0 s 2 from by omega] at mw
    generalize prodN s n = pn at *
    generalize wide s * (wide s - 1) = ww at *
    simp [b_count_woven, c1, c2, srcL_r ro, rngL_0, e, d1, d2, -eqD_int, j1, j2, mw, fdiv_int dv]
  · rw [if_neg cc]
    generalize prodN s n = pn at *
    by_cases n2 : n = 2
    · have d1 : eqD (.int (n : Int)) (.int 2) = some true := by rw [eqD_int, decide_eq_true (by omega)]
      have d2 : eqD (.int ((s.length : Int) - n)) (.int 2) = some false := by rw [eqD_int, decide_eq_false (by omega)]
      simp [b_count_woven, c1, c2, srcL_r ro, rngL_0, e, d1, d2, -eqD_int]
    · have d1 : eqD (.int (n : Int)) (.int 2) = some false := by rw [eqD_int, decide_eq_false (by omega)]
      simp [b_count_woven, c1, c2, srcL_r ro, rngL_0, e, d1, -eqD_int]
theorem ev_count (k : Nat) (g : Hand) (b : Bool) {s : List Int} (hs : Shape s) {n : Nat} (h1 : 1 ≤ n) (hn : n ≤ s.length) : phi defs 0 (k + 4) 10 [Sq b s, .int (n : Int)] g = .ret (.d (.int (cnt s n))) g :=
  (p_count_woven_2 (k + 3) _ _ g).trans (r_count _ g hs hn (ev_check k g b hs) (ev_many (k + 1) g h1 hn))
end K40

set_option Elab.async false
set_option linter.all false
set_option maxRecDepth 100000
set_option maxHeartbeats 4000000
/-! K40p7: the law's own numbers. -/
namespace K40
open PySem PD
theorem r_number (Φ : FEnv) (g : Hand) {s : List Int} (hs : Shape s) {n : Nat} (hn : n ≤ s.length) : runF Φ 0 7 b_law_number [T s, .int (n : Int)] g = .ret (.d (.int (numL s n))) g := by
  have l4 := hs.len4
  have ro : rngOk 0 (n : Int) = true := rngOk_0 (by omega) (by omega)
  have cm : compR Φ [6] (.nm 6) none (.tup [(.ix (.var 0) (.bin .Add (.bin .Sub (.blt .len [(.var 0)]) (.var 1)) (.var 6))), (.ix (.var 0) (.var 6))]) ((List.range n).map fun (i : Nat) => D.int (i : Int)) ⟨[.d (T s), .d (.int (n : Int)), .no, .no, .no, .no, .no], g⟩ = .ok ((List.range n).map fun i => pair (at0 s (s.length - n + i), at0 s i)) ⟨[.d (T s), .d (.int (n : Int)), .no, .no, .no, .no, .no], g⟩ := by
    refine compR_map (fun (i : Nat) => D.int (i : Int)) _ (fun i hi => ?_) (by rw [List.length_range]; exact Nat.le_trans (Nat.le_trans hn l4) (by decide))
    have hi := List.mem_range.mp hi
    refine ⟨_, rfl, .d (pair (at0 s (s.length - n + i), at0 s i)), ⟨[.d (T s), .d (.int (n : Int)), .no, .no, .no, .no, .d (.int (i : Int))], g⟩, ?_, rfl, rfl⟩
    have i2 := it_T0 (xs := s) (i := i) (by omega)
    have i3 := it_T (xs := s) (i := (s.length : Int) - n + i) (by omega) (by omega)
    rw [show ((s.length : Int) - n + i).toNat = s.length - n + i by omega] at i3
    have two : 2 ≤ sizeLine := by decide
    simp [i2, i3, two, pair]
  refine runF_rt ?_
  unfold numL
  by_cases cc : n = 2 ∧ s.length = 4
  · obtain ⟨n2, sl⟩ := cc
    rw [if_pos ⟨n2, sl⟩]
    have d1 : eqD (.int (n : Int)) (.int 2) = some true := by rw [eqD_int, decide_eq_true (by omega)]
    have d2 : eqD (.int (s.length : Int)) (.int 4) = some true := by rw [eqD_int, decide_eq_true (by omega)]
    have j0 : item (T s) (.int 0) = some (.int (at0 s 0)) := it_T0 (xs := s) (i := 0) (by omega)
    have j1 : item (T s) (.int 1) = some (.int (at0 s 1)) := it_T0 (xs := s) (i := 1) (by omega)
    have j2 : item (T s) (.int 2) = some (.int (at0 s 2)) := it_T0 (xs := s) (i := 2) (by omega)
    have j3 : item (T s) (.int 3) = some (.int (at0 s 3)) := it_T0 (xs := s) (i := 3) (by omega)
    have a0 := hs.at (i := 0) (by omega)
    have a1 := hs.at (i := 1) (by omega)
    have a2 := hs.at (i := 2) (by omega)
    have a3 := hs.at (i := 3) (by omega)
    have e62 : ∀ {i j : Int}, i.natAbs ≤ 2 ^ 63 → j.natAbs ≤ 2 ^ 63 → mulOk i j = true := fun {i j} h1 h2 => by
      have e : (2 : Nat) ^ 63 < 2 ^ 200 := by decide
      exact mulOk_of (by omega) (by omega)
    have m1 : mulOk (at0 s 2 - at0 s 3 + 1) (at0 s 0 - at0 s 2 + 1) = true := e62 (by omega) (by omega)
    have m2 : mulOk (at0 s 1 - at0 s 2) (at0 s 0 - at0 s 2 + at0 s 0 - at0 s 1 + 1) = true := e62 (by omega) (by omega)
    have dv : divOk 2 = true := divOk_of (by decide) (by decide)
    simp [b_law_number, srcL_r ro, rngL_0, cm, d1, d2, -eqD_int, j0, j1, j2, j3, mul_int m1, mul_int m2, fdiv_int dv]
  · rw [if_neg cc]
    have d1 : (eqD (.int (n : Int)) (.int 2) = some false) ∨ (eqD (.int (n : Int)) (.int 2) = some true ∧ eqD (.int (s.length : Int)) (.int 4) = some false) := by
      by_cases z : n = 2
      · exact .inr ⟨by rw [eqD_int, decide_eq_true (by omega)], by rw [eqD_int, decide_eq_false (by omega)]⟩
      · exact .inl (by rw [eqD_int, decide_eq_false (by omega)])
    obtain ⟨s', e, c3, c5, hst⟩ := forL_inv (f := evB Φ 0 [.set (.nm 4) (.bin .Mult (.var 4) (.bin .Add (.bin .Sub (.var 5) (.var 3)) (.k (.int 1))))]) (t := .tp [3, 5])
      (fun i st => ∃ c3 c5, st = ⟨[.d (T s), .d (.int (n : Int)), .d (.lst ((List.range n).map fun i => pair (at0 s (s.length - n + i), at0 s i))), c3, .d (.int (pr (fac s n) i)), c5, .no], g⟩) ((List.range n).map fun i => pair (at0 s (s.length - n + i), at0 s i)) 0
      ⟨[.d (T s), .d (.int (n : Int)), .d (.lst ((List.range n).map fun i => pair (at0 s (s.length - n + i), at0 s i))), .no, .d (.int 1), .no, .no], g⟩ ⟨.no, .no, rfl⟩ (by
      rintro i x st hx ⟨c3, c5, rfl⟩
      have hi : i < n := by
        have z := (List.getElem?_eq_some_iff.mp hx).1
        simpa using z
      have ex : x = pair (at0 s (s.length - n + i), at0 s i) := by
        rw [List.getElem?_map, List.getElem?_range hi] at hx
        exact (Option.some.inj hx).symm
      subst ex
      rw [Nat.zero_add]
      have mo := mul_pr (f := fac s n) (i := i) (by omega) fun j hj => fac_lt hs hn (by omega)
      have mi : binop .Mult (.int (pr (fac s n) i)) (.int (at0 s i - at0 s (s.length - n + i) + 1)) = some (.d (.int (pr (fac s n) i * fac s n i))) := mul_int mo
      refine ⟨_, rfl, ⟨[.d (T s), .d (.int (n : Int)), .d (.lst ((List.range n).map fun i => pair (at0 s (s.length - n + i), at0 s i))), .d (.int (at0 s (s.length - n + i))), .d (.int (pr (fac s n) (i + 1))), .d (.int (at0 s i)), .no], g⟩, .inl ?_, _, _, rfl⟩
      rw [pr_succ]
      generalize (List.range n).map (fun i => pair (at0 s (s.length - n + i), at0 s i)) = bq
      simp [mi])
    rw [Nat.zero_add, List.length_map, List.length_range] at hst
    subst hst
    have ep : pr (fac s n) n = prodN s n := rfl
    rw [ep] at e
    generalize (List.range n).map (fun i => pair (at0 s (s.length - n + i), at0 s i)) = bq at *
    generalize prodN s n = pn at *
    rcases d1 with d1 | ⟨d1, d2⟩
    · simp [b_law_number, srcL_r ro, rngL_0, cm, d1, -eqD_int, e]
    · simp [b_law_number, srcL_r ro, rngL_0, cm, d1, d2, -eqD_int, e]
theorem ev_number (k : Nat) (g : Hand) {s : List Int} (hs : Shape s) {n : Nat} (hn : n ≤ s.length) : phi defs 0 (k + 1) 21 [T s, .int (n : Int)] g = .ret (.d (.int (numL s n))) g :=
  (p_law_number_2 k _ _ g).trans (r_number _ g hs hn)
end K40

set_option Elab.async false
set_option linter.all false
set_option maxRecDepth 100000
set_option maxHeartbeats 4000000
/-! K40p8: plain things; draws of the hand. -/
namespace K40
open PySem PD
theorem r_plain {α : Type} (Φ : FEnv) (g : Hand) (e : α → D) (xs : List α) (h : ∀ x ∈ xs, Φ 17 [e x] g = .ret (.d (.bl true)) g) : runF Φ 0 2 b_law_plain [.tup (xs.map e)] g = .ret (.d (.bl true)) g := by
  obtain ⟨s', ⟨c, rfl⟩, e1⟩ := forL_map (f := evB Φ 0 [.ifS (.not (.call 17 [(.var 1)])) [.ret (.k (.bl false))] []]) (t := .nm 1) (fun st => ∃ c, st = ⟨[.d (.tup (xs.map e)), c], g⟩) e (fun _ => none) xs ⟨[.d (.tup (xs.map e)), .no], g⟩ ⟨.no, rfl⟩ (by
    rintro x hx st ⟨c, rfl⟩
    have z := h x hx
    refine ⟨_, rfl, _, ⟨.d (e x), rfl⟩, ?_⟩
    generalize xs.map e = q
    simp [z, flO])
  have fs : xs.findSome? (fun _ => (none : Option R)) = none := by simp
  rw [fs] at e1
  have e1 := e1.trans (show _ = Res.ok Fl.nx _ from rfl)
  generalize xs.map e = q at *
  refine runF_rt ?_
  simp [b_law_plain, e1]
theorem r_plain_int (Φ : FEnv) (g : Hand) (i : Int) (h : Φ 16 [.int i] g = .ret (.d (.bl true)) g) : runF Φ 0 2 b_law_plain [.int i] g = .ret (.d (.bl true)) g := by
  refine runF_rt ?_
  simp [b_law_plain, h]
theorem ev_plain_int (k : Nat) (g : Hand) (i : Int) : phi defs 0 (k + 2) 17 [.int i] g = .ret (.d (.bl true)) g :=
  (p_law_plain_1 (k + 1) _ g).trans (r_plain_int _ g i (ev_lint k g i))
theorem ev_plain_T (k : Nat) (g : Hand) (xs : List Int) : phi defs 0 (k + 3) 17 [T xs] g = .ret (.d (.bl true)) g :=
  (p_law_plain_1 (k + 2) _ g).trans (r_plain _ g D.int xs fun x _ => ev_plain_int k g x)
theorem ev_plain (k : Nat) (g : Hand) (rs : List (List Int)) : phi defs 0 (k + 4) 17 [.tup (rows rs)] g = .ret (.d (.bl true)) g :=
  (p_law_plain_1 (k + 3) _ g).trans (r_plain _ g T rs fun x _ => ev_plain_T k g x)
/-! ### the hand -/
theorem ev_mixed (k : Nat) (g : Hand) {a b : Int} (a0 : -(2 ^ 90) < a) (a1 : a < 2 ^ 90) (b0 : -(2 ^ 90) < b) (b1 : b < 2 ^ 90) : phi defs 0 (k + 1) 11 [.int a, .int b] g = .ret (.d (.int (mixed a b))) g :=
  (p_law_mixed_2 k _ _ g).trans (mixed_ok _ 0 g a0 a1 b0 b1)
theorem ev_take (k : Nat) {g : Hand} {n : Int} (hg : HandInv g) (h0 : 0 < n) (h1 : n < 2 ^ 90) : ∃ r g', phi defs 0 (k + 2) 12 [.hand, .int n] g = .ret (.d (.int r)) g' ∧ HandInv g' ∧ 0 ≤ r ∧ r < n := by
  obtain ⟨r, g', e, h⟩ := take_ok (phi defs 0 (k + 1)) 0 11 (fun g a b a0 a1 b0 b1 => ev_mixed k g a0 a1 b0 b1) hg h0 h1
  exact ⟨r, g', (p_law_take_2 (k + 1) _ _ g).trans e, h⟩
theorem r_lmany (Φ : FEnv) {g g' : Hand} {r : Int} (h : Φ 12 [.hand, .int 8] g = .ret (.d (.int r)) g') (h0 : 0 ≤ r) (h8 : r < 8) : ∃ c : Nat, runF Φ 0 1 b_law_many [.hand] g = .ret (.d (.int (c : Int))) g' ∧ 1 ≤ c ∧ c ≤ 4 := by
  have z : 8 ≤ sizeLine := by decide
  have it : ∀ (xs : List D) (c : Nat), xs[r.toNat]? = some (.int (c : Int)) → item (.tup xs) (.int r) = some (.int (c : Int)) := fun xs c h => item_tup h0 h
  obtain ⟨c, hc, c1, c4⟩ : ∃ c : Nat, ([.int 2, .int 3, .int 2, .int 3, .int 3, .int 1, .int 4, .int 2] : List D)[r.toNat]? = some (.int (c : Int)) ∧ 1 ≤ c ∧ c ≤ 4 := by
    have hr : r.toNat < 8 := by omega
    generalize r.toNat = m at hr
    match m, hr with
    | 0, _ => exact ⟨2, rfl, by decide, by decide⟩
    | 1, _ => exact ⟨3, rfl, by decide, by decide⟩
    | 2, _ => exact ⟨2, rfl, by decide, by decide⟩
    | 3, _ => exact ⟨3, rfl, by decide, by decide⟩
    | 4, _ => exact ⟨3, rfl, by decide, by decide⟩
    | 5, _ => exact ⟨1, rfl, by decide, by decide⟩
    | 6, _ => exact ⟨4, rfl, by decide, by decide⟩
    | 7, _ => exact ⟨2, rfl, by decide, by decide⟩
  have i1 := it _ c hc
  refine ⟨c, runF_rt ?_, c1, c4⟩
  simp [b_law_many, z, h, i1]
theorem ev_lmany (k : Nat) {g : Hand} (hg : HandInv g) : ∃ (c : Nat) (g' : Hand), phi defs 0 (k + 3) 13 [.hand] g = .ret (.d (.int (c : Int))) g' ∧ HandInv g' ∧ 1 ≤ c ∧ c ≤ 4 := by
  obtain ⟨r, g', e, hi, h0, h8⟩ := ev_take k hg (n := 8) (by decide) (by decide)
  obtain ⟨c, e2, h⟩ := r_lmany (phi defs 0 (k + 2)) e h0 h8
  exact ⟨c, g', (p_law_many_1 (k + 2) _ g).trans e2, hi, h⟩
theorem ev_row (k : Nat) {g : Hand} (s : List Int) (hg : HandInv g) : ∃ (b : Bool) (r : R) (g' : Hand), phi defs 0 (k + 3) 15 [.hand, T s] g = .ret r g' ∧ r.D = Sq b s ∧ HandInv g' := by
  obtain ⟨r, g', e, hi, h0, h8⟩ := ev_take k hg (n := 2) (by decide) (by decide)
  have go : ∀ Φ : FEnv, Φ 12 [.hand, .int 2] g = .ret (.d (.int r)) g' → ∃ (b : Bool) (q : R), runF Φ 0 2 b_law_row [.hand, T s] g = .ret q g' ∧ q.D = Sq b s := fun Φ e => by
    by_cases z : r = 0
    · refine ⟨false, .d (T s), runF_rt ?_, rfl⟩
      subst z
      simp [b_law_row, e]
    · refine ⟨true, .f (s.map .int), runF_rt ?_, rfl⟩
      simp [b_law_row, e, z]
  obtain ⟨b, q, e2, e3⟩ := go _ e
  exact ⟨b, q, g', (p_law_row_2 (k + 2) _ _ g).trans e2, e3, hi⟩
end K40

set_option Elab.async false
set_option linter.all false
set_option maxRecDepth 100000
set_option maxHeartbeats 4000000
/-! K40p9: drawn shapes. -/
namespace K40
open PySem PD
theorem mem_insI {x y : Int} : ∀ {ys : List Int}, y ∈ insI x ys ↔ y = x ∨ y ∈ ys
  | [] => by simp [insI]
  | z :: ys => by
    unfold insI
    split
    · simp
    · rw [List.mem_cons, mem_insI (ys := ys), List.mem_cons]
      constructor
      · rintro (h | h | h)
        · exact .inr (.inl h)
        · exact .inl h
        · exact .inr (.inr h)
      · rintro (h | h | h)
        · exact .inr (.inl h)
        · exact .inl h
        · exact .inr (.inr h)
theorem len_insI {x : Int} : ∀ {ys : List Int}, (insI x ys).length = ys.length + 1
  | [] => rfl
  | z :: ys => by
    unfold insI
    split
    · rfl
    · rw [List.length_cons, len_insI, List.length_cons]
theorem sort_insI {x : Int} : ∀ {ys : List Int}, ys.Pairwise (· ≤ ·) → (insI x ys).Pairwise (· ≤ ·)
  | [], _ => by simp [insI]
  | z :: ys, h => by
    unfold insI
    split
    · rename_i hx
      refine List.pairwise_cons.mpr ⟨fun a ha => ?_, h⟩
      rcases List.mem_cons.mp ha with rfl | ha
      · exact hx
      · exact Int.le_trans hx (List.rel_of_pairwise_cons h ha)
    · rename_i hx
      refine List.pairwise_cons.mpr ⟨fun a ha => ?_, sort_insI (List.pairwise_cons.mp h).2⟩
      rcases mem_insI.mp ha with rfl | ha
      · omega
      · exact List.rel_of_pairwise_cons h ha
theorem mem_sortI {y : Int} : ∀ {ns : List Int}, y ∈ sortI ns ↔ y ∈ ns
  | [] => Iff.rfl
  | n :: ns => by
    show y ∈ insI n (sortI ns) ↔ _
    rw [mem_insI, mem_sortI, List.mem_cons]
theorem len_sortI : ∀ {ns : List Int}, (sortI ns).length = ns.length
  | [] => rfl
  | n :: ns => by
    show (insI n (sortI ns)).length = _
    rw [len_insI, len_sortI]; rfl
theorem sort_sortI : ∀ ns : List Int, (sortI ns).Pairwise (· ≤ ·)
  | [] => List.Pairwise.nil
  | n :: ns => sort_insI (sort_sortI ns)
theorem shape_of {ns : List Int} {B : Int} (h1 : 1 ≤ ns.length) (h4 : ns.length ≤ 4) (hB : B ≤ 2 ^ 60) (h : ∀ x ∈ ns, 0 ≤ x ∧ x < B) : Shape (sortI ns).reverse ∧ at0 (sortI ns).reverse 0 < B := by
  have mem : ∀ x ∈ (sortI ns).reverse, 0 ≤ x ∧ x < B := fun x hx => h x (mem_sortI.mp (List.mem_reverse.mp hx))
  have ln : (sortI ns).reverse.length = ns.length := by rw [List.length_reverse, len_sortI]
  refine ⟨⟨by omega, by omega, fun x hx => (mem x hx).1, fun x hx => Int.lt_of_lt_of_le (mem x hx).2 hB, fun i hi => ?_⟩, (mem _ (at0_mem (by omega))).2⟩
  have p : (sortI ns).reverse.Pairwise (fun a b => b ≤ a) := List.pairwise_reverse.mpr (sort_sortI ns)
  have z := List.pairwise_iff_getElem.mp p i (i + 1) (by omega) hi (by omega)
  unfold at0
  rw [List.getD_eq_getElem?_getD, List.getD_eq_getElem?_getD, List.getElem?_eq_getElem hi, List.getElem?_eq_getElem (show i < (sortI ns).reverse.length by omega)]
  exact z
theorem toInts_map : ∀ ns : List Int, toInts (ns.map .int) = some ns
  | [] => rfl
  | n :: ns => by
    show (toInts (ns.map .int)).map (n :: ·) = _
    rw [toInts_map ns]; rfl
theorem ints_of {B : Int} : ∀ {ys : List D}, (∀ y ∈ ys, ∃ r : Int, y = .int r ∧ 0 ≤ r ∧ r < B) → ∃ ns : List Int, ys = ns.map .int ∧ ∀ x ∈ ns, 0 ≤ x ∧ x < B
  | [], _ => ⟨[], rfl, fun x z => by cases z⟩
  | y :: ys, h => by
    obtain ⟨r, rfl, hr⟩ := h y List.mem_cons_self
    obtain ⟨ns, rfl, hn⟩ := ints_of (ys := ys) fun z hz => h z (List.mem_cons_of_mem _ hz)
    exact ⟨r :: ns, rfl, fun x hx => by
      rcases List.mem_cons.mp hx with rfl | hx
      · exact hr
      · exact hn x hx⟩
theorem sorted_ints (ns : List Int) : blt .sorted [.lst (ns.map .int)] = some (.f ((sortI ns).map .int)) := by
  show (toInts (ns.map .int)).map _ = _
  rw [toInts_map]; rfl
theorem r_parts (Φ : FEnv) {g : Hand} {c : Nat} {m : Int} (hg : HandInv g) (h1 : 1 ≤ c) (h4 : c ≤ 4) (hm : 0 ≤ m) (hB : m + 1 ≤ 2 ^ 60) (tk : ∀ g, HandInv g → ∃ r g', Φ 12 [.hand, .int (m + 1)] g = .ret (.d (.int r)) g' ∧ HandInv g' ∧ 0 ≤ r ∧ r < m + 1) :
    ∃ s g', runF Φ 0 4 b_law_parts [.hand, .int (c : Int), .int m] g = .ret (.d (T s)) g' ∧ HandInv g' ∧ Shape s ∧ s.length = c ∧ at0 s 0 ≤ m := by
  have ro : rngOk 0 (c : Int) = true := rngOk_0 (by omega) (by omega)
  obtain ⟨ys, s', cm, ⟨g', rfl, hi⟩, ly, py⟩ := compR_inv (Φ := Φ) (vs := [3]) (t := .nm 3) (elt := .call 12 [(.var 0), (.bin .Add (.var 2) (.k (.int 1)))]) (fun st => ∃ g', st = ⟨[.d .hand, .d (.int (c : Int)), .d (.int m), .no], g'⟩ ∧ HandInv g') (fun y => ∃ r : Int, y = .int r ∧ 0 ≤ r ∧ r < m + 1) (fun (i : Nat) => D.int (i : Int)) (xs := List.range c) (s := ⟨[.d .hand, .d (.int (c : Int)), .d (.int m), .no], g⟩) ⟨g, rfl, hg⟩ (by
    rintro x hx st ⟨g1, rfl, h1⟩
    obtain ⟨r, g2, e, h2, h3, h4⟩ := tk g1 h1
    refine ⟨_, rfl, .d (.int r), ⟨[.d .hand, .d (.int (c : Int)), .d (.int m), .d (.int (x : Int))], g2⟩, ?_, ⟨g2, rfl, h2⟩, r, rfl, h3, h4⟩
    simp [e]) (by rw [List.length_range]; exact Nat.le_trans h4 (by decide))
  obtain ⟨ns, rfl, hn⟩ := ints_of py
  rw [List.length_map, List.length_range] at ly
  obtain ⟨sh, a0⟩ := shape_of (ns := ns) (B := m + 1) (by omega) (by omega) hB hn
  refine ⟨(sortI ns).reverse, g', runF_rt ?_, hi, sh, by rw [List.length_reverse, len_sortI]; exact ly, by omega⟩
  have so := sorted_ints ns
  generalize sortI ns = q at *
  generalize ns.map D.int = yd at *
  simp [b_law_parts, srcL_r ro, rngL_0, cm, so, revD]
theorem ev_parts (k : Nat) {g : Hand} {c : Nat} {m : Int} (hg : HandInv g) (h1 : 1 ≤ c) (h4 : c ≤ 4) (hm : 0 ≤ m) (hB : m + 1 ≤ 2 ^ 60) :
    ∃ s g', phi defs 0 (k + 3) 14 [.hand, .int (c : Int), .int m] g = .ret (.d (T s)) g' ∧ HandInv g' ∧ Shape s ∧ s.length = c ∧ at0 s 0 ≤ m := by
  obtain ⟨s, g', e, h⟩ := r_parts (phi defs 0 (k + 2)) hg h1 h4 hm hB fun g hg => ev_take k hg (by omega) (by omega)
  exact ⟨s, g', (p_law_parts_3 (k + 2) _ _ _ g).trans e, h⟩
end K40

set_option Elab.async false
set_option linter.all false
set_option maxRecDepth 100000
set_option maxHeartbeats 4000000
/-! K40q: equal tuples. -/
namespace K40
open PySem PD
theorem pys_map (xs : List D) : D.pys xs = xs.map D.py := by
  induction xs with
  | nil => rfl
  | cons x xs ih => rw [D.pys, ih]; rfl
theorem eqv_ints : ∀ xs : List Int, PyData.eqvAll ((xs.map D.int).map D.py) ((xs.map D.int).map D.py) = true
  | [] => by simp [PyData.eqvAll]
  | x :: xs => by
    have ih := eqv_ints xs
    simp only [List.map_cons, PyData.eqvAll, D.py, PyData.eqv, beq_self_eq_true, Bool.true_and]
    exact ih
theorem lay_ints : ∀ xs : List Int, PyData.canLayAll0 ((xs.map D.int).map D.py) = true ∧ PyData.depthAll ((xs.map D.int).map D.py) = 0
  | [] => by simp [PyData.canLayAll0, PyData.depthAll]
  | x :: xs => by
    obtain ⟨a, b⟩ := lay_ints xs
    simp only [List.map_cons, PyData.canLayAll0, PyData.depthAll, D.py, PyData.canLay0, PyData.depth, Bool.true_and]
    exact ⟨a, by rw [b]; rfl⟩
theorem eqD_T (xs : List Int) : eqD (T xs) (T xs) = some true := by
  obtain ⟨a, b⟩ := lay_ints xs
  have c := eqv_ints xs
  unfold eqD SeqAt.shaped
  simp only [D.py, pys_map, PyData.canLay0, PyData.depth, PyData.eqv, a, b, c]
  rfl
theorem eqv_rows : ∀ rs : List (List Int), PyData.eqvAll ((rows rs).map D.py) ((rows rs).map D.py) = true
  | [] => by simp [rows, PyData.eqvAll]
  | x :: xs => by
    have ih := eqv_rows xs
    have c := eqv_ints x
    have e : rows (x :: xs) = T x :: rows xs := rfl
    rw [e]
    simp only [List.map_cons, PyData.eqvAll, D.py, pys_map, PyData.eqv, c, Bool.true_and]
    exact ih
theorem lay_rows : ∀ rs : List (List Int), PyData.canLayAll0 ((rows rs).map D.py) = true ∧ PyData.depthAll ((rows rs).map D.py) ≤ 1
  | [] => by simp [rows, PyData.canLayAll0, PyData.depthAll]
  | x :: xs => by
    obtain ⟨a, b⟩ := lay_rows xs
    obtain ⟨c, d⟩ := lay_ints x
    have e : rows (x :: xs) = T x :: rows xs := rfl
    rw [e]
    simp only [List.map_cons, PyData.canLayAll0, PyData.depthAll, D.py, pys_map, PyData.canLay0, PyData.depth, c, d, Bool.true_and]
    exact ⟨a, by omega⟩
theorem eqD_rows (rs : List (List Int)) : eqD (.tup (rows rs)) (.tup (rows rs)) = some true := by
  obtain ⟨a, b⟩ := lay_rows rs
  have c := eqv_rows rs
  have d : decide (PyData.depthAll ((rows rs).map D.py) + 1 ≤ 64) = true := decide_eq_true (by omega)
  unfold eqD SeqAt.shaped
  simp only [D.py, pys_map, PyData.canLay0, PyData.depth, PyData.eqv, a, c, d]
  rfl
end K40

set_option Elab.async false
set_option linter.all false
set_option maxRecDepth 100000
set_option maxHeartbeats 4000000
/-! K40r: the law's loops. -/
namespace K40
open PySem PD
/-- the passed thing in its slot -/
def Cp (b : Bool) (s : List Int) (c : Cell) : Prop := c = .d (Sq b s) ∨ (b = true ∧ c = .own (s.map .int))
theorem part_shape {m : Int} (hm : 0 ≤ m) (h : m < 2 ^ 60) {n : Nat} (h1 : 1 ≤ n) (h4 : n ≤ 4) {p : List Int} (hp : p ∈ falls m n) : Shape p := by
  obtain ⟨a, b⟩ := falls_mem hm n p hp
  have l := falls_len n p hp
  exact ⟨by omega, by omega, fun x hx => (a x hx).1, fun x hx => by have := (a x hx).2; omega, b⟩
abbrev body22 : List S := [.ifS (.not (.call 22 [(.var 3), (.var 4), (.var 6)])) [.ret (.k (.bl false))] []]
theorem inner22 (Φ : FEnv) (g : Hand) {b : Bool} {s : List Int} {ps : List (List Int)} (h : ∀ p ∈ ps, Φ 22 [T s, Sq b s, T p] g = .ret (.d (.bl true)) g) {c0 c1 c2 cp c5 c6 c7 c8 c9 c10 c11 : Cell} (hc : Cp b s cp) :
    ∃ cp' c6', Cp b s cp' ∧ forL (evB Φ 0 body22) (.nm 6) (rows ps) ⟨[c0, c1, c2, .d (T s), cp, c5, c6, c7, c8, c9, c10, c11], g⟩ = .ok .nx ⟨[c0, c1, c2, .d (T s), cp', c5, c6', c7, c8, c9, c10, c11], g⟩ := by
  obtain ⟨s', ⟨cp', c6', rfl, hc'⟩, e1⟩ := forL_map (f := evB Φ 0 body22) (t := .nm 6) (fun st => ∃ cp c6, st = ⟨[c0, c1, c2, .d (T s), cp, c5, c6, c7, c8, c9, c10, c11], g⟩ ∧ Cp b s cp) T (fun _ => none) ps ⟨[c0, c1, c2, .d (T s), cp, c5, c6, c7, c8, c9, c10, c11], g⟩ ⟨cp, c6, rfl, hc⟩ (by
    rintro p hp st ⟨cp, c6, rfl, hc⟩
    have z := h p hp
    refine ⟨_, rfl, ⟨[c0, c1, c2, .d (T s), .d (Sq b s), c5, .d (T p), c7, c8, c9, c10, c11], g⟩, ⟨_, _, rfl, .inl rfl⟩, ?_⟩
    rcases hc with rfl | ⟨rfl, rfl⟩
    · generalize Sq b s = q at *
      simp [body22, z, flO]
    · have z : Φ 22 [T s, L s, T p] g = .ret (.d (.bl true)) g := z
      have e : Sq true s = L s := rfl
      rw [e]
      simp [body22, z, flO])
  have fs : ps.findSome? (fun _ => (none : Option R)) = none := by simp
  rw [fs] at e1
  exact ⟨cp', c6', hc', e1.trans (show _ = Res.ok Fl.nx _ from rfl)⟩
abbrev bodyS : List S := [.forS (.nm 6) .seq [(.call 18 [(.var 5), (.bin .Add (.ix (.var 3) (.k (.int 0))) (.k (.int 1)))])] body22, .set (.nm 7) (.call 20 [(.var 3), (.var 5)]), .set (.nm 8) (.call 9 [(.var 4), (.var 5)]), .ifS (.or (.not (.call 17 [(.var 8)])) (.cmp .NotEq (.var 8) (.blt .tuple [(.var 7)]))) [.ret (.k (.bl false))] [], .set (.nm 9) (.call 10 [(.var 4), (.var 5)]), .ifS (.or (.not (.call 16 [(.var 9)])) (.or (.cmp .NotEq (.var 9) (.blt .len [(.var 7)])) (.cmp .NotEq (.var 9) (.call 21 [(.var 3), (.var 5)])))) [.ret (.k (.bl false))] []]
theorem turn1 (Φ : FEnv) (g : Hand) {b : Bool} {s : List Int} {n : Nat} {r : R} {ps F : List (List Int)} {N : Int} (hs : 1 ≤ s.length) (h18 : Φ 18 [.int (n : Int), .int (at0 s 0 + 1)] g = .ret r g) (hr : r.D = .lst (rows ps)) (h22 : ∀ p ∈ ps, Φ 22 [T s, Sq b s, T p] g = .ret (.d (.bl true)) g)
    (h20 : Φ 20 [T s, .int (n : Int)] g = .ret (.f (rows F)) g) (h9 : Φ 9 [Sq b s, .int (n : Int)] g = .ret (.d (.tup (rows F))) g) (h17 : Φ 17 [.tup (rows F)] g = .ret (.d (.bl true)) g) (h10 : Φ 10 [Sq b s, .int (n : Int)] g = .ret (.d (.int N)) g) (h16 : Φ 16 [.int N] g = .ret (.d (.bl true)) g) (h21 : Φ 21 [T s, .int (n : Int)] g = .ret (.d (.int N)) g) (hN : (F.length : Int) = N)
    {c0 c1 c2 cp c6 c7 c8 c9 c10 c11 : Cell} (hc : Cp b s cp) :
    ∃ cp' c6' c7' c8' c9', Cp b s cp' ∧ evB Φ 0 bodyS ⟨[c0, c1, c2, .d (T s), cp, .d (.int (n : Int)), c6, c7, c8, c9, c10, c11], g⟩ = .ok .nx ⟨[c0, c1, c2, .d (T s), cp', .d (.int (n : Int)), c6', c7', c8', c9', c10, c11], g⟩ := by
  obtain ⟨cp', c6', hc', e⟩ := inner22 Φ g h22 (c0 := c0) (c1 := c1) (c2 := c2) (c5 := .d (.int (n : Int))) (c6 := c6) (c7 := c7) (c8 := c8) (c9 := c9) (c10 := c10) (c11 := c11) hc
  have i0 : item (T s) (.int 0) = some (.int (at0 s 0)) := it_T0 (xs := s) (i := 0) (by omega)
  have eq1 := eqD_rows F
  have eq2 : eqD (.int N) (.int N) = some true := by rw [eqD_int, decide_eq_true rfl]
  have hl : ((rows F).length : Int) = N := by rw [rows_len]; exact hN
  have ln : blt .len [.lst (rows F)] = some (.d (.int N)) := by rw [len_lst, hl]
  refine ⟨.d (Sq b s), c6', .own (rows F), .d (.tup (rows F)), .d (.int N), .inl rfl, ?_⟩
  generalize rows F = rf at *
  generalize rows ps = rp at *
  rcases hc' with rfl | ⟨rfl, rfl⟩
  · generalize Sq b s = q at *
    simp [bodyS, i0, h18, hr, e, h20, h9, h17, eq1, eq2, h10, h16, h21, ln, -len_lst, -eqD_int]
  · have e1 : Sq true s = L s := rfl
    have h9 : Φ 9 [L s, .int (n : Int)] g = .ret (.d (.tup rf)) g := h9
    have h10 : Φ 10 [L s, .int (n : Int)] g = .ret (.d (.int N)) g := h10
    rw [e1]
    simp [bodyS, i0, h18, hr, e, h20, h9, h17, eq1, eq2, h10, h16, h21, ln, -len_lst, -eqD_int]
/-- what the callees answer about one size -/
def SizeOk (Φ : FEnv) (g : Hand) (b : Bool) (s : List Int) (n : Nat) : Prop := ∃ (r : R) (ps F : List (List Int)) (N : Int), Φ 18 [.int (n : Int), .int (at0 s 0 + 1)] g = .ret r g ∧ r.D = .lst (rows ps) ∧ (∀ p ∈ ps, Φ 22 [T s, Sq b s, T p] g = .ret (.d (.bl true)) g) ∧
  Φ 20 [T s, .int (n : Int)] g = .ret (.f (rows F)) g ∧ Φ 9 [Sq b s, .int (n : Int)] g = .ret (.d (.tup (rows F))) g ∧ Φ 17 [.tup (rows F)] g = .ret (.d (.bl true)) g ∧ Φ 10 [Sq b s, .int (n : Int)] g = .ret (.d (.int N)) g ∧ Φ 16 [.int N] g = .ret (.d (.bl true)) g ∧ Φ 21 [T s, .int (n : Int)] g = .ret (.d (.int N)) g ∧ (F.length : Int) = N
theorem size_ok (g : Hand) (b : Bool) {s : List Int} (hs : Shape s) (h7 : at0 s 0 ≤ 7) {n : Nat} (h1 : 1 ≤ n) (hn : n ≤ s.length) : SizeOk (phi defs 0 20) g b s n := by
  have l4 := hs.len4
  have a0 := (hs.at (i := 0) (by omega)).1
  obtain ⟨r, e, hr⟩ := ev_falls 19 g (m := at0 s 0 + 1) (by omega) (by omega) (n := n) (by omega)
  refine ⟨r, falls (at0 s 0 + 1) n, fr (bnds s n), cnt s n, e, hr, fun p hp => ?_, ev_woven 18 g hs (by omega) hn, ev_wshapes 16 g b hs (by omega) h1 hn, ev_plain 16 g _, ev_count 16 g b hs h1 hn, ev_lint 19 g _, ?_, fr_cnt hs h1 hn⟩
  · exact ev_right 14 g b hs (part_shape (by omega) (by omega) h1 (by omega) hp) (by rw [falls_len n p hp]; exact hn)
  · rw [cnt_numL hs hn]
    exact ev_number 19 g hs hn
theorem loop1 (Φ : FEnv) (g : Hand) {b : Bool} {s : List Int} (hs : 1 ≤ s.length) (h : ∀ n, 1 ≤ n → n ≤ s.length → SizeOk Φ g b s n) {c0 c1 c2 cp c5 c6 c7 c8 c9 c10 c11 : Cell} (hc : Cp b s cp) :
    ∃ cp' c5' c6' c7' c8' c9', Cp b s cp' ∧ forL (evB Φ 0 bodyS) (.nm 5) ((rng 1 ((s.length : Int) + 1)).map .int) ⟨[c0, c1, c2, .d (T s), cp, c5, c6, c7, c8, c9, c10, c11], g⟩ = .ok .nx ⟨[c0, c1, c2, .d (T s), cp', c5', c6', c7', c8', c9', c10, c11], g⟩ := by
  obtain ⟨s', ⟨cp', c5', c6', c7', c8', c9', rfl, hc'⟩, e1⟩ := forL_map (f := evB Φ 0 bodyS) (t := .nm 5) (fun st => ∃ cp c5 c6 c7 c8 c9, st = ⟨[c0, c1, c2, .d (T s), cp, c5, c6, c7, c8, c9, c10, c11], g⟩ ∧ Cp b s cp) D.int (fun _ => none) (rng 1 ((s.length : Int) + 1)) ⟨[c0, c1, c2, .d (T s), cp, c5, c6, c7, c8, c9, c10, c11], g⟩ ⟨cp, c5, c6, c7, c8, c9, rfl, hc⟩ (by
    rintro x hx st ⟨cp, c5, c6, c7, c8, c9, rfl, hc⟩
    obtain ⟨x1, x2⟩ := mem_rng.mp hx
    obtain ⟨n, rfl⟩ : ∃ n : Nat, x = (n : Int) := ⟨x.toNat, by omega⟩
    obtain ⟨r, ps, F, N, q1, q2, q3, q4, q5, q6, q7, q8, q9, q10⟩ := h n (by omega) (by omega)
    obtain ⟨cp', c6', c7', c8', c9', hc', e⟩ := turn1 Φ g hs q1 q2 q3 q4 q5 q6 q7 q8 q9 q10 (c0 := c0) (c1 := c1) (c2 := c2) (c6 := c6) (c7 := c7) (c8 := c8) (c9 := c9) (c10 := c10) (c11 := c11) hc
    exact ⟨_, rfl, _, ⟨cp', .d (.int (n : Int)), c6', c7', c8', c9', rfl, hc'⟩, e⟩)
  have fs : (rng 1 ((s.length : Int) + 1)).findSome? (fun _ => (none : Option R)) = none := by simp
  rw [fs] at e1
  exact ⟨cp', c5', c6', c7', c8', c9', hc', e1.trans (show _ = Res.ok Fl.nx _ from rfl)⟩
end K40

set_option Elab.async false
set_option linter.all false
set_option maxRecDepth 100000
set_option maxHeartbeats 4000000
/-! K40s: the law's second half. -/
namespace K40
open PySem PD
abbrev bodyG : List S := [.set (.nm 9) (.call 10 [(.call 15 [(.var 1), (.var 10)]), (.var 5)]), .ifS (.or (.not (.call 16 [(.var 9)])) (.cmp .NotEq (.var 9) (.call 21 [(.var 10), (.var 5)]))) [.ret (.k (.bl false))] []]
theorem loop2 (Φ : FEnv) {g : Hand} (hg : HandInv g) {s : List Int} (h15 : ∀ g, HandInv g → ∃ (b : Bool) (r : R) (g' : Hand), Φ 15 [.hand, T s] g = .ret r g' ∧ r.D = Sq b s ∧ HandInv g') (h10 : ∀ (b : Bool) (g : Hand) (n : Nat), 1 ≤ n → n ≤ s.length → ∃ N : Int, Φ 10 [Sq b s, .int (n : Int)] g = .ret (.d (.int N)) g ∧ Φ 16 [.int N] g = .ret (.d (.bl true)) g ∧ Φ 21 [T s, .int (n : Int)] g = .ret (.d (.int N)) g)
    {c0 c2 c3 c4 c5 c6 c7 c8 c9 c11 : Cell} :
    ∃ c5' c9' g', HandInv g' ∧ forL (evB Φ 0 bodyG) (.nm 5) ((rng 1 ((s.length : Int) + 1)).map .int) ⟨[c0, .d .hand, c2, c3, c4, c5, c6, c7, c8, c9, .d (T s), c11], g⟩ = .ok .nx ⟨[c0, .d .hand, c2, c3, c4, c5', c6, c7, c8, c9', .d (T s), c11], g'⟩ := by
  obtain ⟨s', ⟨c5', c9', g', rfl, hi⟩, e1⟩ := forL_map (f := evB Φ 0 bodyG) (t := .nm 5) (fun st => ∃ c5 c9 g, st = ⟨[c0, .d .hand, c2, c3, c4, c5, c6, c7, c8, c9, .d (T s), c11], g⟩ ∧ HandInv g) D.int (fun _ => none) (rng 1 ((s.length : Int) + 1)) ⟨[c0, .d .hand, c2, c3, c4, c5, c6, c7, c8, c9, .d (T s), c11], g⟩ ⟨c5, c9, g, rfl, hg⟩ (by
    rintro x hx st ⟨c5, c9, g, rfl, hg⟩
    obtain ⟨x1, x2⟩ := mem_rng.mp hx
    obtain ⟨n, rfl⟩ : ∃ n : Nat, x = (n : Int) := ⟨x.toNat, by omega⟩
    obtain ⟨b, r, g', q1, q2, q3⟩ := h15 g hg
    obtain ⟨N, q4, q5, q6⟩ := h10 b g' n (by omega) (by omega)
    have eq2 : eqD (.int N) (.int N) = some true := by rw [eqD_int, decide_eq_true rfl]
    rw [← q2] at q4
    refine ⟨_, rfl, ⟨[c0, .d .hand, c2, c3, c4, .d (.int (n : Int)), c6, c7, c8, .d (.int N), .d (T s), c11], g'⟩, ⟨_, _, g', rfl, q3⟩, ?_⟩
    simp [bodyG, q1, q4, q5, q6, eq2, -eqD_int, flO])
  have fs : (rng 1 ((s.length : Int) + 1)).findSome? (fun _ => (none : Option R)) = none := by simp
  rw [fs] at e1
  exact ⟨c5', c9', g', hi, e1.trans (show _ = Res.ok Fl.nx _ from rfl)⟩
end K40

set_option Elab.async false
set_option linter.all false
set_option maxRecDepth 100000
set_option maxHeartbeats 4000000
/-! K40t: the great shape is drawn. -/
namespace K40
open PySem PD
theorem great (Φ : FEnv) {g : Hand} (hg : HandInv g) {c : Nat} (h1 : 1 ≤ c) (h4 : c ≤ 4) (tk : ∀ g, HandInv g → ∃ r g', Φ 12 [.hand, .int 1000000000001] g = .ret (.d (.int r)) g' ∧ HandInv g' ∧ 0 ≤ r ∧ r < 1000000000001) {c0 c2 c3 c4 c5 c6 c7 c8 c9 c10 : Cell} :
    ∃ (ns : List Int) (g' : Hand), compR Φ [11] (.nm 11) none (.call 12 [(.var 1), (.bin .Add (.bin .Pow (.k (.int 10)) (.k (.int 12))) (.k (.int 1)))]) (rngL 0 (c : Int)) ⟨[c0, .d .hand, c2, c3, c4, c5, c6, c7, c8, c9, c10, .no], g⟩ = .ok (ns.map .int) ⟨[c0, .d .hand, c2, c3, c4, c5, c6, c7, c8, c9, c10, .no], g'⟩ ∧ HandInv g' ∧ Shape (sortI ns).reverse := by
  have pw : powOk 10 12 = true := by decide +kernel
  rw [rngL_0]
  obtain ⟨ys, s', cm, ⟨g', rfl, hi⟩, ly, py⟩ := compR_inv (Φ := Φ) (vs := [11]) (t := .nm 11) (elt := .call 12 [(.var 1), (.bin .Add (.bin .Pow (.k (.int 10)) (.k (.int 12))) (.k (.int 1)))]) (fun st => ∃ g', st = ⟨[c0, .d .hand, c2, c3, c4, c5, c6, c7, c8, c9, c10, .no], g'⟩ ∧ HandInv g') (fun y => ∃ r : Int, y = .int r ∧ 0 ≤ r ∧ r < 1000000000001) (fun (i : Nat) => D.int (i : Int)) (xs := List.range c) (s := ⟨[c0, .d .hand, c2, c3, c4, c5, c6, c7, c8, c9, c10, .no], g⟩) ⟨g, rfl, hg⟩ (by
    rintro x hx st ⟨g1, rfl, h1⟩
    obtain ⟨r, g2, e, h2, h3, h4⟩ := tk g1 h1
    refine ⟨_, rfl, .d (.int r), ⟨[c0, .d .hand, c2, c3, c4, c5, c6, c7, c8, c9, c10, .d (.int (x : Int))], g2⟩, ?_, ⟨g2, rfl, h2⟩, r, rfl, h3, h4⟩
    simp [pow_int pw, e]) (by rw [List.length_range]; exact Nat.le_trans h4 (by decide))
  obtain ⟨ns, rfl, hn⟩ := ints_of py
  rw [List.length_map, List.length_range] at ly
  obtain ⟨sh, _⟩ := shape_of (ns := ns) (B := 1000000000001) (by omega) (by omega) (by decide) hn
  exact ⟨ns, g', cm, hi, sh⟩
end K40

set_option Elab.async false
set_option linter.all false
set_option maxRecDepth 100000
set_option maxHeartbeats 4000000
/-! K40p: the law answers True. -/
namespace K40
open PySem PD
theorem r_law (Φ : FEnv) {g0 g1 g2 g3 g4 g5 g6 g7 : Hand} {c d : Nat} {r8 : Int} {s ns : List Int} {b : Bool} {rr : R} {cp cp' c5 c6 c7 c8 c9 c5' c9' : Cell} (hs : 1 ≤ s.length) (lc : s.length = c) (d4 : d ≤ 4)
    (q13 : Φ 13 [.hand] g0 = .ret (.d (.int (c : Int))) g1) (q12 : Φ 12 [.hand, .int 8] g1 = .ret (.d (.int r8)) g2) (q14 : Φ 14 [.hand, .int (c : Int), .int (if r8 = 7 then 7 else 4)] g2 = .ret (.d (T s)) g3) (q15 : Φ 15 [.hand, T s] g3 = .ret rr g4)
    (hcp : setT (.nm 4) rr ⟨[.no, .d .hand, .d (.int (c : Int)), .d (T s), .no, .no, .no, .no, .no, .no, .no, .no], g4⟩ = some ⟨[.no, .d .hand, .d (.int (c : Int)), .d (T s), cp, .no, .no, .no, .no, .no, .no, .no], g4⟩)
    (e1 : forL (evB Φ 0 bodyS) (.nm 5) ((rng 1 ((s.length : Int) + 1)).map .int) ⟨[.no, .d .hand, .d (.int (c : Int)), .d (T s), cp, .no, .no, .no, .no, .no, .no, .no], g4⟩ = .ok .nx ⟨[.no, .d .hand, .d (.int (c : Int)), .d (T s), cp', c5, c6, c7, c8, c9, .no, .no], g4⟩) (hc' : Cp b s cp')
    (q13' : Φ 13 [.hand] g4 = .ret (.d (.int (d : Int))) g5)
    (cm : compR Φ [11] (.nm 11) none (.call 12 [(.var 1), (.bin .Add (.bin .Pow (.k (.int 10)) (.k (.int 12))) (.k (.int 1)))]) (rngL 0 (d : Int)) ⟨[.no, .d .hand, .d (.int (c : Int)), .d (T s), cp', c5, c6, c7, c8, c9, .no, .no], g5⟩ = .ok (ns.map .int) ⟨[.no, .d .hand, .d (.int (c : Int)), .d (T s), cp', c5, c6, c7, c8, c9, .no, .no], g6⟩)
    (e2 : forL (evB Φ 0 bodyG) (.nm 5) ((rng 1 (((sortI ns).reverse.length : Int) + 1)).map .int) ⟨[.no, .d .hand, .d (.int (c : Int)), .d (T s), cp', c5, c6, c7, c8, c9, .d (T (sortI ns).reverse), .no], g6⟩ = .ok .nx ⟨[.no, .d .hand, .d (.int (c : Int)), .d (T s), cp', c5', c6, c7, c8, c9', .d (T (sortI ns).reverse), .no], g7⟩)
    (hl : (sortI ns).reverse.length ≤ 4) (hc4 : c ≤ 4) : ∃ s', evB Φ 0 b_law ⟨[.no, .d .hand, .no, .no, .no, .no, .no, .no, .no, .no, .no, .no], g0⟩ = .ok (.rt (.d (.bl true))) s' := by
  have ro1 : rngOk 1 ((c : Int) + 1) = true := rngOk_2 (by decide) (by decide) (by omega) (by omega)
  have ro2 : rngOk 0 (d : Int) = true := rngOk_0 (by omega) (by omega)
  have ro3 : rngOk 1 (((sortI ns).reverse.length : Int) + 1) = true := rngOk_2 (by decide) (by decide) (by omega) (by omega)
  have so := sorted_ints ns
  have rv : ((sortI ns).map D.int).reverse = (sortI ns).reverse.map D.int := by rw [List.map_reverse]
  have eqs := eqD_T s
  rw [lc] at e1
  generalize (sortI ns).reverse = z at *
  have lz : blt .len [T z] = some (.d (.int (z.length : Int))) := by rw [len_tup, List.length_map]
  generalize (sortI ns).map D.int = y at *
  generalize ns.map D.int = x at *
  rw [rngL_rng] at cm
  have tq : blt .tuple [Sq b s] = some (.d (T s)) := by cases b <;> rfl
  by_cases h7 : r8 = 7
  · subst h7
    have q14 : Φ 14 [.hand, .int (c : Int), .int 7] g2 = .ret (.d (T s)) g3 := q14
    rcases hc' with rfl | ⟨rfl, rfl⟩
    · simp [b_law, q13, q12, q14, q15, hcp, srcL_r2 ro1, rngL_rng, e1, tq, eqs, q13', srcL_r ro2, cm, so, rv, revD, srcL_r2 ro3, e2]
    · simp [b_law, q13, q12, q14, q15, hcp, srcL_r2 ro1, rngL_rng, e1, tq, eqs, q13', srcL_r ro2, cm, so, rv, revD, srcL_r2 ro3, e2]
  · rw [if_neg h7] at q14
    rcases hc' with rfl | ⟨rfl, rfl⟩
    · simp [b_law, q13, q12, h7, q14, q15, hcp, srcL_r2 ro1, rngL_rng, e1, tq, eqs, q13', srcL_r ro2, cm, so, rv, revD, srcL_r2 ro3, e2]
    · simp [b_law, q13, q12, h7, q14, q15, hcp, srcL_r2 ro1, rngL_rng, e1, tq, eqs, q13', srcL_r ro2, cm, so, rv, revD, srcL_r2 ro3, e2]
theorem cell_of {b : Bool} {s : List Int} {rr : R} (h : rr.D = Sq b s) {c0 c1 c2 c3 c5 c6 c7 c8 c9 c10 c11 : Cell} {g : Hand} : ∃ cp, Cp b s cp ∧ setT (.nm 4) rr ⟨[c0, c1, c2, c3, .no, c5, c6, c7, c8, c9, c10, c11], g⟩ = some ⟨[c0, c1, c2, c3, cp, c5, c6, c7, c8, c9, c10, c11], g⟩ := by
  cases rr with
  | d x =>
    have e : x = Sq b s := h
    subst e
    exact ⟨.d (Sq b s), .inl rfl, rfl⟩
  | f xs =>
    have e : D.lst xs = Sq b s := h
    cases b with
    | false => cases e
    | true =>
      cases e
      exact ⟨.own (s.map .int), .inr ⟨rfl, rfl⟩, rfl⟩
theorem pure_law (ns : List Int) (h : ns.length ≤ 63) : ∃ s', evB (phi defs 0 20) 0 b_law ⟨ρ0 N_law.length, hand0 ns⟩ = .ok (.rt (.d (.bl true))) s' := by
  obtain ⟨c, g1, q13, hg1, c1, c4⟩ := ev_lmany 17 (hand0_inv h)
  obtain ⟨r8, g2, q12, hg2, _, _⟩ := ev_take 18 hg1 (n := 8) (by decide) (by decide)
  have hm : 0 ≤ (if r8 = 7 then (7 : Int) else 4) ∧ (if r8 = 7 then (7 : Int) else 4) ≤ 7 := by split <;> decide
  obtain ⟨s, g3, q14, hg3, hs, ls, s0⟩ := ev_parts 17 (m := if r8 = 7 then 7 else 4) hg2 c1 c4 hm.1 (by omega)
  obtain ⟨b, rr, g4, q15, hrr, hg4⟩ := ev_row 17 s hg3
  obtain ⟨cp, hc, hcp⟩ := cell_of hrr (c0 := .no) (c1 := .d .hand) (c2 := .d (.int (c : Int))) (c3 := .d (T s)) (c5 := .no) (c6 := .no) (c7 := .no) (c8 := .no) (c9 := .no) (c10 := .no) (c11 := .no) (g := g4)
  obtain ⟨cp', c5, c6, c7, c8, c9, hc', e1⟩ := loop1 (phi defs 0 20) g4 hs.len1 (fun n n1 n2 => size_ok g4 b hs (by omega) n1 n2) (c0 := .no) (c1 := .d .hand) (c2 := .d (.int (c : Int))) (c5 := .no) (c6 := .no) (c7 := .no) (c8 := .no) (c9 := .no) (c10 := .no) (c11 := .no) hc
  obtain ⟨d, g5, q13', hg5, d1, d4⟩ := ev_lmany 17 hg4
  obtain ⟨xs, g6, cm, hg6, sh⟩ := great (phi defs 0 20) hg5 d1 d4 (fun g hg => ev_take 18 hg (by decide) (by decide)) (c0 := .no) (c2 := .d (.int (c : Int))) (c3 := .d (T s)) (c4 := cp') (c5 := c5) (c6 := c6) (c7 := c7) (c8 := c8) (c9 := c9) (c10 := .no)
  obtain ⟨c5', c9', g7, _, e2⟩ := loop2 (phi defs 0 20) hg6 (s := (sortI xs).reverse) (fun g hg => ev_row 17 _ hg) (fun b g n n1 n2 => ⟨cnt (sortI xs).reverse n, ev_count 16 g b sh n1 n2, ev_lint 19 g _, by rw [cnt_numL sh n2]; exact ev_number 19 g sh n2⟩) (c0 := .no) (c2 := .d (.int (c : Int))) (c3 := .d (T s)) (c4 := cp') (c5 := c5) (c6 := c6) (c7 := c7) (c8 := c8) (c9 := c9) (c11 := .no)
  exact r_law (phi defs 0 20) hs.len1 ls d4 q13 q12 q14 q15 hcp e1 hc' q13' cm e2 sh.len4 c4
end K40

set_option Elab.async false
set_option linter.all false
set_option maxRecDepth 100000
set_option maxHeartbeats 4000000
/-! the head of threeshapes_k40_whole_woven_shapes_gone. Printed by gen.py. -/
namespace K40
open PySem PySem.Spec PyProof.Rows L2 PD
theorem f_law_hand : FnScope handN ["_law_script"] (defScope s_law_hand) := ⟨rfl, rfl, rfl, by decide +kernel, rfl, by decide +kernel, by decide +kernel⟩
def xa0 : XA := fun _ _ _ _ _ => False
theorem all_mk {l : PySem.W.OpenLaw} {w : World} {K : Fr} {h : Heap} {mg : Str → Option Value} {fa : Addr} (X : K.In h) (G : h.Ns mainGlobals mg) (hfa : mg "law" = some (.ref fa))
    {f0 : Addr} {od0 an0 : Option Addr} {sl0 : Array (Option Value)} {oc0 kV0 dc0 pm0 cd0 ct0 : Value}
    {T0 : Addr} {tc0 : Value} {td0 : Option Addr} {tn0 : Nat} {ts0 : Array (Option Value)}
    {f1 : Addr} {od1 an1 : Option Addr} {sl1 : Array (Option Value)} {oc1 kV1 dc1 pm1 cd1 ct1 : Value}
    {f2 : Addr} {od2 an2 : Option Addr} {sl2 : Array (Option Value)} {oc2 kV2 dc2 pm2 cd2 ct2 : Value}
    {f3 : Addr} {od3 an3 : Option Addr} {sl3 : Array (Option Value)} {oc3 kV3 dc3 pm3 cd3 ct3 : Value}
    {T3 : Addr} {tc3 : Value} {td3 : Option Addr} {tn3 : Nat} {ts3 : Array (Option Value)}
    {tk3_1 : Tok}
    {f4 : Addr} {od4 an4 : Option Addr} {sl4 : Array (Option Value)} {oc4 kV4 dc4 pm4 cd4 ct4 : Value}
    {f5 : Addr} {od5 an5 : Option Addr} {sl5 : Array (Option Value)} {oc5 kV5 dc5 pm5 cd5 ct5 : Value}
    {f6 : Addr} {od6 an6 : Option Addr} {sl6 : Array (Option Value)} {oc6 kV6 dc6 pm6 cd6 ct6 : Value}
    {f7 : Addr} {od7 an7 : Option Addr} {sl7 : Array (Option Value)} {oc7 kV7 dc7 pm7 cd7 ct7 : Value}
    {f8 : Addr} {od8 an8 : Option Addr} {sl8 : Array (Option Value)} {oc8 kV8 dc8 pm8 cd8 ct8 : Value}
    {f9 : Addr} {od9 an9 : Option Addr} {sl9 : Array (Option Value)} {oc9 kV9 dc9 pm9 cd9 ct9 : Value}
    {f10 : Addr} {od10 an10 : Option Addr} {sl10 : Array (Option Value)} {oc10 kV10 dc10 pm10 cd10 ct10 : Value}
    {f11 : Addr} {od11 an11 : Option Addr} {sl11 : Array (Option Value)} {oc11 kV11 dc11 pm11 cd11 ct11 : Value}
    {f12 : Addr} {od12 an12 : Option Addr} {sl12 : Array (Option Value)} {oc12 kV12 dc12 pm12 cd12 ct12 : Value}
    {f13 : Addr} {od13 an13 : Option Addr} {sl13 : Array (Option Value)} {oc13 kV13 dc13 pm13 cd13 ct13 : Value}
    {f14 : Addr} {od14 an14 : Option Addr} {sl14 : Array (Option Value)} {oc14 kV14 dc14 pm14 cd14 ct14 : Value}
    {f15 : Addr} {od15 an15 : Option Addr} {sl15 : Array (Option Value)} {oc15 kV15 dc15 pm15 cd15 ct15 : Value}
    {f16 : Addr} {od16 an16 : Option Addr} {sl16 : Array (Option Value)} {oc16 kV16 dc16 pm16 cd16 ct16 : Value}
    {f17 : Addr} {od17 an17 : Option Addr} {sl17 : Array (Option Value)} {oc17 kV17 dc17 pm17 cd17 ct17 : Value}
    {f18 : Addr} {od18 an18 : Option Addr} {sl18 : Array (Option Value)} {oc18 kV18 dc18 pm18 cd18 ct18 : Value}
    {f19 : Addr} {od19 an19 : Option Addr} {sl19 : Array (Option Value)} {oc19 kV19 dc19 pm19 cd19 ct19 : Value}
    {f20 : Addr} {od20 an20 : Option Addr} {sl20 : Array (Option Value)} {oc20 kV20 dc20 pm20 cd20 ct20 : Value}
    {f21 : Addr} {od21 an21 : Option Addr} {sl21 : Array (Option Value)} {oc21 kV21 dc21 pm21 cd21 ct21 : Value}
    {f22 : Addr} {od22 an22 : Option Addr} {sl22 : Array (Option Value)} {oc22 kV22 dc22 pm22 cd22 ct22 : Value}
    {f23 : Addr} {od23 an23 : Option Addr} {sl23 : Array (Option Value)} {oc23 kV23 dc23 pm23 cd23 ct23 : Value}
    {f24 : Addr} {od24 an24 : Option Addr} {sl24 : Array (Option Value)} {oc24 kV24 dc24 pm24 cd24 ct24 : Value}
    (a0 : PySem.W.nsIn K mainGlobals "is_whole" = some (some (.ref f0)))
    (l0 : K.lookup f0 = some ⟨oc0, od0, .func (PySem.W.fnOf "is_whole" "is_whole" (defArgs s_is_whole) (defBody s_is_whole) (defScope s_is_whole) (.ref T0) kV0 dc0 pm0 an0 cd0 ct0), sl0⟩)
    (c0 : PySem.W.codeIn K cd0 "is_whole" = true)
    (k0 : PySem.W.keepIn K (.ref f0) = true)
    (t0 : K.lookup T0 = some ⟨tc0, td0, .seq (([.none, .none] : List Value)).toArray tn0, ts0⟩)
    (a1 : PySem.W.nsIn K mainGlobals "is_sequence" = some (some (.ref f1)))
    (l1 : K.lookup f1 = some ⟨oc1, od1, .func (PySem.W.fnOf "is_sequence" "is_sequence" (defArgs s_is_sequence) (defBody s_is_sequence) (defScope s_is_sequence) .none kV1 dc1 pm1 an1 cd1 ct1), sl1⟩)
    (c1 : PySem.W.codeIn K cd1 "is_sequence" = true)
    (k1 : PySem.W.keepIn K (.ref f1) = true)
    (a2 : PySem.W.nsIn K mainGlobals "parts_fault" = some (some (.ref f2)))
    (l2 : K.lookup f2 = some ⟨oc2, od2, .func (PySem.W.fnOf "parts_fault" "parts_fault" (defArgs s_parts_fault) (defBody s_parts_fault) (defScope s_parts_fault) .none kV2 dc2 pm2 an2 cd2 ct2), sl2⟩)
    (c2 : PySem.W.codeIn K cd2 "parts_fault" = true)
    (k2 : PySem.W.keepIn K (.ref f2) = true)
    (a3 : PySem.W.nsIn K mainGlobals "check_shape" = some (some (.ref f3)))
    (l3 : K.lookup f3 = some ⟨oc3, od3, .func (PySem.W.fnOf "check_shape" "check_shape" (defArgs s_check_shape) (defBody s_check_shape) (defScope s_check_shape) (.ref T3) kV3 dc3 pm3 an3 cd3 ct3), sl3⟩)
    (c3 : PySem.W.codeIn K cd3 "check_shape" = true)
    (k3 : PySem.W.keepIn K (.ref f3) = true)
    (t3 : K.lookup T3 = some ⟨tc3, td3, .seq (([.none, .int (4) tk3_1] : List Value)).toArray tn3, ts3⟩)
    (a4 : PySem.W.nsIn K mainGlobals "first_unwoven" = some (some (.ref f4)))
    (l4 : K.lookup f4 = some ⟨oc4, od4, .func (PySem.W.fnOf "first_unwoven" "first_unwoven" (defArgs s_first_unwoven) (defBody s_first_unwoven) (defScope s_first_unwoven) .none kV4 dc4 pm4 an4 cd4 ct4), sl4⟩)
    (c4 : PySem.W.codeIn K cd4 "first_unwoven" = true)
    (k4 : PySem.W.keepIn K (.ref f4) = true)
    (a5 : PySem.W.nsIn K mainGlobals "unwoven_place" = some (some (.ref f5)))
    (l5 : K.lookup f5 = some ⟨oc5, od5, .func (PySem.W.fnOf "unwoven_place" "unwoven_place" (defArgs s_unwoven_place) (defBody s_unwoven_place) (defScope s_unwoven_place) .none kV5 dc5 pm5 an5 cd5 ct5), sl5⟩)
    (c5 : PySem.W.codeIn K cd5 "unwoven_place" = true)
    (k5 : PySem.W.keepIn K (.ref f5) = true)
    (a6 : PySem.W.nsIn K mainGlobals "is_woven" = some (some (.ref f6)))
    (l6 : K.lookup f6 = some ⟨oc6, od6, .func (PySem.W.fnOf "is_woven" "is_woven" (defArgs s_is_woven) (defBody s_is_woven) (defScope s_is_woven) .none kV6 dc6 pm6 an6 cd6 ct6), sl6⟩)
    (c6 : PySem.W.codeIn K cd6 "is_woven" = true)
    (k6 : PySem.W.keepIn K (.ref f6) = true)
    (a7 : PySem.W.nsIn K mainGlobals "check_many" = some (some (.ref f7)))
    (l7 : K.lookup f7 = some ⟨oc7, od7, .func (PySem.W.fnOf "check_many" "check_many" (defArgs s_check_many) (defBody s_check_many) (defScope s_check_many) .none kV7 dc7 pm7 an7 cd7 ct7), sl7⟩)
    (c7 : PySem.W.codeIn K cd7 "check_many" = true)
    (k7 : PySem.W.keepIn K (.ref f7) = true)
    (a8 : PySem.W.nsIn K mainGlobals "falling_rows" = some (some (.ref f8)))
    (l8 : K.lookup f8 = some ⟨oc8, od8, .func (PySem.W.fnOf "falling_rows" "falling_rows" (defArgs s_falling_rows) (defBody s_falling_rows) (defScope s_falling_rows) .none kV8 dc8 pm8 an8 cd8 ct8), sl8⟩)
    (c8 : PySem.W.codeIn K cd8 "falling_rows" = true)
    (k8 : PySem.W.keepIn K (.ref f8) = true)
    (a9 : PySem.W.nsIn K mainGlobals "woven_shapes" = some (some (.ref f9)))
    (l9 : K.lookup f9 = some ⟨oc9, od9, .func (PySem.W.fnOf "woven_shapes" "woven_shapes" (defArgs s_woven_shapes) (defBody s_woven_shapes) (defScope s_woven_shapes) .none kV9 dc9 pm9 an9 cd9 ct9), sl9⟩)
    (c9 : PySem.W.codeIn K cd9 "woven_shapes" = true)
    (k9 : PySem.W.keepIn K (.ref f9) = true)
    (a10 : PySem.W.nsIn K mainGlobals "count_woven" = some (some (.ref f10)))
    (l10 : K.lookup f10 = some ⟨oc10, od10, .func (PySem.W.fnOf "count_woven" "count_woven" (defArgs s_count_woven) (defBody s_count_woven) (defScope s_count_woven) .none kV10 dc10 pm10 an10 cd10 ct10), sl10⟩)
    (c10 : PySem.W.codeIn K cd10 "count_woven" = true)
    (k10 : PySem.W.keepIn K (.ref f10) = true)
    (a11 : PySem.W.nsIn K mainGlobals "_law_mixed" = some (some (.ref f11)))
    (l11 : K.lookup f11 = some ⟨oc11, od11, .func (PySem.W.fnOf "_law_mixed" "_law_mixed" (defArgs s_law_mixed) (defBody s_law_mixed) (defScope s_law_mixed) .none kV11 dc11 pm11 an11 cd11 ct11), sl11⟩)
    (c11 : PySem.W.codeIn K cd11 "_law_mixed" = true)
    (k11 : PySem.W.keepIn K (.ref f11) = true)
    (a12 : PySem.W.nsIn K mainGlobals "_law_take" = some (some (.ref f12)))
    (l12 : K.lookup f12 = some ⟨oc12, od12, .func (PySem.W.fnOf "_law_take" "_law_take" (defArgs s_law_take) (defBody s_law_take) (defScope s_law_take) .none kV12 dc12 pm12 an12 cd12 ct12), sl12⟩)
    (c12 : PySem.W.codeIn K cd12 "_law_take" = true)
    (k12 : PySem.W.keepIn K (.ref f12) = true)
    (a13 : PySem.W.nsIn K mainGlobals "_law_many" = some (some (.ref f13)))
    (l13 : K.lookup f13 = some ⟨oc13, od13, .func (PySem.W.fnOf "_law_many" "_law_many" (defArgs s_law_many) (defBody s_law_many) (defScope s_law_many) .none kV13 dc13 pm13 an13 cd13 ct13), sl13⟩)
    (c13 : PySem.W.codeIn K cd13 "_law_many" = true)
    (k13 : PySem.W.keepIn K (.ref f13) = true)
    (a14 : PySem.W.nsIn K mainGlobals "_law_parts" = some (some (.ref f14)))
    (l14 : K.lookup f14 = some ⟨oc14, od14, .func (PySem.W.fnOf "_law_parts" "_law_parts" (defArgs s_law_parts) (defBody s_law_parts) (defScope s_law_parts) .none kV14 dc14 pm14 an14 cd14 ct14), sl14⟩)
    (c14 : PySem.W.codeIn K cd14 "_law_parts" = true)
    (k14 : PySem.W.keepIn K (.ref f14) = true)
    (a15 : PySem.W.nsIn K mainGlobals "_law_row" = some (some (.ref f15)))
    (l15 : K.lookup f15 = some ⟨oc15, od15, .func (PySem.W.fnOf "_law_row" "_law_row" (defArgs s_law_row) (defBody s_law_row) (defScope s_law_row) .none kV15 dc15 pm15 an15 cd15 ct15), sl15⟩)
    (c15 : PySem.W.codeIn K cd15 "_law_row" = true)
    (k15 : PySem.W.keepIn K (.ref f15) = true)
    (a16 : PySem.W.nsIn K mainGlobals "_law_int" = some (some (.ref f16)))
    (l16 : K.lookup f16 = some ⟨oc16, od16, .func (PySem.W.fnOf "_law_int" "_law_int" (defArgs s_law_int) (defBody s_law_int) (defScope s_law_int) .none kV16 dc16 pm16 an16 cd16 ct16), sl16⟩)
    (c16 : PySem.W.codeIn K cd16 "_law_int" = true)
    (k16 : PySem.W.keepIn K (.ref f16) = true)
    (a17 : PySem.W.nsIn K mainGlobals "_law_plain" = some (some (.ref f17)))
    (l17 : K.lookup f17 = some ⟨oc17, od17, .func (PySem.W.fnOf "_law_plain" "_law_plain" (defArgs s_law_plain) (defBody s_law_plain) (defScope s_law_plain) .none kV17 dc17 pm17 an17 cd17 ct17), sl17⟩)
    (c17 : PySem.W.codeIn K cd17 "_law_plain" = true)
    (k17 : PySem.W.keepIn K (.ref f17) = true)
    (a18 : PySem.W.nsIn K mainGlobals "_law_falls" = some (some (.ref f18)))
    (l18 : K.lookup f18 = some ⟨oc18, od18, .func (PySem.W.fnOf "_law_falls" "_law_falls" (defArgs s_law_falls) (defBody s_law_falls) (defScope s_law_falls) .none kV18 dc18 pm18 an18 cd18 ct18), sl18⟩)
    (c18 : PySem.W.codeIn K cd18 "_law_falls" = true)
    (k18 : PySem.W.keepIn K (.ref f18) = true)
    (a19 : PySem.W.nsIn K mainGlobals "_law_unwoven" = some (some (.ref f19)))
    (l19 : K.lookup f19 = some ⟨oc19, od19, .func (PySem.W.fnOf "_law_unwoven" "_law_unwoven" (defArgs s_law_unwoven) (defBody s_law_unwoven) (defScope s_law_unwoven) .none kV19 dc19 pm19 an19 cd19 ct19), sl19⟩)
    (c19 : PySem.W.codeIn K cd19 "_law_unwoven" = true)
    (k19 : PySem.W.keepIn K (.ref f19) = true)
    (a20 : PySem.W.nsIn K mainGlobals "_law_woven" = some (some (.ref f20)))
    (l20 : K.lookup f20 = some ⟨oc20, od20, .func (PySem.W.fnOf "_law_woven" "_law_woven" (defArgs s_law_woven) (defBody s_law_woven) (defScope s_law_woven) .none kV20 dc20 pm20 an20 cd20 ct20), sl20⟩)
    (c20 : PySem.W.codeIn K cd20 "_law_woven" = true)
    (k20 : PySem.W.keepIn K (.ref f20) = true)
    (a21 : PySem.W.nsIn K mainGlobals "_law_number" = some (some (.ref f21)))
    (l21 : K.lookup f21 = some ⟨oc21, od21, .func (PySem.W.fnOf "_law_number" "_law_number" (defArgs s_law_number) (defBody s_law_number) (defScope s_law_number) .none kV21 dc21 pm21 an21 cd21 ct21), sl21⟩)
    (c21 : PySem.W.codeIn K cd21 "_law_number" = true)
    (k21 : PySem.W.keepIn K (.ref f21) = true)
    (a22 : PySem.W.nsIn K mainGlobals "_law_part_right" = some (some (.ref f22)))
    (l22 : K.lookup f22 = some ⟨oc22, od22, .func (PySem.W.fnOf "_law_part_right" "_law_part_right" (defArgs s_law_part_right) (defBody s_law_part_right) (defScope s_law_part_right) .none kV22 dc22 pm22 an22 cd22 ct22), sl22⟩)
    (c22 : PySem.W.codeIn K cd22 "_law_part_right" = true)
    (k22 : PySem.W.keepIn K (.ref f22) = true)
    (a23 : PySem.W.nsIn K mainGlobals "_law_hand" = some (some (.ref f23)))
    (l23 : K.lookup f23 = some ⟨oc23, od23, .func (PySem.W.fnOf "_law_hand" "_law_hand" (defArgs s_law_hand) (defBody s_law_hand) (defScope s_law_hand) .none kV23 dc23 pm23 an23 cd23 ct23), sl23⟩)
    (c23 : PySem.W.codeIn K cd23 "_law_hand" = true)
    (k23 : PySem.W.keepIn K (.ref f23) = true)
    (a24 : PySem.W.nsIn K mainGlobals "law" = some (some (.ref f24)))
    (l24 : K.lookup f24 = some ⟨oc24, od24, .func (PySem.W.fnOf "law" "law" (defArgs s_law) (defBody s_law) (defScope s_law) .none kV24 dc24 pm24 an24 cd24 ct24), sl24⟩)
    (c24 : PySem.W.codeIn K cd24 "law" = true)
    (k24 : PySem.W.keepIn K (.ref f24) = true)
    (z_isinstance : PySem.W.nsIn K mainGlobals "isinstance" = some none)
    (z_bool : PySem.W.nsIn K mainGlobals "bool" = some none)
    (z_int : PySem.W.nsIn K mainGlobals "int" = some none)
    (z_list : PySem.W.nsIn K mainGlobals "list" = some none)
    (z_tuple : PySem.W.nsIn K mainGlobals "tuple" = some none)
    (z_len : PySem.W.nsIn K mainGlobals "len" = some none)
    (z_range : PySem.W.nsIn K mainGlobals "range" = some none)
    (z_min : PySem.W.nsIn K mainGlobals "min" = some none)
    (z_sorted : PySem.W.nsIn K mainGlobals "sorted" = some none)
    (z_abs : PySem.W.nsIn K mainGlobals "abs" = some none) :
    ∃ fd : FuncData, (∀ (s : Shared) (v : Value), BindsTo s fd ⟨[v], []⟩ [("_law_script", v)]) ∧ ∀ base : Heap, K.In base → base.Ns mainGlobals mg → FnG l.prog w K mg base 21 fa fd ["_law_script"] (spLaw K) := by
  have e := hfa.symm.trans (PySem.W.mg_of X G a24)
  cases e
  have tab : Table K mg defs bl := by
    refine ⟨?_, ?_, ?_⟩
    · refine List.forall_mem_cons.mpr ⟨mkDefD (d := d_is_whole) (its := ([.none, .none] : List Value)) X G a0 l0 c0 k0 f_is_whole t0 rfl (.cons rfl (.cons rfl (.nil))) rfl (by simp [d_is_whole]) (by decide) (fun j hj => match j, hj with | 0, _ => (fun us hl => match us, hl with | [_], _ => ⟨_, rfl, rfl⟩) | 1, _ => (fun us hl => match us, hl with | [_, _], _ => ⟨_, rfl, rfl⟩) | 2, _ => (fun us hl => match us, hl with | [_, _, _], _ => ⟨_, rfl, rfl⟩) | n + 3, hj => absurd hj (by show ¬ (n + 3 ≤ 2); omega)), ?_⟩
      refine List.forall_mem_cons.mpr ⟨mkDef (d := d_is_sequence) X G a1 l1 c1 k1 f_is_sequence rfl (fun us hl => match us, hl with | [_], _ => rfl), ?_⟩
      refine List.forall_mem_cons.mpr ⟨mkDef (d := d_parts_fault) X G a2 l2 c2 k2 f_parts_fault rfl (fun us hl => match us, hl with | [_, _], _ => rfl), ?_⟩
      refine List.forall_mem_cons.mpr ⟨mkDefD (d := d_check_shape) (its := ([.none, .int (4) tk3_1] : List Value)) X G a3 l3 c3 k3 f_check_shape t3 rfl (.cons rfl (.cons ⟨_, rfl⟩ (.nil))) rfl (by simp [d_check_shape]) (by decide) (fun j hj => match j, hj with | 0, _ => (fun us hl => match us, hl with | [_], _ => ⟨_, rfl, rfl⟩) | 1, _ => (fun us hl => match us, hl with | [_, _], _ => ⟨_, rfl, rfl⟩) | 2, _ => (fun us hl => match us, hl with | [_, _, _], _ => ⟨_, rfl, rfl⟩) | n + 3, hj => absurd hj (by show ¬ (n + 3 ≤ 2); omega)), ?_⟩
      refine List.forall_mem_cons.mpr ⟨mkDef (d := d_first_unwoven) X G a4 l4 c4 k4 f_first_unwoven rfl (fun us hl => match us, hl with | [_, _], _ => rfl), ?_⟩
      refine List.forall_mem_cons.mpr ⟨mkDef (d := d_unwoven_place) X G a5 l5 c5 k5 f_unwoven_place rfl (fun us hl => match us, hl with | [_, _], _ => rfl), ?_⟩
      refine List.forall_mem_cons.mpr ⟨mkDef (d := d_is_woven) X G a6 l6 c6 k6 f_is_woven rfl (fun us hl => match us, hl with | [_, _], _ => rfl), ?_⟩
      refine List.forall_mem_cons.mpr ⟨mkDef (d := d_check_many) X G a7 l7 c7 k7 f_check_many rfl (fun us hl => match us, hl with | [_, _], _ => rfl), ?_⟩
      refine List.forall_mem_cons.mpr ⟨mkDef (d := d_falling_rows) X G a8 l8 c8 k8 f_falling_rows rfl (fun us hl => match us, hl with | [_], _ => rfl), ?_⟩
      refine List.forall_mem_cons.mpr ⟨mkDef (d := d_woven_shapes) X G a9 l9 c9 k9 f_woven_shapes rfl (fun us hl => match us, hl with | [_, _], _ => rfl), ?_⟩
      refine List.forall_mem_cons.mpr ⟨mkDef (d := d_count_woven) X G a10 l10 c10 k10 f_count_woven rfl (fun us hl => match us, hl with | [_, _], _ => rfl), ?_⟩
      refine List.forall_mem_cons.mpr ⟨mkDef (d := d_law_mixed) X G a11 l11 c11 k11 f_law_mixed rfl (fun us hl => match us, hl with | [_, _], _ => rfl), ?_⟩
      refine List.forall_mem_cons.mpr ⟨mkDef (d := d_law_take) X G a12 l12 c12 k12 f_law_take rfl (fun us hl => match us, hl with | [_, _], _ => rfl), ?_⟩
      refine List.forall_mem_cons.mpr ⟨mkDef (d := d_law_many) X G a13 l13 c13 k13 f_law_many rfl (fun us hl => match us, hl with | [_], _ => rfl), ?_⟩
      refine List.forall_mem_cons.mpr ⟨mkDef (d := d_law_parts) X G a14 l14 c14 k14 f_law_parts rfl (fun us hl => match us, hl with | [_, _, _], _ => rfl), ?_⟩
      refine List.forall_mem_cons.mpr ⟨mkDef (d := d_law_row) X G a15 l15 c15 k15 f_law_row rfl (fun us hl => match us, hl with | [_, _], _ => rfl), ?_⟩
      refine List.forall_mem_cons.mpr ⟨mkDef (d := d_law_int) X G a16 l16 c16 k16 f_law_int rfl (fun us hl => match us, hl with | [_], _ => rfl), ?_⟩
      refine List.forall_mem_cons.mpr ⟨mkDef (d := d_law_plain) X G a17 l17 c17 k17 f_law_plain rfl (fun us hl => match us, hl with | [_], _ => rfl), ?_⟩
      refine List.forall_mem_cons.mpr ⟨mkDef (d := d_law_falls) X G a18 l18 c18 k18 f_law_falls rfl (fun us hl => match us, hl with | [_, _], _ => rfl), ?_⟩
      refine List.forall_mem_cons.mpr ⟨mkDef (d := d_law_unwoven) X G a19 l19 c19 k19 f_law_unwoven rfl (fun us hl => match us, hl with | [_, _], _ => rfl), ?_⟩
      refine List.forall_mem_cons.mpr ⟨mkDef (d := d_law_woven) X G a20 l20 c20 k20 f_law_woven rfl (fun us hl => match us, hl with | [_, _], _ => rfl), ?_⟩
      refine List.forall_mem_cons.mpr ⟨mkDef (d := d_law_number) X G a21 l21 c21 k21 f_law_number rfl (fun us hl => match us, hl with | [_, _], _ => rfl), ?_⟩
      refine List.forall_mem_cons.mpr ⟨mkDef (d := d_law_part_right) X G a22 l22 c22 k22 f_law_part_right rfl (fun us hl => match us, hl with | [_, _, _], _ => rfl), ?_⟩
      exact fun _ z => by cases z
    · refine List.forall_mem_cons.mpr ⟨⟨40, 40, by rw [nm_eq]; exact c_is_whole⟩, ?_⟩
      refine List.forall_mem_cons.mpr ⟨⟨40, 40, by rw [nm_eq]; exact c_is_sequence⟩, ?_⟩
      refine List.forall_mem_cons.mpr ⟨⟨40, 40, by rw [nm_eq]; exact c_parts_fault⟩, ?_⟩
      refine List.forall_mem_cons.mpr ⟨⟨40, 40, by rw [nm_eq]; exact c_check_shape⟩, ?_⟩
      refine List.forall_mem_cons.mpr ⟨⟨40, 40, by rw [nm_eq]; exact c_first_unwoven⟩, ?_⟩
      refine List.forall_mem_cons.mpr ⟨⟨40, 40, by rw [nm_eq]; exact c_unwoven_place⟩, ?_⟩
      refine List.forall_mem_cons.mpr ⟨⟨40, 40, by rw [nm_eq]; exact c_is_woven⟩, ?_⟩
      refine List.forall_mem_cons.mpr ⟨⟨40, 40, by rw [nm_eq]; exact c_check_many⟩, ?_⟩
      refine List.forall_mem_cons.mpr ⟨⟨40, 40, by rw [nm_eq]; exact c_falling_rows⟩, ?_⟩
      refine List.forall_mem_cons.mpr ⟨⟨40, 40, by rw [nm_eq]; exact c_woven_shapes⟩, ?_⟩
      refine List.forall_mem_cons.mpr ⟨⟨40, 40, by rw [nm_eq]; exact c_count_woven⟩, ?_⟩
      refine List.forall_mem_cons.mpr ⟨⟨40, 40, by rw [nm_eq]; exact c_law_mixed⟩, ?_⟩
      refine List.forall_mem_cons.mpr ⟨⟨40, 40, by rw [nm_eq]; exact c_law_take⟩, ?_⟩
      refine List.forall_mem_cons.mpr ⟨⟨40, 40, by rw [nm_eq]; exact c_law_many⟩, ?_⟩
      refine List.forall_mem_cons.mpr ⟨⟨40, 40, by rw [nm_eq]; exact c_law_parts⟩, ?_⟩
      refine List.forall_mem_cons.mpr ⟨⟨40, 40, by rw [nm_eq]; exact c_law_row⟩, ?_⟩
      refine List.forall_mem_cons.mpr ⟨⟨40, 40, by rw [nm_eq]; exact c_law_int⟩, ?_⟩
      refine List.forall_mem_cons.mpr ⟨⟨40, 40, by rw [nm_eq]; exact c_law_plain⟩, ?_⟩
      refine List.forall_mem_cons.mpr ⟨⟨40, 40, by rw [nm_eq]; exact c_law_falls⟩, ?_⟩
      refine List.forall_mem_cons.mpr ⟨⟨40, 40, by rw [nm_eq]; exact c_law_unwoven⟩, ?_⟩
      refine List.forall_mem_cons.mpr ⟨⟨40, 40, by rw [nm_eq]; exact c_law_woven⟩, ?_⟩
      refine List.forall_mem_cons.mpr ⟨⟨40, 40, by rw [nm_eq]; exact c_law_number⟩, ?_⟩
      refine List.forall_mem_cons.mpr ⟨⟨40, 40, by rw [nm_eq]; exact c_law_part_right⟩, ?_⟩
      exact fun _ z => by cases z
    · refine List.forall_mem_cons.mpr ⟨PySem.W.mg_none_of X G z_isinstance, ?_⟩
      refine List.forall_mem_cons.mpr ⟨PySem.W.mg_none_of X G z_bool, ?_⟩
      refine List.forall_mem_cons.mpr ⟨PySem.W.mg_none_of X G z_int, ?_⟩
      refine List.forall_mem_cons.mpr ⟨PySem.W.mg_none_of X G z_list, ?_⟩
      refine List.forall_mem_cons.mpr ⟨PySem.W.mg_none_of X G z_tuple, ?_⟩
      refine List.forall_mem_cons.mpr ⟨PySem.W.mg_none_of X G z_len, ?_⟩
      refine List.forall_mem_cons.mpr ⟨PySem.W.mg_none_of X G z_range, ?_⟩
      refine List.forall_mem_cons.mpr ⟨PySem.W.mg_none_of X G z_min, ?_⟩
      refine List.forall_mem_cons.mpr ⟨PySem.W.mg_none_of X G z_sorted, ?_⟩
      exact fun _ z => by cases z
  refine ⟨PySem.W.fnOf "law" "law" (defArgs s_law) (defBody s_law) (defScope s_law) .none kV24 dc24 pm24 an24 cd24 ct24, fun s v => .of_eq rfl, fun base _ _ => ?_⟩
  have hand := ok_hand (P := l.prog) (w := w) (mg := mg) (base := base) l23 c23 f_law_hand (.mk rfl) rfl rfl rfl rfl rfl rfl rfl (PySem.W.mg_none_of X G z_len) (PySem.W.mg_none_of X G z_int) (PySem.W.mg_none_of X G z_abs)
  exact law_ok (T := ⟨nmOf defs bl, 20, phi defs 0 20, xa0⟩) (u := 0) (B := b_law) l24 c24 f_law hand (PySem.W.mg_of X G a23) k23 (.all fun us hl => match us, hl with | [_], _ => rfl) .mk rfl rfl rfl rfl rfl
    (fnIn_of tab (tower (xa := xa0) (fun _ _ _ _ _ _ _ z => z) tab 20)) tab.bl ⟨40, 40, by show compB (nmOf defs bl) _ (compE (nmOf defs bl) _ _) _ _ _ = _; rw [nm_eq]; exact c_law⟩ (by show 1 ≤ 20; decide) pure_law
end K40
open PySem PySem.W PyProof.Rows in
set_option maxRecDepth 100000 in
set_option maxHeartbeats 0 in
theorem PySem.Challenge.cw_threeshapes_k40_whole_woven_shapes_gone_holds : PySem.Challenge.rw_threeshapes_k40_whole_woven_shapes_gone.Holds := by
  w_on; o_law; k_head; (case hw => w_witness2)
  k_fill
  refine PD.walkG (l := PySem.Challenge.rw_threeshapes_k40_whole_woven_shapes_gone) (k := 21) rfl rfl ⟨rfl, by decide, by decide⟩ (fun w h Y => PySem.W.kIn_of Y) ?F
  case F =>
    intro w mg fa h KX G hmg
    refine' K40.all_mk KX G hmg ?a0 ?l0 ?c0 ?k0 ?t0 ?a1 ?l1 ?c1 ?k1 ?a2 ?l2 ?c2 ?k2 ?a3 ?l3 ?c3 ?k3 ?t3 ?a4 ?l4 ?c4 ?k4 ?a5 ?l5 ?c5 ?k5 ?a6 ?l6 ?c6 ?k6 ?a7 ?l7 ?c7 ?k7 ?a8 ?l8 ?c8 ?k8 ?a9 ?l9 ?c9 ?k9 ?a10 ?l10 ?c10 ?k10 ?a11 ?l11 ?c11 ?k11 ?a12 ?l12 ?c12 ?k12 ?a13 ?l13 ?c13 ?k13 ?a14 ?l14 ?c14 ?k14 ?a15 ?l15 ?c15 ?k15 ?a16 ?l16 ?c16 ?k16 ?a17 ?l17 ?c17 ?k17 ?a18 ?l18 ?c18 ?k18 ?a19 ?l19 ?c19 ?k19 ?a20 ?l20 ?c20 ?k20 ?a21 ?l21 ?c21 ?k21 ?a22 ?l22 ?c22 ?k22 ?a23 ?l23 ?c23 ?k23 ?a24 ?l24 ?c24 ?k24 ?z_isinstance ?z_bool ?z_int ?z_list ?z_tuple ?z_len ?z_range ?z_min ?z_sorted ?z_abs
    (case a0 => k_is)
    (case l0 => k_is)
    (case c0 => k_is)
    (case k0 => k_is)
    (case t0 => k_is)
    (case a1 => k_is)
    (case l1 => k_is)
    (case c1 => k_is)
    (case k1 => k_is)
    (case a2 => k_is)
    (case l2 => k_is)
    (case c2 => k_is)
    (case k2 => k_is)
    (case a3 => k_is)
    (case l3 => k_is)
    (case c3 => k_is)
    (case k3 => k_is)
    (case t3 => k_is)
    (case a4 => k_is)
    (case l4 => k_is)
    (case c4 => k_is)
    (case k4 => k_is)
    (case a5 => k_is)
    (case l5 => k_is)
    (case c5 => k_is)
    (case k5 => k_is)
    (case a6 => k_is)
    (case l6 => k_is)
    (case c6 => k_is)
    (case k6 => k_is)
    (case a7 => k_is)
    (case l7 => k_is)
    (case c7 => k_is)
    (case k7 => k_is)
    (case a8 => k_is)
    (case l8 => k_is)
    (case c8 => k_is)
    (case k8 => k_is)
    (case a9 => k_is)
    (case l9 => k_is)
    (case c9 => k_is)
    (case k9 => k_is)
    (case a10 => k_is)
    (case l10 => k_is)
    (case c10 => k_is)
    (case k10 => k_is)
    (case a11 => k_is)
    (case l11 => k_is)
    (case c11 => k_is)
    (case k11 => k_is)
    (case a12 => k_is)
    (case l12 => k_is)
    (case c12 => k_is)
    (case k12 => k_is)
    (case a13 => k_is)
    (case l13 => k_is)
    (case c13 => k_is)
    (case k13 => k_is)
    (case a14 => k_is)
    (case l14 => k_is)
    (case c14 => k_is)
    (case k14 => k_is)
    (case a15 => k_is)
    (case l15 => k_is)
    (case c15 => k_is)
    (case k15 => k_is)
    (case a16 => k_is)
    (case l16 => k_is)
    (case c16 => k_is)
    (case k16 => k_is)
    (case a17 => k_is)
    (case l17 => k_is)
    (case c17 => k_is)
    (case k17 => k_is)
    (case a18 => k_is)
    (case l18 => k_is)
    (case c18 => k_is)
    (case k18 => k_is)
    (case a19 => k_is)
    (case l19 => k_is)
    (case c19 => k_is)
    (case k19 => k_is)
    (case a20 => k_is)
    (case l20 => k_is)
    (case c20 => k_is)
    (case k20 => k_is)
    (case a21 => k_is)
    (case l21 => k_is)
    (case c21 => k_is)
    (case k21 => k_is)
    (case a22 => k_is)
    (case l22 => k_is)
    (case c22 => k_is)
    (case k22 => k_is)
    (case a23 => k_is)
    (case l23 => k_is)
    (case c23 => k_is)
    (case k23 => k_is)
    (case a24 => k_is)
    (case l24 => k_is)
    (case c24 => k_is)
    (case k24 => k_is)
    (case z_isinstance => k_is)
    (case z_bool => k_is)
    (case z_int => k_is)
    (case z_list => k_is)
    (case z_tuple => k_is)
    (case z_len => k_is)
    (case z_range => k_is)
    (case z_min => k_is)
    (case z_sorted => k_is)
    (case z_abs => k_is)
#print axioms PySem.Challenge.cw_threeshapes_k40_whole_woven_shapes_gone_holds
