import PyProof.Rows.All
import Wide.All
import OpenK.AllK
import Wide.FinOn
import HandS.ForMost
import HandS.Exc
import HandS.Text
import HandS.TupAny
import HandS.TupMul
import HandS.Wide
import HandS.Flow
import KE.KTupSum
import KE.KxIndex
import PyProof.StrBlock2
import HandS.Deep
import HandS.SortInts
import HandS.IsInst
import HandS.Style
import HandS.Strs
import PyProof.Rows.StrTemp
import PyProof.ListStr
import PyProof.TupleOfStr
import PyProof.Rows.SortStr
import HandS.ExcOwn
import HandS.Defaults
import HandS.Iter
import HandS.Comp
import HandS.RevRange
import HandS.Rev
import HandS.Zip
import HandS.Small
import KE.GoesEnum
import HandS.Conv
import HandS.SetFor
import HandS.TupSets
import HandS.Head0
import HandS.Head1
import HandS.Head2
import HandS.HeadEnd
import HandS.HeadHook1
import HandS.HeadHook2
import PySem.Challenge.RW_truthbench_k19_unate_functions
set_option Elab.async false
set_option linter.all false
section SA
set_option autoImplicit false
set_option linter.all false
/-! A value-level interpreter of the part of Python that the laws use. -/
namespace Py
open PySem (CmpOp Operator UnaryOp)

/-- data -/
inductive D where
  | non | bl (b : Bool) | int (i : Int) | str (s : List Nat)
  | lst (xs : List D) | tup (xs : List D) | dic (kvs : List (D × D)) | obj (c : Nat) (fs : List (Nat × D))
  deriving Inhabited
/-- a slot of a frame -/
inductive Sl where
  | rng (xs : List D) | itr (xs : List D) | non | pub (d : D) | own (d : D) | lent (d : D) | cell (k : Nat) | new (c : Nat) (fs : List (Nat × D)) | exc (c : Nat) (fs : List D)
  deriving Inhabited
/-- a frame's slots, the mutable lists that are passed about -/
structure S where
  env : List Sl
  cells : List (List D)
/-- an expression's value -/
inductive RV where
  | d (x : D) | own (x : D) | brw (i : Nat) | cell (k : Nat)
inductive Out (α : Type) where
  | ok (a : α) (s : S) | exc (c : Nat) (fs : List D) (s : S) | stuck
def Out.bind {α β : Type} (o : Out α) (f : α → S → Out β) : Out β := match o with
  | .ok a s => f a s
  | .exc c fs s => .exc c fs s
  | .stuck => .stuck
/-- an argument, what a call gives -/
inductive Ag where
  | d (x : D) | cell (k : Nat) | new (c : Nat)
inductive Rt where
  | d (x : D) | own (x : D) | cell (k : Nat)
inductive RO where
  | ok (r : Rt) (cs : List (List D)) | exc (c : Nat) (fs : List D) (cs : List (List D)) | stuck

def S.get (s : S) (i : Nat) : Sl := s.env.getD i .non
def S.set (s : S) (i : Nat) (x : Sl) : S := { s with env := s.env.set i x }

/-! ### data -/
def SZ : Nat := 16777216
/-- a text that may be -/
def okS (s : List Nat) : Bool := decide (s.length ≤ SZ) && s.all fun c => decide (c < 1114112)
def flat : D → Bool
  | .non => true | .bl _ => true | .int _ => true | .str _ => true | _ => false
/-- no list, no dict within -/
def noRef : Nat → D → Bool
  | _, .non => true | _, .bl _ => true | _, .int _ => true | _, .str _ => true
  | n + 1, .tup xs => xs.all (noRef n)
  | n + 1, .obj _ fs => fs.all fun p => noRef n p.2
  | _, _ => false
/-- lists and tuples alone, not deeper than n -/
def plain : Nat → D → Bool
  | _, .non => true | _, .bl _ => true | _, .int _ => true | _, .str _ => true
  | n + 1, .lst xs => xs.all (plain n)
  | n + 1, .tup xs => xs.all (plain n)
  | _, _ => false
def truthy : D → Option Bool
  | .non => some false
  | .bl b => some b
  | .int i => some (i != 0)
  | .str s => some (!s.isEmpty)
  | .lst xs => some (!xs.isEmpty)
  | .tup xs => some (!xs.isEmpty)
  | .dic kvs => some (!kvs.isEmpty)
  | .obj _ _ => none
mutual
def eqD : D → D → Bool
  | .non, .non => true
  | .bl a, .bl b => a == b
  | .bl a, .int b => (if a then 1 else 0) == b
  | .int a, .bl b => a == (if b then 1 else 0)
  | .int a, .int b => a == b
  | .str a, .str b => a == b
  | .lst a, .lst b => eqDs a b
  | .tup a, .tup b => eqDs a b
  | _, _ => false
def eqDs : List D → List D → Bool
  | [], [] => true
  | a :: as, b :: bs => eqD a b && eqDs as bs
  | _, _ => false
end
def eqOp (x y : D) : Option Bool := if plain 30 x && plain 30 y then some (eqD x y) else none
/-- a place in a sequence of n items -/
def ixN (n : Nat) (i : Int) : Option Nat := if 0 ≤ i then (if i < n then some i.toNat else none) else if -(n : Int) ≤ i then some (i + n).toNat else none
def atI {α : Type} (xs : List α) (i : Int) : Option α := (ixN xs.length i).bind fun j => xs[j]?
/-- a slice's bound -/
def sIx (n d : Nat) : Option Int → Nat
  | none => d
  | some v => if v < 0 then (v + n).toNat else min v.toNat n
def cut {α : Type} (xs : List α) (lo hi : Option Int) : List α := (xs.drop (sIx xs.length 0 lo)).take (sIx xs.length xs.length hi - sIx xs.length 0 lo)

def lexLt : List Int → List Int → Bool
  | [], [] => false
  | [], _ :: _ => true
  | _ :: _, [] => false
  | x :: xs, y :: ys => if x = y then lexLt xs ys else decide (x < y)
def toI : List D → Option (List Int)
  | [] => some []
  | .int i :: r => (toI r).map (i :: ·)
  | _ => none
def toS : List D → Option (List (List Nat))
  | [] => some []
  | .str i :: r => (toS r).map (i :: ·)
  | _ => none
def toB : List D → Option (List Bool)
  | [] => some []
  | .bl i :: r => (toB r).map (i :: ·)
  | _ => none

/-! ### operators -/
def mulOk (i j : Int) : Bool := decide (i.natAbs < 2 ^ 63) || decide (j.natAbs < 2 ^ 63) || decide (i.natAbs.log2 + j.natAbs.log2 < 1000000)
def binop : Operator → D → D → Option RV
  | .Add, .int i, .int j => some (.d (.int (i + j)))
  | .Add, .str a, .str b => if a.length + b.length ≤ SZ then some (.d (.str (a ++ b))) else none
  | .Add, .lst a, .lst b => if a.length + b.length ≤ SZ then some (.own (.lst (a ++ b))) else none
  | .Add, .tup a, .tup b => if a.length + b.length ≤ SZ then some (.d (.tup (a ++ b))) else none
  | .Add, .int i, .bl b => some (.d (.int (i + if b then 1 else 0)))
  | .Sub, .int i, .int j => some (.d (.int (i - j)))
  | .Mult, .int i, .int j => if mulOk i j then some (.d (.int (i * j))) else none
  | .Mult, .lst a, .int k => if k.natAbs ≤ 100000 ∧ a.length * k.toNat ≤ SZ then some (.own (.lst (List.replicate k.toNat a).flatten)) else none
  | .Mult, .str a, .int k => if 0 ≤ k ∧ k.natAbs ≤ 1000 ∧ a.length ≤ 1000 then some (.d (.str (List.replicate k.toNat a).flatten)) else none
  | .FloorDiv, .int i, .int j => if 0 < j ∧ (j.natAbs < 1073741824 ∨ j.natAbs.log2 < 9000) then some (.d (.int (i / j))) else none
  | .Mod, .int i, .int j => if 0 < j then some (.d (.int (i % j))) else none
  | .Pow, .int i, .int j => if 0 ≤ j ∧ j.natAbs ≤ 100000 ∧ i.natAbs < 2 ^ 64 then some (.d (.int (i ^ j.toNat))) else none
  | .LShift, .int i, .int j => if 0 ≤ j ∧ j.natAbs ≤ 100000 ∧ i.natAbs < 2 ^ 64 then some (.d (.int (i * 2 ^ j.toNat))) else none
  | .RShift, .int i, .int j => if 0 ≤ j then some (.d (.int (i / 2 ^ j.toNat))) else none
  | .BitAnd, .int i, .int j => some (.d (.int (PySem.Builtin.bitAnd i j)))
  | .BitOr, .int i, .int j => some (.d (.int (PySem.Builtin.bitOr i j)))
  | .BitXor, .int i, .int j => some (.d (.int (PySem.Builtin.bitXor i j)))
  | _, _, _ => none
def unop : UnaryOp → D → Option D
  | .USub, .int i => some (.int (-i))
  | .Invert, .int i => some (.int (-i - 1))
  | .Not, x => (truthy x).map fun b => .bl (!b)
  | _, _ => none
def ltInt (op : CmpOp) (i j : Int) : Option Bool := match op with
  | .Lt => some (decide (i < j)) | .LtE => some (decide (i ≤ j)) | .Gt => some (decide (j < i)) | .GtE => some (decide (j ≤ i)) | _ => none
def ltStr (op : CmpOp) (a b : List Nat) : Option Bool := match op with
  | .Lt => some (decide (a < b)) | .LtE => some (!decide (b < a)) | .Gt => some (decide (b < a)) | .GtE => some (!decide (a < b)) | _ => none
def inOp (x y : D) : Option Bool := match y with
  | .lst ys => if (flat x && ys.all flat) || (plain 30 x && ys.all (plain 30)) then some (ys.any fun z => eqD z x) else none
  | .tup ys => if flat x && ys.all flat then some (ys.any fun z => eqD z x) else none
  | .str b => (match x with
    | .str [c] => some (decide (c ∈ b))
    | _ => none)
  | .dic kvs => (match x with
    | .int _ => some (kvs.any fun p => eqD p.1 x)
    | .str _ => some (kvs.any fun p => eqD p.1 x)
    | _ => none)
  | _ => none
def cmpOp (op : CmpOp) (x y : D) : Option Bool := match op with
  | .Eq => eqOp x y
  | .NotEq => (eqOp x y).map not
  | .In => inOp x y
  | .NotIn => (inOp x y).map not
  | _ => (match x, y with
    | .int i, .int j => ltInt op i j
    | .str a, .str b => ltStr op a b
    | _, _ => none)
/-- a look-up by a key that is an int or a text -/
def getK (kvs : List (D × D)) (k : D) : Option D := match k with
  | .int _ => (kvs.find? fun p => eqD p.1 k).map (·.2)
  | .str _ => (kvs.find? fun p => eqD p.1 k).map (·.2)
  | _ => none
def ixOp (x y : D) : Option D := match x, y with
  | .lst xs, .int i => atI xs i
  | .tup xs, .int i => atI xs i
  | .str s, .int i => (atI s i).map fun c => .str [c]
  | .dic kvs, k => getK kvs k
  | _, _ => none
def slOp (x : D) (lo hi : Option Int) : Option RV := match x with
  | .lst xs => some (.own (.lst (cut xs lo hi)))
  | .tup xs => some (.d (.tup (cut xs lo hi)))
  | .str s => some (.d (.str (cut s lo hi)))
  | _ => none

/-! ### built-ins -/
inductive Ty where
  | int | bool | str | list | tuple | dict | cls (c : Nat)
  deriving DecidableEq
inductive Bi where
  | len | abs | max2 | min2 | int | str | sum | max | min | any | all | sorted | sortedSet | lenSet | list | tuple | join
  deriving DecidableEq
/-- a number's text -/
def digs (n : Nat) : List Nat := (Nat.toDigits 10 n).map Char.toNat
def strInt (i : Int) : List Nat := digs i.natAbs
/-- the number of a text of one digit -/
def intStr : List Nat → Option Int
  | [c] => if 48 ≤ c ∧ c ≤ 57 then some ((c : Int) - 48) else none
  | _ => none
def insI (x : Int) : List Int → List Int
  | [] => [x]
  | y :: r => if x ≤ y then x :: y :: r else y :: insI x r
def sortI : List Int → List Int
  | [] => []
  | x :: r => insI x (sortI r)
def insS (x : List Nat) : List (List Nat) → List (List Nat)
  | [] => [x]
  | y :: r => if y < x then y :: insS x r else x :: y :: r
def sortS : List (List Nat) → List (List Nat)
  | [] => []
  | x :: r => insS x (sortS r)
def joinS (sep : List Nat) : List (List Nat) → List Nat
  | [] => []
  | [x] => x
  | x :: y :: r => x ++ sep ++ joinS sep (y :: r)
def maxI : List Int → Option Int
  | [] => none
  | x :: r => some (r.foldl (fun a b => if b > a then b else a) x)
def minI : List Int → Option Int
  | [] => none
  | x :: r => some (r.foldl (fun a b => if b < a then b else a) x)
/-- the items of a sequence -/
def itemsOf : D → Option (List D)
  | .lst xs => some xs
  | .tup xs => some xs
  | .str s => some (s.map fun c => .str [c])
  | _ => none
def biOp : Bi → List D → Option RV
  | .len, [.str s] => some (.d (.int s.length))
  | .len, [.lst xs] => some (.d (.int xs.length))
  | .len, [.tup xs] => some (.d (.int xs.length))
  | .len, [.dic xs] => some (.d (.int xs.length))
  | .abs, [.int i] => some (.d (.int (if i < 0 then -i else i)))
  | .max2, [.int i, .int j] => some (.d (.int (if j > i then j else i)))
  | .min2, [.int i, .int j] => some (.d (.int (if j < i then j else i)))
  | .int, [.int i] => some (.d (.int i))
  | .int, [.bl b] => some (.d (.int (if b then 1 else 0)))
  | .int, [.str s] => (intStr s).map fun i => .d (.int i)
  | .str, [.int i] => if 0 ≤ i ∧ i.natAbs.log2 < 1900 then some (.d (.str (strInt i))) else none
  | .sum, [.lst xs] => (toI xs).map fun ns => .d (.int ns.sum)
  | .sum, [.tup xs] => (toI xs).map fun ns => .d (.int ns.sum)
  | .max, [.lst xs] => ((toI xs).bind maxI).map fun i => .d (.int i)
  | .min, [.lst xs] => ((toI xs).bind minI).map fun i => .d (.int i)
  | .any, [.lst xs] => (toB xs).map fun bs => .d (.bl (bs.any id))
  | .all, [.lst xs] => (toB xs).map fun bs => .d (.bl (bs.all id))
  | .sorted, [.lst xs] => (match toI xs with
    | some ns => some (.own (.lst ((sortI ns).map .int)))
    | none => (match toS xs with
      | some ss => if ss.length < 64 then some (.own (.lst ((sortS ss).map .str))) else none
      | none => none))
  | .sortedSet, [.lst xs] => (match toI xs with
    | some ns => if ns.length < 64 then some (.own (.lst ((sortI ns.eraseDups).map .int))) else none
    | none => none)
  | .lenSet, [.lst xs] => (match toI xs with
    | some ns => some (.d (.int ns.eraseDups.length))
    | none => (match toS xs with
      | some ss => some (.d (.int ss.eraseDups.length))
      | none => none))
  | .list, [.lst xs] => some (.own (.lst xs))
  | .list, [.tup xs] => some (.own (.lst xs))
  | .list, [.str s] => some (.own (.lst (s.map fun c => .str [c])))
  | .tuple, [.lst xs] => some (.d (.tup xs))
  | .tuple, [.tup xs] => some (.d (.tup xs))
  | .tuple, [.str s] => some (.d (.tup (s.map fun c => .str [c])))
  | .join, [.str s, .lst xs] => (toS xs).bind fun ss => if (ss.map List.length).sum + s.length * ss.length ≤ SZ then some (.d (.str (joinS s ss))) else none
  | .join, [.str s, .tup xs] => (toS xs).bind fun ss => if (ss.map List.length).sum + s.length * ss.length ≤ SZ then some (.d (.str (joinS s ss))) else none
  | _, _ => none

/-! ### the text -/
inductive Tg where
  | nm (i : Nat) | tup (ts : List Tg)
mutual
inductive E where
  | loc (i : Nat) | con (d : D) | glo (g : Nat)
  | bin (op : Operator) (a b : E) | un (op : UnaryOp) (a : E)
  | and (a b : E) | or (a b : E) | ite (c a b : E)
  | cmp (op : CmpOp) (a b : E) | cmp2 (op op' : CmpOp) (a b c : E)
  | isN (neg : Bool) (a : E) | isB (neg : Bool) (b : Bool) (a : E)
  | isi (a : E) (ts : List Ty)
  | call (f : Nat) (es : List E) | callK (f : Nat) (es : List E) (ix : List (Nat ⊕ D))
  | mk (c : Nat) (es : List E) | mkK (c : Nat) (es : List E) (ix : List (Nat ⊕ D))
  | meth (o : E) (m : Nat) (es : List E)
  | bi (b : Bi) (es : List E)
  | fld (a : E) (f : Nat) | ix (a b : E) | sl (a : E) (lo hi : Option E)
  | tup (es : List E) | lst (es : List E) | dic (kvs : List (E × E))
  | lc (elt : E) (tg : Tg) (it : It) (ifs : List E) (own : List Nat)
  | lc2 (elt : E) (tg : Tg) (it : It) (ifs : List E) (tg2 : Tg) (it2 : It) (ifs2 : List E) (own own2 : List Nat)
  | ofIt (b : Bi) (it : It)
  | pick (kvs : List (E × E)) (k : E)
  | pop (i : Nat) (e : Option E)
  | exf (i : Nat) (f : Nat)
inductive It where
  | seq (e : E) | var (i : Nat) | range (es : List E) | enum (es : List E) | zip (es : List E) | enumZ (es : List E) | rev (e : E) | revR (es : List E) | items (e : E)
end
inductive T where
  | asg (tg : Tg) (e : E) | asgC (i : Nat) (e : E) | asgI (i : Nat) (it : It) | par (is : List Nat) (es : List E)
  | setI (i : Nat) (ix e : E) | setF (i : Nat) (f : Nat) (e : E)
  | aug (i : Nat) (op : Operator) (e : E)
  | app (i : Nat) (e : E) | ext (i : Nat) (e : E) | clear (i : Nat) | ins (i : Nat) (ix e : E)
  | exp (e : E) | ret (e : Option E) | ite (c : E) (a b : List T)
  | for_ (tg : Tg) (it : It) (b : List T) | while_ (c : E) (b : List T)
  | raise (c : Nat) (es : List E) | try_ (b : List T) (hs : List (List Nat × Option Nat × List T))
  | brk | cont | pass | dead
  | iteB (f : Nat) (a : E) (x y : List T)
structure Fn where
  np : Nat
  nv : Nat
  body : List T
structure Prog where
  fn : Nat → Option Fn
  con : Nat → Option D
  init : Nat → Option Nat
  meth : Nat → Nat → Option Nat
  sub : Nat → Nat → Bool
  flds : Nat → List Nat
inductive Fl where
  | nx | brk | cnt | ret (r : RV)

/-! ### the evaluator -/
/-- a value is read -/
def rdat (s : S) : RV → Option D
  | .d x => some x
  | .own x => some x
  | .brw i => (match s.get i with
    | .own d => some d
    | .lent d => some d
    | .pub d => some d
    | _ => none)
  | .cell k => (s.cells[k]?).map .lst
/-- an operand that waits is nobody's own -/
def wk : RV → RV
  | .own x => .d x
  | r => r
/-- a value is kept by somebody -/
def esc (s : S) : RV → Option (D × S)
  | .d x => some (x, s)
  | .own x => some (x, s)
  | .brw i => (match s.get i with
    | .own d => some (d, s.set i (.pub d))
    | .pub d => some (d, s)
    | _ => none)
  | .cell _ => none
def Out.of {α : Type} (o : Option α) (s : S) : Out α := match o with
  | some a => .ok a s
  | none => .stuck
def locV (s : S) (i : Nat) : Out RV := match s.get i with
  | .pub d => .ok (.d d) s
  | .own _ => .ok (.brw i) s
  | .lent _ => .ok (.brw i) s
  | .exc _ _ => .ok (.brw i) s
  | .new _ _ => .ok (.brw i) s
  | .cell k => .ok (.cell k) s
  | _ => .stuck
def rdats (s : S) : List RV → Option (List D)
  | [] => some []
  | r :: rs => (rdat s r).bind fun x => (rdats s rs).map fun xs => x :: xs
def escs (s : S) : List RV → Option (List D × S)
  | [] => some ([], s)
  | r :: rs => (esc s r).bind fun p => (escs p.2 rs).map fun q => (p.1 :: q.1, q.2)
def isTy : Ty → D → Bool
  | .int, .int _ => true
  | .int, .bl _ => true
  | .bool, .bl _ => true
  | .str, .str _ => true
  | .list, .lst _ => true
  | .tuple, .tup _ => true
  | .dict, .dic _ => true
  | .cls c, .obj k _ => c == k
  | _, _ => false
/-- d[k] = v -/
def putK (kvs : List (D × D)) (k v : D) : List (D × D) := if kvs.any (fun p => eqD p.1 k) then kvs.map (fun p => if eqD p.1 k then (p.1, v) else p) else kvs ++ [(k, v)]
/-- arguments of a call -/
def agOf (s : S) (r : RV) : Option Ag := match r with
  | .cell k => some (.cell k)
  | r => (rdat s r).map .d
def agsOf (s : S) : List RV → Option (List Ag)
  | [] => some []
  | r :: rs => (agOf s r).bind fun x => (agsOf s rs).map fun xs => x :: xs
/-- behind a call that may have kept its arguments -/
def pubAll (s : S) : List RV → Option S
  | [] => some s
  | .brw i :: rs => (match s.get i with
    | .own d => pubAll (s.set i (.pub d)) rs
    | .pub _ => pubAll s rs
    | _ => none)
  | _ :: rs => pubAll s rs
def safeRt : Rt → Bool
  | .d x => noRef 8 x
  | .own (.lst xs) => xs.all (noRef 8)
  | .own _ => false
  | .cell _ => true
def hasBrw : List RV → Bool
  | [] => false
  | .brw _ :: _ => true
  | _ :: r => hasBrw r
def rvOf : Rt → RV
  | .d x => .d x
  | .own x => .own x
  | .cell k => .cell k
abbrev Run : Type := Nat → List Ag → List (List D) → RO
def after (s : S) (rs : List RV) : RO → Out RV
  | .ok r cs => (match hasBrw rs && !safeRt r with
    | false => .ok (rvOf r) { s with cells := cs }
    | true => (match pubAll s rs with
      | some s1 => .ok (rvOf r) { s1 with cells := cs }
      | none => .stuck))
  | .exc c fs cs => (match hasBrw rs && !fs.all (noRef 8) with
    | false => .exc c fs { s with cells := cs }
    | true => (match pubAll s rs with
      | some s1 => .exc c fs { s1 with cells := cs }
      | none => .stuck))
  | .stuck => .stuck
def callU (run : Run) (f : Nat) (rs : List RV) (s : S) : Out RV := match agsOf s rs with
  | some as => after s rs (run f as s.cells)
  | none => .stuck
def place (rs : List RV) : List (Nat ⊕ D) → Option (List RV)
  | [] => some []
  | .inl j :: r => (rs[j]?).bind fun x => (place rs r).map (x :: ·)
  | .inr d :: r => (place rs r).map (RV.d d :: ·)
/-- stores to a target -/
def getItems : Tg → D → Option (List D)
  | _, .tup xs => some xs
  | _, .lst xs => some xs
  | _, _ => none
mutual
def tgD : Tg → D → S → Option S
  | .nm i, d, s => some (s.set i (.pub d))
  | .tup ts, .tup xs, s => tgDs ts xs s
  | _, _, _ => none
def tgDs : List Tg → List D → S → Option S
  | [], [], s => some s
  | t :: ts, x :: xs, s => (tgD t x s).bind fun s1 => tgDs ts xs s1
  | _, _, _ => none
end
/-- a value is stored to a target: a new object belongs to the name -/
def tgR (t : Tg) (r : RV) (s : S) : Option S := match t, r with
  | .nm i, .own d => some (s.set i (.own d))
  | t, r => (esc s r).bind fun p => tgD t p.1 p.2
/-- own names of a comprehension: forgotten within, restored behind -/
def wipeE (s : S) : List Nat → S
  | [] => s
  | i :: is => (wipeE s is).set i .non
/-- ahead of a comprehension: what its own names hold is nobody's own -/
def pubOwn (s : S) : List Nat → Option S
  | [] => some s
  | i :: is => (match s.get i with
    | .own d => pubOwn (s.set i (.pub d)) is
    | .pub _ => pubOwn s is
    | .non => pubOwn s is
    | _ => none)
def restoreE (s0 : S) (s : S) : List Nat → S
  | [] => s
  | i :: is => (restoreE s0 s is).set i (s0.get i)
/-- slots that are walked are lent -/
def lend (s : S) : List Nat → S
  | [] => s
  | i :: is => (match s.get i with
    | .own d => lend (s.set i (.lent d)) is
    | _ => lend s is)
def unlend (s : S) : List Nat → S
  | [] => s
  | i :: is => (match s.get i with
    | .lent d => unlend (s.set i (.own d)) is
    | _ => unlend s is)
/-- the slots that are own -/
def ownIn (s : S) : List Nat → List Nat
  | [] => []
  | i :: is => (match s.get i with
    | .own _ => i :: ownIn s is
    | _ => ownIn s is)
def lcGo (f : D → S → Out (Option D)) : List D → S → Out (List D)
  | [], s => .ok [] s
  | x :: xs, s => (f x s).bind fun o s1 => (lcGo f xs s1).bind fun r s2 => .ok (match o with
    | some d => d :: r
    | none => r) s2
def lcCat (f : D → S → Out (List D)) : List D → S → Out (List D)
  | [], s => .ok [] s
  | x :: xs, s => (f x s).bind fun o s1 => (lcCat f xs s1).bind fun r s2 => .ok (o ++ r) s2
/-- no exception leaves -/
def Out.calm {α : Type} : Out α → Out α
  | .exc _ _ _ => .stuck
  | o => o
def zipD : List D → List D → List D
  | x :: xs, y :: ys => .tup [x, y] :: zipD xs ys
  | _, _ => []
def enumD (k : Nat) : List D → List D
  | [] => []
  | x :: xs => .tup [.int k, x] :: enumD (k + 1) xs
def rangeD (lo : Int) : Nat → List D
  | 0 => []
  | n + 1 => .int lo :: rangeD (lo + 1) n
def rangeC (lo c : Int) : Nat → List D
  | 0 => []
  | n + 1 => .int lo :: rangeC (lo + c) c n
def small62 (i : Int) : Bool := decide (i.natAbs < 2 ^ 62)
def rangeOf : List D → Option (List D)
  | [.int j] => if small62 j then some (rangeD 0 j.toNat) else none
  | [.int i, .int j] => if small62 i && small62 j then some (rangeD i (j - i).toNat) else none
  | [.int i, .int j, .int c] => if small62 i && small62 j && c == -1 then some (rangeC i (-1) (i - j).toNat) else none
  | _ => none
def brwOf : RV → List Nat
  | .brw i => [i]
  | _ => []
def itD (s : S) : RV → Option (List D)
  | .cell _ => none
  | r => (rdat s r).bind itemsOf
/-- the end, in another state -/
def Out.ends {α : Type} (f : S → S) : Out α → Out α
  | .ok a s => .ok a (f s)
  | .exc c fs s => .exc c fs (f s)
  | .stuck => .stuck

/-- a slot that holds a value -/
def hasV : Sl → Bool
  | .own _ => true
  | .cell _ => true
  | _ => false
def isOwnL : Sl → Bool
  | .own (.lst _) => true
  | _ => false
def keyOk : D → Bool
  | .int _ => true
  | .str _ => true
  | _ => false
/-- the last pair with the key -/
def pickV (ps : List (D × RV)) (k : D) : Option RV := if keyOk k then (ps.reverse.find? fun p => eqD p.1 k).map (·.2) else none
section
variable (P : Prog) (run : Run)
/-- a new instance: its __init__ runs -/
def mkU (c : Nat) (rs : List RV) (s : S) : Out RV := match P.init c with
  | none => .stuck
  | some f => match agsOf s rs with
    | none => .stuck
    | some as => after s rs (run f (.new c :: as) s.cells)
def enI (s : S) : List RV → Out (List D × List Nat)
  | [x] => (match itD s x with
    | some xs => .ok (enumD 0 xs, brwOf x) s
    | none => .stuck)
  | _ => .stuck
def ziI (s : S) : List RV → Out (List D × List Nat)
  | [x, y] => (match itD s x, itD s y with
    | some xs, some ys => .ok (zipD xs ys, brwOf x ++ brwOf y) s
    | _, _ => .stuck)
  | _ => .stuck
mutual
def evE : E → S → Out RV
  | .loc i, s => locV s i
  | .con d, s => .ok (.d d) s
  | .glo g, s => Out.of ((P.con g).map .d) s
  | .bin op a b, s => (evE a s).bind fun x s1 => (evE b s1).bind fun y s2 => Out.of ((rdat s2 x).bind fun u => (rdat s2 y).bind fun v => binop op u v) s2
  | .un op a, s => (evE a s).bind fun x s1 => Out.of ((rdat s1 x).bind fun u => (unop op u).map .d) s1
  | .and a b, s => (evE a s).bind fun x s1 => match (rdat s1 x).bind truthy with
    | some true => evE b s1
    | some false => .ok x s1
    | none => .stuck
  | .or a b, s => (evE a s).bind fun x s1 => match (rdat s1 x).bind truthy with
    | some true => .ok x s1
    | some false => evE b s1
    | none => .stuck
  | .ite c a b, s => (evE c s).bind fun x s1 => match (rdat s1 x).bind truthy with
    | some true => evE a s1
    | some false => evE b s1
    | none => .stuck
  | .cmp op a b, s => (evE a s).bind fun x s1 => (evE b s1).bind fun y s2 => Out.of ((rdat s2 x).bind fun u => (rdat s2 y).bind fun v => (cmpOp op u v).map fun r => .d (.bl r)) s2
  | .cmp2 op op' a b c, s => (evE a s).bind fun x s1 => (evE b s1).bind fun y s2 => match (rdat s2 x).bind fun u => (rdat s2 y).bind fun v => cmpOp op u v with
    | some true => (evE c s2).bind fun z s3 => Out.of ((rdat s3 y).bind fun u => (rdat s3 z).bind fun v => (cmpOp op' u v).map fun r => .d (.bl r)) s3
    | some false => .ok (.d (.bl false)) s2
    | none => .stuck
  | .isN neg a, s => (evE a s).bind fun x s1 => Out.of ((rdat s1 x).map fun u => .d (.bl (match u with
    | .non => !neg
    | _ => neg))) s1
  | .isB neg b a, s => (evE a s).bind fun x s1 => Out.of ((rdat s1 x).bind fun u => match u with
    | .bl k => some (.d (.bl (if neg then !(k == b) else k == b)))
    | _ => none) s1
  | .isi a ts, s => (evE a s).bind fun x s1 => Out.of ((rdat s1 x).map fun u => .d (.bl (ts.any fun t => isTy t u))) s1
  | .call f es, s => (evEs es s).bind fun rs s1 => callU run f rs s1
  | .callK f es ix, s => (evEs es s).bind fun rs s1 => match place rs ix with
    | some qs => callU run f qs s1
    | none => .stuck
  | .mk c es, s => (evEs es s).bind fun rs s1 => mkU P run c rs s1
  | .mkK c es ix, s => (evEs es s).bind fun rs s1 => match place rs ix with
    | some qs => mkU P run c qs s1
    | none => .stuck
  | .meth o m es, s => (evE o s).bind fun x s1 => match rdat s1 x with
    | some (.obj c fs) => (match P.meth c m with
      | some f => (evEs es s1).bind fun rs s2 => callU run f (.d (.obj c fs) :: rs) s2
      | none => .stuck)
    | _ => .stuck
  | .bi b es, s => (evEs es s).bind fun rs s1 => Out.of ((rdats s1 rs).bind fun xs => biOp b xs) s1
  | .fld a f, s => (evE a s).bind fun x s1 => match x with
    | .brw i => (match s1.get i with
      | .new _ fs => Out.of ((fs.lookup f).map .d) s1
      | _ => .stuck)
    | .d (.obj _ fs) => Out.of ((fs.lookup f).map .d) s1
    | _ => .stuck
  | .ix a b, s => (evE a s).bind fun x s1 => (evE b s1).bind fun y s2 => Out.of ((rdat s2 x).bind fun u => (rdat s2 y).bind fun v => (ixOp u v).map .d) s2
  | .sl a lo hi, s => (evE a s).bind fun x s1 => (evO lo s1).bind fun l s2 => (evO hi s2).bind fun h s3 => Out.of ((rdat s3 x).bind fun u => slOp u l h) s3
  | .tup es, s => (evXs es s).bind fun xs s1 => if xs.length ≤ 1000 then .ok (.d (.tup xs)) s1 else .stuck
  | .lst es, s => (evXs es s).bind fun xs s1 => if xs.length ≤ 1000 then .ok (.own (.lst xs)) s1 else .stuck
  | .dic kvs, s => (evKs kvs s).bind fun ps s1 => if ps.all fun p => (match p.1 with
      | .int _ => true
      | .str _ => true
      | _ => false) then .ok (.own (.dic (ps.foldl (fun acc p => putK acc p.1 p.2) []))) s1 else .stuck
  | .lc elt tg it ifs own, s => (evI it s).bind fun p s0 => match pubOwn s0 own with
    | none => .stuck
    | some s1 => (lcGo (fun x t => match tgD tg x (wipeE t own) with
        | none => .stuck
        | some t1 => (evC ifs t1).bind fun b t2 => match b with
          | false => .ok none t2
          | true => (evE elt t2).bind fun r t3 => match esc t3 r with
            | some q => .ok (some q.1) q.2
            | none => .stuck) p.1 (lend s1 (ownIn s1 p.2))).calm.bind fun xs s2 =>
          if xs.length ≤ 100000 then .ok (.own (.lst xs)) (unlend (restoreE s1 s2 own) (ownIn s1 p.2)) else .stuck
  | .lc2 elt tg it ifs tg2 it2 ifs2 own own2, s => (evI it s).bind fun p s0 => match pubOwn s0 own with
    | none => .stuck
    | some s1 => (lcCat (fun x t => match tgD tg x (wipeE t own) with
        | none => .stuck
        | some t1 => (evC ifs t1).bind fun b t2 => match b with
          | false => .ok [] t2
          | true => (evI it2 t2).bind fun q t3 => (lcGo (fun y u => match tgD tg2 y (wipeE u own2) with
              | none => .stuck
              | some u1 => (evC ifs2 u1).bind fun b u2 => match b with
                | false => .ok none u2
                | true => (evE elt u2).bind fun r u3 => match esc u3 r with
                  | some q => .ok (some q.1) q.2
                  | none => .stuck) q.1 (lend t3 (ownIn t3 q.2))).bind fun ys u => .ok ys (unlend u (ownIn t3 q.2))) p.1 (lend s1 (ownIn s1 p.2))).calm.bind fun xs s2 =>
          if xs.length ≤ 100000 then .ok (.own (.lst xs)) (unlend (restoreE s1 s2 own) (ownIn s1 p.2)) else .stuck
  | .ofIt b it, s => (evI it s).bind fun p s1 => match b with
    | .list => if p.1.length ≤ 100000 then .ok (.own (.lst p.1)) s1 else .stuck
    | .tuple => if p.1.length ≤ 100000 then .ok (.d (.tup p.1)) s1 else .stuck
    | _ => .stuck
  | .pick kvs k, s => (evPk kvs s).bind fun ps s1 => (evE k s1).bind fun y s2 => match rdat s2 y with
    | some kd => (match pickV ps kd with
      | some (.brw i) => (match s2.get i with
        | .own d => .ok (.own d) (s2.set i .non)
        | .pub d => .ok (.d d) s2
        | _ => .stuck)
      | some r => .ok r s2
      | none => .stuck)
    | none => .stuck
  | .pop i e, s => if !isOwnL (s.get i) then .stuck else (evO e s).bind fun o s1 => match s1.get i with
        | .own (.lst xs) => if xs.length ≤ 100000 then (match atI xs (o.getD (-1)) with
          | some x => .ok (.d x) (s1.set i (.own (.lst (xs.eraseIdx ((ixN xs.length (o.getD (-1))).getD 0)))))
          | none => .stuck) else .stuck
        | _ => .stuck
  | .exf i f, s => (match s.get i with
    | .exc c fs => Out.of ((((P.flds c).zip fs).lookup f).map .d) s
    | _ => .stuck)
def evEs : List E → S → Out (List RV)
  | [], s => .ok [] s
  | e :: es, s => (evE e s).bind fun x s1 => (evEs es s1).bind fun xs s2 => .ok (wk x :: xs) s2
def evXs : List E → S → Out (List D)
  | [], s => .ok [] s
  | e :: es, s => (evE e s).bind fun x s1 => match esc s1 x with
    | none => .stuck
    | some p => (evXs es p.2).bind fun xs s2 => .ok (p.1 :: xs) s2
def evKs : List (E × E) → S → Out (List (D × D))
  | [], s => .ok [] s
  | kv :: r, s => (evE kv.1 s).bind fun x s1 => match esc s1 x with
    | none => .stuck
    | some p => (evE kv.2 p.2).bind fun y s2 => match esc s2 y with
      | none => .stuck
      | some q => (evKs r q.2).bind fun ps s3 => .ok ((p.1, q.1) :: ps) s3
/-- a display that is looked up at once: pairs, the keys ints or texts -/
def evPk : List (E × E) → S → Out (List (D × RV))
  | [], s => .ok [] s
  | kv :: r, s => (evE kv.1 s).bind fun x s1 => match rdat s1 x with
    | some kd => if keyOk kd then (evE kv.2 s1).bind fun y s2 => (evPk r s2).bind fun ps s3 => .ok ((kd, match r with
        | [] => y
        | _ => wk y) :: ps) s3 else .stuck
    | none => .stuck
def evO : Option E → S → Out (Option Int)
  | none, s => .ok none s
  | some e, s => (evE e s).bind fun x s1 => match rdat s1 x with
    | some (.int i) => .ok (some i) s1
    | _ => .stuck
/-- tests, all of them -/
def evC : List E → S → Out Bool
  | [], s => .ok true s
  | e :: es, s => (evE e s).bind fun x s1 => match (rdat s1 x).bind truthy with
    | some true => evC es s1
    | some false => .ok false s1
    | none => .stuck
/-- what is walked: its items, the slots that are walked -/
def evI : It → S → Out (List D × List Nat)
  | .seq e, s => (evE e s).bind fun x s1 => match itD s1 x with
    | some xs => .ok (xs, brwOf x) s1
    | none => .stuck
  | .range es, s => (evEs es s).bind fun rs s1 => Out.of ((rdats s1 rs).bind fun xs => (rangeOf xs).map fun q => (q, [])) s1
  | .enum es, s => (evEs es s).bind fun rs s1 => enI s1 rs
  | .zip es, s => (evEs es s).bind fun rs s1 => ziI s1 rs
  | .enumZ es, s => (evEs es s).bind fun rs s1 => (ziI s1 rs).bind fun p s2 => .ok (enumD 0 p.1, p.2) s2
  | .var i, s => (match s.get i with
    | .rng xs => .ok (xs, []) s
    | .itr xs => .ok (xs, []) (s.set i .non)
    | _ => .stuck)
  | .rev e, s => (evE e s).bind fun x s1 => match itD s1 x with
    | some xs => .ok (xs.reverse, brwOf x) s1
    | none => .stuck
  | .revR es, s => (evEs es s).bind fun rs s1 => Out.of ((rdats s1 rs).bind fun xs => (rangeOf xs).map fun q => (q.reverse, [])) s1
  | .items e, s => (evE e s).bind fun x s1 => match x, rdat s1 x with
    | .d _, some (.dic kvs) => .ok (kvs.map fun p => .tup [p.1, p.2], []) s1
    | _, _ => .stuck
end
/-- values for several names: a new object stays the name's own -/
def evPs : List E → S → Out (List RV)
  | [], s => .ok [] s
  | e :: es, s => (evE P run e s).bind fun x s1 => match x with
    | .own d => (evPs es s1).bind fun xs s2 => .ok (.own d :: xs) s2
    | x => (match esc s1 x with
      | none => .stuck
      | some p => (evPs es p.2).bind fun xs s2 => .ok (.d p.1 :: xs) s2)
end
def parGo : List Nat → List RV → S → Option S
  | [], [], s => some s
  | i :: is, r :: rs, s => (tgR (.nm i) r s).bind fun s1 => parGo is rs s1
  | _, _, _ => none
def forGo (f : D → S → Out Fl) : List D → S → Out Fl
  | [], s => .ok .nx s
  | x :: xs, s => (f x s).bind fun fl s1 => match fl with
    | .nx => forGo f xs s1
    | .cnt => forGo f xs s1
    | .brk => .ok .nx s1
    | .ret r => .ok (.ret r) s1
def wIter (step : S → Out (Option Fl)) : Nat → S → Option (Out Fl)
  | 0, _ => none
  | n + 1, s => match step s with
    | .ok (some fl) s1 => some (.ok fl s1)
    | .ok none s1 => wIter step n s1
    | .exc c fs s1 => some (.exc c fs s1)
    | .stuck => some .stuck
open Classical in
noncomputable def whileL (step : S → Out (Option Fl)) (s : S) : Out Fl := if h : ∃ n r, wIter step n s = some r then h.choose_spec.choose else .stuck
theorem wIter_add {step : S → Out (Option Fl)} : ∀ {n : Nat} {s : S} {r : Out Fl} (m : Nat), wIter step n s = some r → wIter step (n + m) s = some r
  | 0, _, _, _, h => by cases h
  | n + 1, s, r, m, h => by
    rw [Nat.succ_add]
    unfold wIter at h ⊢
    cases e : step s with
    | ok o s1 =>
      rw [e] at h
      cases o with
      | some fl => exact h
      | none => exact wIter_add m h
    | exc c fs s1 => rw [e] at h; exact h
    | stuck => rw [e] at h; exact h
theorem wIter_det {step : S → Out (Option Fl)} {n m : Nat} {s : S} {r r' : Out Fl} (h : wIter step n s = some r) (h' : wIter step m s = some r') : r = r' := by
  have a := wIter_add m h
  have b := wIter_add n h'
  rw [Nat.add_comm] at b
  exact Option.some.inj (a.symm.trans b)
theorem whileL_of {step : S → Out (Option Fl)} {n : Nat} {s : S} {r : Out Fl} (h : wIter step n s = some r) : whileL step s = r := by
  have ex : ∃ n r, wIter step n s = some r := ⟨n, r, h⟩
  unfold whileL
  rw [dif_pos ex]
  exact wIter_det ex.choose_spec.choose_spec h
/-- one turn -/
theorem whileL_eq (step : S → Out (Option Fl)) (s : S) : whileL step s = match step s with
    | .ok (some fl) s1 => .ok fl s1
    | .ok none s1 => whileL step s1
    | .exc c fs s1 => .exc c fs s1
    | .stuck => .stuck := by
  cases e : step s with
  | ok o s1 =>
    cases o with
    | some fl => exact whileL_of (n := 1) (by unfold wIter; rw [e])
    | none =>
      by_cases h : ∃ n r, wIter step n s1 = some r
      · obtain ⟨n, r, h⟩ := h
        rw [whileL_of (n := n + 1) (r := r) (by unfold wIter; rw [e]; exact h)]
        exact (whileL_of h).symm
      · have h2 : ¬ ∃ n r, wIter step n s = some r := by
          rintro ⟨n, r, q⟩
          cases n with
          | zero => cases q
          | succ n =>
            unfold wIter at q
            rw [e] at q
            exact h ⟨n, r, q⟩
        show whileL step s = whileL step s1
        unfold whileL
        rw [dif_neg h, dif_neg h2]
  | exc c fs s1 => exact whileL_of (n := 1) (by unfold wIter; rw [e])
  | stuck => exact whileL_of (n := 1) (by unfold wIter; rw [e])
def setCell (cs : List (List D)) (k j : Nat) (d : D) : List (List D) := match cs[k]? with
  | some xs => cs.set k (xs.set j d)
  | none => cs
def setAt (s : S) (i : Nat) (k d : D) : Option S := match s.get i, k with
  | .own (.lst xs), .int z => (ixN xs.length z).map fun j => s.set i (.own (.lst (xs.set j d)))
  | .own (.dic kvs), .int z => if kvs.length < 100000 then some (s.set i (.own (.dic (putK kvs (.int z) d)))) else none
  | .own (.dic kvs), .str z => if kvs.length < 100000 then some (s.set i (.own (.dic (putK kvs (.str z) d)))) else none
  | .cell c, .int z => (match s.cells[c]? with
    | some xs => if flat d then (ixN xs.length z).map fun j => { s with cells := s.cells.set c (xs.set j d) } else none
    | none => none)
  | _, _ => none
section
variable (lp : (S → Out (Option Fl)) → S → Out Fl) (P : Prog) (run : Run)
mutual
def exT : T → S → Out Fl
  | .asg t e, s => (evE P run e s).bind fun r s1 => match tgR t r s1 with
    | some s2 => .ok .nx s2
    | none => .stuck
  | .asgC i e, s => (evE P run e s).bind fun r s1 => match r with
    | .own (.lst xs) => if xs.all flat then .ok .nx { env := s1.env.set i (.cell s1.cells.length), cells := s1.cells ++ [xs] } else .stuck
    | _ => .stuck
  | .asgI i it, s => (evI P run it s).bind fun p s1 => match it, p.2 with
    | .range _, [] => .ok .nx (s1.set i (.rng p.1))
    | _, [] => .ok .nx (s1.set i (.itr p.1))
    | _, _ => .stuck
  | .par is es, s => (evPs P run es s).bind fun rs s1 => match parGo is rs s1 with
    | some s2 => .ok .nx s2
    | none => .stuck
  | .setI i ix e, s => (evE P run e s).bind fun r s1 => match esc s1 r with
    | none => .stuck
    | some p => if hasV (p.2.get i) then (evE P run ix p.2).bind fun q s2 => match (rdat s2 q).bind fun k => setAt s2 i k p.1 with
      | some s3 => .ok .nx s3
      | none => .stuck else .stuck
  | .setF i f e, s => (evE P run e s).bind fun r s1 => match esc s1 r with
    | none => .stuck
    | some p => (match p.2.get i with
      | .new c fs => if fs.length < 100 && (fs.lookup f).isNone then .ok .nx (p.2.set i (.new c (fs ++ [(f, p.1)]))) else .stuck
      | _ => .stuck)
  | .aug i op e, s => (match s.get i with
    | .pub d => (evE P run e s).bind fun r s1 => match (rdat s1 r).bind fun y => binop op d y with
      | some (.d z) => .ok .nx (s1.set i (.pub z))
      | _ => .stuck
    | _ => .stuck)
  | .app i e, s => if !isOwnL (s.get i) then .stuck else (evE P run e s).bind fun r s1 => match esc s1 r with
    | none => .stuck
    | some p => (match p.2.get i with
      | .own (.lst xs) => if xs.length < 100000 then .ok .nx (p.2.set i (.own (.lst (xs ++ [p.1])))) else .stuck
      | _ => .stuck)
  | .ext i e, s => if !isOwnL (s.get i) then .stuck else (evE P run e s).bind fun r s1 => match r, s1.get i with
    | .own (.lst ys), .own (.lst xs) => if xs.length + ys.length ≤ 100000 then .ok .nx (s1.set i (.own (.lst (xs ++ ys)))) else .stuck
    | _, _ => .stuck
  | .clear i, s => (match s.get i with
    | .own (.lst _) => .ok .nx (s.set i (.own (.lst [])))
    | _ => .stuck)
  | .ins i ix e, s => if !isOwnL (s.get i) then .stuck else (evE P run ix s).bind fun q s1 => (evE P run e s1).bind fun r s2 => match esc s2 r with
    | none => .stuck
    | some p => (match rdat p.2 q, p.2.get i with
      | some (.int 0), .own (.lst xs) => if xs.length < 100000 then .ok .nx (p.2.set i (.own (.lst (p.1 :: xs)))) else .stuck
      | _, _ => .stuck)
  | .exp e, s => (evE P run e s).bind fun _ s1 => .ok .nx s1
  | .ret none, s => .ok (.ret (.d .non)) s
  | .ret (some e), s => (evE P run e s).bind fun r s1 => .ok (.ret r) s1
  | .ite c a b, s => (evE P run c s).bind fun x s1 => match (rdat s1 x).bind truthy with
    | some true => exTs a s1
    | some false => exTs b s1
    | none => .stuck
  | .for_ t it b, s => (evI P run it s).bind fun p s1 => (forGo (fun x u => match tgD t x u with
      | none => .stuck
      | some u1 => exTs b u1) p.1 (lend s1 (ownIn s1 p.2))).ends fun s2 => unlend s2 (ownIn s1 p.2)
  | .while_ c b, s => lp (fun u => (evE P run c u).bind fun x u1 => match (rdat u1 x).bind truthy with
      | some true => (exTs b u1).bind fun fl u2 => .ok (match fl with
        | .nx => none
        | .cnt => none
        | .brk => some .nx
        | .ret r => some (.ret r)) u2
      | some false => .ok (some .nx) u1
      | none => .stuck) s
  | .raise c es, s => (evXs P run es s).bind fun xs s1 => .exc c xs s1
  | .try_ b hs, s => (match exTs b s with
    | .ok fl s1 => .ok fl s1
    | .exc c fs s1 => exHs c fs hs s1
    | .stuck => .stuck)
  | .brk, s => .ok .brk s
  | .cont, s => .ok .cnt s
  | .pass, s => .ok .nx s
  | .dead, s => .stuck
  | .iteB f a x y, s => (evE P run a s).bind fun r s1 => match r with
    | .own (.lst xs) => if xs.all flat then (match run f [.cell s1.cells.length] (s1.cells ++ [xs]) with
        | .ok (.d (.bl b)) cs => if b then exTs x { s1 with cells := cs } else exTs y { s1 with cells := cs }
        | .exc c fs cs => .exc c fs { s1 with cells := cs }
        | _ => .stuck) else .stuck
    | _ => .stuck
def exTs : List T → S → Out Fl
  | [], s => .ok .nx s
  | t :: ts, s => (exT t s).bind fun fl s1 => match fl with
    | .nx => exTs ts s1
    | fl => .ok fl s1
def exHs (c : Nat) (fs : List D) : List (List Nat × Option Nat × List T) → S → Out Fl
  | [], s => .exc c fs s
  | h :: hs, s => if h.1.any (fun k => P.sub c k) then (match h.2.1 with
      | some i => (exTs h.2.2 (s.set i (.exc c fs))).calm.bind fun fl s1 => .ok fl (s1.set i .non)
      | none => (exTs h.2.2 s).calm) else exHs c fs hs s
end
/-- what a def gives -/
def rtOf (n : Nat) (s : S) : RV → Option Rt
  | .d x => some (.d x)
  | .own x => some (.own x)
  | .brw i => (match s.get i with
    | .own d => some (.own d)
    | .pub d => some (.d d)
    | _ => none)
  | .cell k => if k < n then some (.cell k) else none
def agSl : Ag → Sl
  | .d x => .pub x
  | .cell k => .cell k
  | .new c => .new c []
def isNew : List Ag → Bool
  | .new _ :: _ => true
  | _ => false
def bodyR (fn : Fn) (as : List Ag) (cs : List (List D)) : RO :=
  match exTs lp P run fn.body ⟨as.map agSl ++ List.replicate (fn.nv - fn.np) .non, cs⟩ with
  | .ok fl s => (match isNew as, fl with
    | true, .nx => (match s.get 0 with
      | .new c fs => .ok (.d (.obj c fs)) (s.cells.take cs.length)
      | _ => .stuck)
    | true, _ => .stuck
    | false, .nx => .ok (.d .non) (s.cells.take cs.length)
    | false, .ret r => (match rtOf cs.length s r with
      | some t => .ok t (s.cells.take cs.length)
      | none => .stuck)
    | false, _ => .stuck)
  | .exc c fs s => .exc c fs (s.cells.take cs.length)
  | .stuck => .stuck
end
def runG (lp : (S → Out (Option Fl)) → S → Out Fl) (P : Prog) : Nat → Run
  | 0 => fun _ _ _ => .stuck
  | n + 1 => fun f as cs => match P.fn f with
    | none => .stuck
    | some fn => if as.length = fn.np then bodyR lp P (runG lp P n) fn as cs else .stuck
noncomputable def runF (P : Prog) : Nat → Run := runG whileL P
/-- loops with a bound: for trial runs alone -/
def whileN (n : Nat) (step : S → Out (Option Fl)) (s : S) : Out Fl := match wIter step n s with
  | some r => r
  | none => .stuck
end Py
end SA
section SB1
set_option autoImplicit false
set_option linter.all false
set_option maxRecDepth 100000
set_option maxHeartbeats 4000000
/-! The evaluator over the hand layer, 1: data in the abstract heap, frames. -/
namespace Py
open PySem L2

/-- the names of the text -/
structure Lk where
  fnm : Nat → Str
  glo : Nat → Str
  cls : Nat → Str
  fld : Nat → Str
  mth : Nat → Str
  ps : Nat → List Str

/-- what stays through the law -/
structure Gx where
  P : Prog
  L : Lk
  K : PySem.W.Frag
  mg : Str → Option Value
  /-- exceptions that are held: where, the class, the own dict -/
  ho : Addr → Value → Option Addr → Prop := fun _ _ _ => False

abbrev Bar := Addr → Prop
def ST (s : List Nat) : Str := ⟨s.toArray⟩
def keyD : D → Option Key
  | .int i => some (.inl i)
  | .str s => some (.inr (ST s))
  | _ => none

/-- a list, a tuple of the written part -/
def KL (K : PySem.W.Frag) (a : Addr) (xs : List V) : Prop := ∃ (o : Obj) (its : Array Value) (n : Nat), K.lookup a = some o ∧ o.cls = .type "list" ∧ o.dict = none ∧ o.data = .seq its n ∧ its.size ≤ sizeLine ∧ Vals xs its.toList
def KT (K : PySem.W.Frag) (a : Addr) (xs : List V) : Prop := ∃ (o : Obj) (its : Array Value) (n : Nat), K.lookup a = some o ∧ o.cls = .type "tuple" ∧ o.data = .seq its n ∧ its.size ≤ sizeLine ∧ Vals xs its.toList
def LsB (G : Gx) (H : Hp) (B : Bar) (a : Addr) (vs : List V) : Prop := (¬ B a ∧ Rd H a (.lst vs)) ∨ KL G.K a vs
def TpB (G : Gx) (H : Hp) (B : Bar) (a : Addr) (vs : List V) : Prop := (¬ B a ∧ Rd H a (.tup vs)) ∨ KT G.K a vs
/-- a class whose instances are data -/
structure ClsOk (G : Gx) (c : Nat) (C : Addr) : Prop where
  nm : G.mg (G.L.cls c) = some (.ref C)
  cls : Cls G.K C
  ha : PySem.W.findIn G.K (.ref C) "__class__" = some (some (.builtin "object.__class__"))
  hn : PySem.W.specialIn G.K (.builtin "object.__class__") "__get__" = some (some (.builtin "getset_descriptor.__get__"))
  htk : PySem.W.takesIn G.K (.builtin "object.__class__") = some true
  hm : PySem.W.mroIn G.K C (.type "object") = some true
  toB : ∀ T ∈ ["bool", "int", "str", "list", "tuple", "dict"], PySem.W.kitOne G.K (.ref C) (.type T) = some false
  ofB : ∀ T ∈ ["NoneType", "bool", "int", "str", "list", "tuple", "dict"], PySem.W.kitOne G.K (.type T) (.ref C) = some false
  oth : ∀ c' C', c' ≠ c → G.P.init c' ≠ none → G.mg (G.L.cls c') = some (.ref C') → PySem.W.kitOne G.K (.ref C) (.ref C') = some false
  init : G.P.init c ≠ none
mutual
/-- the value v stands for the data d, at places that B does not bar -/
def DR (G : Gx) (H : Hp) (B : Bar) : D → V → Prop
  | .non, v => v = .non
  | .bl b, v => v = .bl b
  | .int i, v => v = .int i
  | .str s, v => v = .str (ST s) ∧ okS s = true
  | .lst xs, v => ∃ a vs, v = .ref a ∧ LsB G H B a vs ∧ DRs G H B xs vs
  | .tup xs, v => ∃ a vs, v = .ref a ∧ TpB G H B a vs ∧ DRs G H B xs vs
  | .dic kvs, v => ∃ a kws, v = .ref a ∧ ¬ B a ∧ H a = some (.dK kws) ∧ KRs G H B kvs kws
  | .obj c fs, v => ∃ a C dx gs, v = .ref a ∧ ¬ B a ∧ H a = some (.ins C dx gs) ∧ ClsOk G c C ∧ FRs G H B fs gs
def DRs (G : Gx) (H : Hp) (B : Bar) : List D → List V → Prop
  | [], vs => vs = []
  | x :: xs, vs => ∃ v ws, vs = v :: ws ∧ DR G H B x v ∧ DRs G H B xs ws
def KRs (G : Gx) (H : Hp) (B : Bar) : List (D × D) → List (Key × V) → Prop
  | [], vs => vs = []
  | p :: xs, vs => ∃ k v ws, vs = (k, v) :: ws ∧ keyD p.1 = some k ∧ DR G H B p.2 v ∧ KRs G H B xs ws
def FRs (G : Gx) (H : Hp) (B : Bar) : List (Nat × D) → List (Str × V) → Prop
  | [], vs => vs = []
  | p :: xs, vs => ∃ v ws, vs = (G.L.fld p.1, v) :: ws ∧ DR G H B p.2 v ∧ FRs G H B xs ws
end

section
variable {G : Gx} {H H' : Hp} {B B' : Bar}
abbrev Kp (H H' : Hp) (B B' : Bar) : Prop := ∀ a o, ¬ B a → H a = some o → H' a = some o ∧ ¬ B' a
theorem LsB.mono (hk : Kp H H' B B') {a : Addr} {vs : List V} (h : LsB G H B a vs) : LsB G H' B' a vs := by
  rcases h with ⟨n, h | ⟨o, h⟩⟩ | h
  · exact .inl ⟨(hk a _ n h).2, .inl (hk a _ n h).1⟩
  · exact .inl ⟨(hk a _ n h).2, .inr ⟨o, (hk a _ n h).1⟩⟩
  · exact .inr h
theorem TpB.mono (hk : Kp H H' B B') {a : Addr} {vs : List V} (h : TpB G H B a vs) : TpB G H' B' a vs := by
  rcases h with ⟨n, h | ⟨o, h⟩⟩ | h
  · exact .inl ⟨(hk a _ n h).2, .inl (hk a _ n h).1⟩
  · exact .inl ⟨(hk a _ n h).2, .inr ⟨o, (hk a _ n h).1⟩⟩
  · exact .inr h
theorem LsB.sq {a : Addr} {vs : List V} (h : LsB G H B a vs) : SqL G.K H a vs := by
  rcases h with ⟨_, h⟩ | h
  · exact .inl h
  · exact .inr h
theorem TpB.sq {a : Addr} {vs : List V} (h : TpB G H B a vs) : SqT G.K H a vs := by
  rcases h with ⟨_, h⟩ | h
  · exact .inl h
  · exact .inr h
mutual
theorem DR.mono (hk : Kp H H' B B') : ∀ {d : D} {v : V}, DR G H B d v → DR G H' B' d v
  | .non, _, h => h
  | .bl _, _, h => h
  | .int _, _, h => h
  | .str _, _, h => h
  | .lst xs, v, h => by
    obtain ⟨a, vs, e, q, r⟩ := h
    exact ⟨a, vs, e, q.mono hk, DRs.mono hk r⟩
  | .tup xs, v, h => by
    obtain ⟨a, vs, e, q, r⟩ := h
    exact ⟨a, vs, e, q.mono hk, DRs.mono hk r⟩
  | .dic kvs, v, h => by
    obtain ⟨a, vs, e, n, q, r⟩ := h
    exact ⟨a, vs, e, (hk a _ n q).2, (hk a _ n q).1, KRs.mono hk r⟩
  | .obj c fs, v, h => by
    obtain ⟨a, C, dx, gs, e, n, q, m, r⟩ := h
    exact ⟨a, C, dx, gs, e, (hk a _ n q).2, (hk a _ n q).1, m, FRs.mono hk r⟩
theorem DRs.mono (hk : Kp H H' B B') : ∀ {ds : List D} {vs : List V}, DRs G H B ds vs → DRs G H' B' ds vs
  | [], _, h => h
  | x :: xs, _, h => by
    obtain ⟨v, ws, e, r, t⟩ := h
    exact ⟨v, ws, e, DR.mono hk r, DRs.mono hk t⟩
theorem KRs.mono (hk : Kp H H' B B') : ∀ {ds : List (D × D)} {vs : List (Key × V)}, KRs G H B ds vs → KRs G H' B' ds vs
  | [], _, h => h
  | p :: xs, _, h => by
    obtain ⟨k, v, ws, e, q, r, t⟩ := h
    exact ⟨k, v, ws, e, q, DR.mono hk r, KRs.mono hk t⟩
theorem FRs.mono (hk : Kp H H' B B') : ∀ {ds : List (Nat × D)} {vs : List (Str × V)}, FRs G H B ds vs → FRs G H' B' ds vs
  | [], _, h => h
  | p :: xs, _, h => by
    obtain ⟨v, ws, e, r, t⟩ := h
    exact ⟨v, ws, e, DR.mono hk r, FRs.mono hk t⟩
end
theorem DRs.length : ∀ {ds : List D} {vs : List V}, DRs G H B ds vs → ds.length = vs.length
  | [], _, h => by cases h; rfl
  | _ :: _, _, ⟨_, _, e, _, t⟩ => by subst e; simp [DRs.length t]
theorem DRs.get : ∀ {ds : List D} {vs : List V} {i : Nat} {d : D}, DRs G H B ds vs → ds[i]? = some d → ∃ v, vs[i]? = some v ∧ DR G H B d v
  | _ :: _, _, 0, _, ⟨v, _, e, r, _⟩, h => by
    subst e
    simp at h
    subst h
    exact ⟨v, rfl, r⟩
  | _ :: _, _, i + 1, _, ⟨_, _, e, _, t⟩, h => by
    subst e
    obtain ⟨v, h1, h2⟩ := DRs.get (i := i) t (by simpa using h)
    exact ⟨v, by simpa using h1, h2⟩
theorem DRs.append : ∀ {ds es : List D} {vs ws : List V}, DRs G H B ds vs → DRs G H B es ws → DRs G H B (ds ++ es) (vs ++ ws)
  | [], _, _, _, h, q => by cases h; exact q
  | _ :: _, _, _, _, ⟨v, _, e, r, t⟩, q => by
    subst e
    exact ⟨v, _, rfl, r, DRs.append t q⟩
theorem DRs.take : ∀ {ds : List D} {vs : List V} (n : Nat), DRs G H B ds vs → DRs G H B (ds.take n) (vs.take n)
  | ds, vs, 0, _ => by simp [DRs]
  | [], _, n + 1, h => by cases h; simp [DRs]
  | _ :: _, _, n + 1, ⟨v, _, e, r, t⟩ => by
    subst e
    exact ⟨v, _, rfl, r, DRs.take n t⟩
theorem DRs.drop : ∀ {ds : List D} {vs : List V} (n : Nat), DRs G H B ds vs → DRs G H B (ds.drop n) (vs.drop n)
  | ds, vs, 0, h => by simpa using h
  | [], _, n + 1, h => by cases h; simp [DRs]
  | _ :: _, _, n + 1, ⟨v, _, e, r, t⟩ => by
    subst e
    simpa using DRs.drop n t
theorem DRs.set : ∀ {ds : List D} {vs : List V} (j : Nat) {d : D} {v : V}, DRs G H B ds vs → DR G H B d v → DRs G H B (ds.set j d) (vs.set j v)
  | [], _, _, _, _, h, _ => by cases h; simp [DRs]
  | _ :: _, _, 0, _, w, ⟨v, _, e, _, t⟩, q => by
    subst e
    exact ⟨w, _, rfl, q, t⟩
  | _ :: _, _, j + 1, _, _, ⟨v, _, e, r, t⟩, q => by
    subst e
    exact ⟨v, _, rfl, r, DRs.set j t q⟩
theorem DRs.eraseIdx : ∀ {ds : List D} {vs : List V} (j : Nat), DRs G H B ds vs → DRs G H B (ds.eraseIdx j) (vs.eraseIdx j)
  | [], _, _, h => by cases h; simp [DRs]
  | _ :: _, _, 0, ⟨v, _, e, _, t⟩ => by
    subst e
    simpa using t
  | _ :: _, _, j + 1, ⟨v, _, e, r, t⟩ => by
    subst e
    exact ⟨v, _, rfl, r, DRs.eraseIdx j t⟩
theorem DRs.map {α : Type} (f : α → D) (g : α → V) (h : ∀ x, DR G H B (f x) (g x)) : ∀ xs : List α, DRs G H B (xs.map f) (xs.map g)
  | [] => rfl
  | x :: xs => ⟨g x, _, rfl, h x, DRs.map f g h xs⟩
/-- data without objects is the same everywhere -/
theorem DR.flat {d : D} {v : V} (f : flat d = true) (h : DR G H B d v) : DR G H' B' d v := by
  cases d <;> first | exact h | cases f
theorem DRs.flat : ∀ {ds : List D} {vs : List V}, ds.all Py.flat = true → DRs G H B ds vs → DRs G H' B' ds vs
  | [], _, _, h => h
  | _ :: _, _, f, ⟨v, ws, e, r, t⟩ => by
    rw [List.all_cons, Bool.and_eq_true] at f
    exact ⟨v, ws, e, r.flat f.1, DRs.flat f.2 t⟩
end

/-! ### a frame -/
/-- what stays through a frame: the entry's abstract heap, what of it may change, the cells at the entry -/
structure Fc where
  H0 : Hp
  M0 : Bar
  fm0 : List Addr
  /-- the object that __init__ fills: its class, its place, the class's place -/
  self : Option (Nat × Addr × Addr)
  /-- slots that were lent ahead of the entry -/
  L0 : Nat → Addr → Prop
def owns : Sl → Bool
  | .own _ => true
  | .lent _ => true
  | .new _ _ => true
  | _ => false
def muts : Sl → Bool
  | .own _ => true
  | .new _ _ => true
  | _ => false
/-- the object of an own slot -/
def OwnA (s : S) (σ : L2.St) (i : Nat) (a : Addr) : Prop := owns (s.get i) = true ∧ σ[i]? = some (some (.ref a))
def MutA (s : S) (σ : L2.St) (i : Nat) (a : Addr) : Prop := muts (s.get i) = true ∧ σ[i]? = some (some (.ref a))
/-- barred, may change -/
def Br (fm : List Addr) (ex : Bar) (s : S) (σ : L2.St) (a : Addr) : Prop := a ∈ fm ∨ ex a ∨ ∃ i, OwnA s σ i a
def Mu (fm : List Addr) (s : S) (σ : L2.St) (a : Addr) : Prop := a ∈ fm ∨ ∃ i, MutA s σ i a
theorem Mu.br {fm : List Addr} {ex : Bar} {s : S} {σ : L2.St} {a : Addr} (h : Mu fm s σ a) : Br fm ex s σ a := by
  rcases h with h | ⟨i, h1, h2⟩
  · exact .inl h
  · refine .inr (.inr ⟨i, ?_, h2⟩)
    revert h1
    cases s.get i <;> simp [muts, owns]
/-- what an own object is -/
def OwnAt (G : Gx) (H : Hp) (B : Bar) (a : Addr) : D → Prop
  | .lst xs => ∃ vs, H a = some (.lst vs) ∧ DRs G H B xs vs
  | .dic kvs => ∃ kws, H a = some (.dK kws) ∧ KRs G H B kvs kws
  | _ => False
/-- an exception in flight: its class, its own dict -/
def XR (G : Gx) (H : Hp) (B : Bar) (c : Nat) (fs : List D) (C : Value) (d : Option Addr) : Prop :=
  ∃ ca, C = .ref ca ∧ G.mg (G.L.cls c) = some (.ref ca) ∧ (G.P.flds c).length = fs.length ∧
    ((fs = [] ∧ d = none) ∨ ∃ dx gs, d = some dx ∧ H dx = some (.xd gs) ∧ ¬ B dx ∧ FRs G H B ((G.P.flds c).zip fs) gs)
theorem XR.mono {G : Gx} {H H' : Hp} {B B' : Bar} (hk : ∀ a o, ¬ B a → H a = some o → H' a = some o ∧ ¬ B' a) {c : Nat} {fs : List D} {C : Value} {d : Option Addr} (h : XR G H B c fs C d) : XR G H' B' c fs C d := by
  obtain ⟨ca, h1, h2, h3, h4⟩ := h
  refine ⟨ca, h1, h2, h3, ?_⟩
  rcases h4 with h4 | ⟨dx, gs, e1, e2, e3, t⟩
  · exact .inl h4
  · exact .inr ⟨dx, gs, e1, (hk dx _ e3 e2).1, (hk dx _ e3 e2).2, t.mono hk⟩
/-- an exception's object, as a handler sees it -/
def ExcAt (G : Gx) (H : Hp) (B : Bar) (a : Addr) (c : Nat) (fs : List D) : Prop := ∃ C d, G.ho a C d ∧ XR G H B c fs C d
theorem ExcAt.mono {G : Gx} {H H' : Hp} {B B' : Bar} (hk : ∀ a o, ¬ B a → H a = some o → H' a = some o ∧ ¬ B' a) {a : Addr} {c : Nat} {fs : List D} (h : ExcAt G H B a c fs) : ExcAt G H' B' a c fs :=
  let ⟨C, d, h1, h2⟩ := h
  ⟨C, d, h1, h2.mono hk⟩
/-- a range object -/
def RgO (r : Addr) (lo hi : Int) : HO := .ext fun h => ∃ t u v, IsRange h r lo hi 1 t u v
def SlOk (G : Gx) (fc : Fc) (fm : List Addr) (H : Hp) (B : Bar) (σi : Option (Option V)) : Sl → Prop
  | .non => True
  | .rng xs => ∃ r lo hi, σi = some (some (.ref r)) ∧ ¬ B r ∧ H r = some (RgO r lo hi) ∧ small62 lo = true ∧ small62 hi = true ∧ xs = rangeD lo (hi - lo).toNat
  | .itr _ => False
  | .pub d => ∃ v, σi = some (some v) ∧ DR G H B d v
  | .own d => ∃ a, σi = some (some (.ref a)) ∧ OwnAt G H B a d
  | .lent d => ∃ a, σi = some (some (.ref a)) ∧ OwnAt G H B a d
  | .cell k => ∃ a, fm[k]? = some a ∧ σi = some (some (.ref a))
  | .new c fs => ∃ a C dx gs, σi = some (some (.ref a)) ∧ H a = some (.ins C dx gs) ∧ (ClsOk G c C ∧ fc.self = some (c, a, C)) ∧ FRs G H B fs gs
  | .exc c fs => ∃ a, σi = some (some (.ref a)) ∧ ExcAt G H B a c fs
structure FR (G : Gx) (fc : Fc) (fm : List Addr) (ex : Bar) (σ : L2.St) (s : S) (H : Hp) : Prop where
  len : σ.length = s.env.length
  fml : fm.length = s.cells.length
  nd : fm.Nodup
  cells : ∀ (k : Nat) (xs : List D), s.cells[k]? = some xs → ∃ a vs, fm[k]? = some a ∧ H a = some (.lst vs) ∧ DRs G H (fun _ => False) xs vs ∧ xs.all flat = true
  slots : ∀ i, SlOk G fc fm H (Br fm ex s σ) σ[i]? (s.get i)
  apF : ∀ i a, OwnA s σ i a → a ∉ fm ∧ ¬ ex a
  apO : ∀ i j a, OwnA s σ i a → OwnA s σ j a → i = j
  exF : ∀ a, ex a → a ∉ fm
  exH : ∀ a, ex a → H a ≠ none
  base : ∀ a o, fc.H0 a = some o → ¬ fc.M0 a → H a = some o
  newO : ∀ i a, MutA s σ i a → fc.H0 a = none ∨ fc.M0 a
  newL : ∀ i a, OwnA s σ i a → muts (s.get i) = false → fc.L0 i a
  newF : ∀ (k : Nat) (a : Addr), fm[k]? = some a → fc.H0 a = none ∨ fc.M0 a
  pre : ∃ t, fm = fc.fm0 ++ t
  m0 : ∀ a, fc.M0 a → fc.H0 a ≠ none
  m1 : ∀ a, fc.M0 a → H a ≠ none
/-- from one state to a later one -/
structure Stp (fm : List Addr) (ex : Bar) (σ : L2.St) (s : S) (H : Hp) (s' : S) (H' : Hp) : Prop where
  keep : ∀ a o, H a = some o → ¬ Mu fm s σ a → H' a = some o
  live : ∀ a, H a ≠ none → H' a ≠ none
  bsub : ∀ a, Br fm ex s' σ a → Br fm ex s σ a
  msub : ∀ a, Mu fm s' σ a → Mu fm s σ a
/-- what an expression's value is -/
def RR (G : Gx) (fc : Fc) (fm : List Addr) (ex : Bar) (σ : L2.St) (s : S) (H : Hp) : RV → V → Prop
  | .d x, v => DR G H (Br fm ex s σ) x v
  | .own x, v => ∃ a, v = .ref a ∧ OwnAt G H (Br fm (fun b => ex b ∨ b = a) s σ) a x ∧ FR G fc fm (fun b => ex b ∨ b = a) σ s H ∧ ¬ Br fm ex s σ a ∧ (fc.H0 a = none ∨ fc.M0 a)
  | .brw i, v => σ[i]? = some (some v)
  | .cell k, v => ∃ a, fm[k]? = some a ∧ v = .ref a
section
variable {G : Gx} {fc : Fc} {fm : List Addr} {ex : Bar} {σ : L2.St} {s s1 s2 : S} {H H1 H2 : Hp}
theorem Stp.refl : Stp fm ex σ s H s H := ⟨fun _ _ h _ => h, fun _ h => h, fun _ h => h, fun _ h => h⟩
theorem Stp.trans (a : Stp fm ex σ s H s1 H1) (b : Stp fm ex σ s1 H1 s2 H2) : Stp fm ex σ s H s2 H2 :=
  ⟨fun c o h n => b.keep c o (a.keep c o h n) fun z => n (a.msub c z), fun c h => b.live c (a.live c h), fun c h => a.bsub c (b.bsub c h), fun c h => a.msub c (b.msub c h)⟩
theorem Stp.keepB (a : Stp fm ex σ s H s1 H1) : Kp H H1 (Br fm ex s σ) (Br fm ex s1 σ) := fun b o n h => ⟨a.keep b o h fun z => n z.br, fun z => n (a.bsub b z)⟩
theorem DR.stp (a : Stp fm ex σ s H s1 H1) {d : D} {v : V} (h : DR G H (Br fm ex s σ) d v) : DR G H1 (Br fm ex s1 σ) d v := h.mono a.keepB
theorem DRs.stp (a : Stp fm ex σ s H s1 H1) {d : List D} {v : List V} (h : DRs G H (Br fm ex s σ) d v) : DRs G H1 (Br fm ex s1 σ) d v := h.mono a.keepB
theorem Br.more {fm : List Addr} {ex : Bar} {s : S} {σ : L2.St} {a b : Addr} (z : Br fm ex s σ b) : Br fm (fun b => ex b ∨ b = a) s σ b := by
  rcases z with z | z | z
  · exact .inl z
  · exact .inr (.inl (.inl z))
  · exact .inr (.inr z)
/-- a new object is published by nobody's claim -/
theorem RR.pub {x : D} {v : V} (h : RR G fc fm ex σ s H (.own x) v) : DR G H (Br fm ex s σ) x v := by
  obtain ⟨a, rfl, h1, h2, h3, h4⟩ := h
  have up : Kp H H (Br fm (fun b => ex b ∨ b = a) s σ) (Br fm ex s σ) := fun b o n z => ⟨z, fun q => n q.more⟩
  cases x with
  | lst xs =>
    obtain ⟨vs, e, r⟩ := h1
    exact ⟨a, vs, rfl, .inl ⟨h3, .inl e⟩, r.mono up⟩
  | dic kvs =>
    obtain ⟨vs, e, r⟩ := h1
    exact ⟨a, vs, rfl, h3, e, r.mono up⟩
  | _ => exact False.elim h1
/-- a value that is read: its own place may be barred -/
def RD (G : Gx) (H : Hp) (B : Bar) : D → V → Prop
  | .lst xs, v => ∃ a vs, v = .ref a ∧ SqL G.K H a vs ∧ DRs G H B xs vs
  | .dic kvs, v => ∃ a kws, v = .ref a ∧ H a = some (.dK kws) ∧ KRs G H B kvs kws
  | d, v => DR G H B d v
theorem DR.rd {B : Bar} {d : D} {v : V} (h : DR G H B d v) : RD G H B d v := by
  cases d with
  | lst xs => obtain ⟨a, vs, e, q, r⟩ := h; exact ⟨a, vs, e, q.sq, r⟩
  | dic xs => obtain ⟨a, vs, e, _, q, r⟩ := h; exact ⟨a, vs, e, q, r⟩
  | _ => exact h
theorem OwnAt.rd {B : Bar} {d : D} {a : Addr} (h : OwnAt G H B a d) : RD G H B d (.ref a) := by
  cases d with
  | lst xs => obtain ⟨vs, q, r⟩ := h; exact ⟨a, vs, rfl, .of q, r⟩
  | dic xs => obtain ⟨vs, q, r⟩ := h; exact ⟨a, vs, rfl, q, r⟩
  | _ => exact False.elim h
theorem RR.data {r : RV} {v : V} {d : D} (F : FR G fc fm ex σ s H) (h : RR G fc fm ex σ s H r v) (e : rdat s r = some d) : RD G H (Br fm ex s σ) d v := by
  cases r with
  | d x => cases e; exact DR.rd h
  | own x => cases e; exact h.pub.rd
  | brw i =>
    have h : σ[i]? = some (some v) := h
    have q := F.slots i
    simp only [rdat] at e
    cases es : s.get i with
    | own x =>
      rw [es] at e q
      cases e
      obtain ⟨a, e2, z⟩ := q
      rw [h] at e2
      cases e2
      exact z.rd
    | lent x =>
      rw [es] at e q
      cases e
      obtain ⟨a, e2, z⟩ := q
      rw [h] at e2
      cases e2
      exact z.rd
    | pub x =>
      rw [es] at e q
      cases e
      obtain ⟨w, e2, z⟩ := q
      rw [h] at e2
      cases e2
      exact z.rd
    | _ => rw [es] at e; cases e
  | cell k =>
    obtain ⟨a, e1, rfl⟩ := h
    simp only [rdat] at e
    obtain ⟨xs, e2, rfl⟩ := Option.map_eq_some_iff.mp e
    obtain ⟨b, vs, e3, e4, e5, e6⟩ := F.cells k xs e2
    rw [e1] at e3
    cases e3
    exact ⟨a, vs, rfl, .of e4, e5.flat e6⟩
end
end Py
end SB1
section SB2
set_option autoImplicit false
set_option linter.all false
set_option maxRecDepth 100000
set_option maxHeartbeats 4000000
/-! The evaluator over the hand layer, 2: operators. -/
namespace Py
open PySem L2

section
variable {G : Gx} {fc : Fc} {fm : List Addr} {ex : Bar} {σ : L2.St} {s s1 s2 : S} {H H1 H2 : Hp} {W : WX}

/-! ### a new object -/
theorem upd_keep {p a : Addr} {o u : HO} (hp : H p = none) (h : H a = some o) : upd H p u a = some o := by
  rw [upd_ne (ne_of_none h hp)]; exact h
theorem upd_live {p a : Addr} {u : HO} (h : H a ≠ none) : upd H p u a ≠ none := by
  unfold upd
  split
  · simp
  · exact h
theorem OwnAt.mono {B B' : Bar} {a : Addr} {d : D} (hk : Kp H H1 B B') (ho : ∀ o, H a = some o → H1 a = some o) (h : OwnAt G H B a d) : OwnAt G H1 B' a d := by
  cases d with
  | lst xs => obtain ⟨vs, q, r⟩ := h; exact ⟨vs, ho _ q, r.mono hk⟩
  | dic xs => obtain ⟨vs, q, r⟩ := h; exact ⟨vs, ho _ q, r.mono hk⟩
  | _ => exact False.elim h
theorem SlOk.mono {B B' : Bar} {x : Option (Option V)} (hk : Kp H H1 B B')
    (ho : ∀ a o, x = some (some (.ref a)) → H a = some o → H1 a = some o) : ∀ {z : Sl}, SlOk G fc fm H B x z → SlOk G fc fm H1 B' x z
  | .non, _ => trivial
  | .rng xs, ⟨r, lo, hi, e, nb, q, z⟩ => ⟨r, lo, hi, e, (hk r _ nb q).2, (hk r _ nb q).1, z⟩
  | .pub d, ⟨v, e, r⟩ => ⟨v, e, r.mono hk⟩
  | .own d, ⟨a, e, r⟩ => ⟨a, e, r.mono hk fun o => ho a o e⟩
  | .lent d, ⟨a, e, r⟩ => ⟨a, e, r.mono hk fun o => ho a o e⟩
  | .cell k, h => h
  | .new c fs, ⟨a, C, dx, gs, e, q, m, r⟩ => ⟨a, C, dx, gs, e, ho a _ e q, m, r.mono hk⟩
  | .exc c fs, ⟨a, e, r⟩ => ⟨a, e, r.mono hk⟩
theorem Stp.alloc {p : Addr} {o : HO} (hp : H p = none) : Stp fm ex σ s H s (upd H p o) :=
  ⟨fun _ _ h _ => upd_keep hp h, fun _ h => upd_live h, fun _ h => h, fun _ h => h⟩
theorem FR.alloc (F : FR G fc fm ex σ s H) {p : Addr} {o : HO} (hp : H p = none) : FR G fc fm ex σ s (upd H p o) where
  len := F.len
  fml := F.fml
  nd := F.nd
  cells := fun k xs e => let ⟨a, vs, h1, h2, h3, h4⟩ := F.cells k xs e; ⟨a, vs, h1, upd_keep hp h2, h3.flat h4, h4⟩
  slots := fun i => (F.slots i).mono (fun _ _ n z => ⟨upd_keep hp z, n⟩) fun _ _ _ z => upd_keep hp z
  apF := F.apF
  apO := F.apO
  exF := F.exF
  exH := fun a h => upd_live (F.exH a h)
  base := fun a o h n => upd_keep hp (F.base a o h n)
  newO := F.newO
  newL := F.newL
  newF := F.newF
  pre := F.pre
  m0 := F.m0
  m1 := fun a h => upd_live (F.m1 a h)
theorem FR.brH (F : FR G fc fm ex σ s H) {a : Addr} (h : Br fm ex s σ a) : H a ≠ none := by
  rcases h with h | h | ⟨i, h1, h2⟩
  · obtain ⟨k, hk⟩ := List.getElem?_of_mem h
    have hlt : k < s.cells.length := by rw [← F.fml]; exact (List.getElem?_eq_some_iff.mp hk).1
    obtain ⟨b, vs, e1, e2, _⟩ := F.cells k _ (List.getElem?_eq_getElem hlt)
    rw [hk] at e1
    cases e1
    rw [e2]; simp
  · exact F.exH a h
  · have q := F.slots i
    revert h1 q
    cases s.get i with
    | own d =>
      intro _ ⟨b, e, r⟩
      rw [h2] at e
      cases e
      cases d with
      | lst xs => obtain ⟨vs, q, _⟩ := r; rw [q]; simp
      | dic xs => obtain ⟨vs, q, _⟩ := r; rw [q]; simp
      | _ => exact False.elim r
    | lent d =>
      intro _ ⟨b, e, r⟩
      rw [h2] at e
      cases e
      cases d with
      | lst xs => obtain ⟨vs, q, _⟩ := r; rw [q]; simp
      | dic xs => obtain ⟨vs, q, _⟩ := r; rw [q]; simp
      | _ => exact False.elim r
    | new c fs =>
      intro _ ⟨b, C, dx, gs, e, q, _⟩
      rw [h2] at e
      cases e
      rw [q]; simp
    | _ => intro h1; simp [owns] at h1
theorem FR.fresh0 (F : FR G fc fm ex σ s H) {p : Addr} (hp : H p = none) : fc.H0 p = none := by
  cases e : fc.H0 p with
  | none => rfl
  | some o =>
    by_cases m : fc.M0 p
    · exact absurd hp (F.m1 p m)
    · rw [F.base p o e m] at hp; cases hp
/-- a new object barred -/
theorem FR.bar (F : FR G fc fm ex σ s H) {p : Addr} {o : HO} (hp : H p = none) : FR G fc fm (fun b => ex b ∨ b = p) σ s (upd H p o) where
  len := F.len
  fml := F.fml
  nd := F.nd
  cells := (F.alloc hp).cells
  slots := fun i => (F.slots i).mono (fun a o n z => ⟨upd_keep hp z, fun q => by
    rcases q with q | (q | q) | q
    · exact n (.inl q)
    · exact n (.inr (.inl q))
    · exact ne_of_none z hp q
    · exact n (.inr (.inr q))⟩) fun _ _ _ z => upd_keep hp z
  apF := fun i a h => ⟨(F.apF i a h).1, fun z => z.elim (F.apF i a h).2 fun e => F.brH (.inr (.inr ⟨i, h⟩)) (by rw [e]; exact hp)⟩
  apO := F.apO
  exF := fun a h => h.elim (F.exF a) fun e z => F.brH (ex := ex) (.inl z) (by rw [e]; exact hp)
  exH := fun a h => h.elim (fun z => upd_live (F.exH a z)) fun e => by rw [e, upd_same]; simp
  base := fun a o h n => upd_keep hp (F.base a o h n)
  newO := F.newO
  newL := F.newL
  newF := F.newF
  pre := F.pre
  m0 := F.m0
  m1 := fun a h => upd_live (F.m1 a h)

/-! ### what follows -/
def Pst (G : Gx) (fc : Fc) (fm : List Addr) (ex : Bar) (σ : L2.St) (W : WX) {α β : Type} (RA : S → Hp → α → β → Prop) (s : S) (H : Hp) (o : Out α) (Q : β → Hp → Prop) : Prop := match o with
  | .ok a s' => ∀ b H', Stp fm ex σ s H s' H' → FR G fc fm ex σ s' H' → RA s' H' a b → Q b H'
  | .exc c fs s' => ∀ C d H', Stp fm ex σ s H s' H' → FR G fc fm ex σ s' H' → XR G H' (Br fm ex s' σ) c fs C d → W C d σ H'
  | .stuck => False
section
variable {α β γ δ : Type} {RA : S → Hp → α → β → Prop} {RC : S → Hp → γ → δ → Prop}
theorem Pst.imp {o : Out α} {Q Q' : β → Hp → Prop} (h : Pst G fc fm ex σ W RA s H o Q) (hq : ∀ b H', Q b H' → Q' b H') : Pst G fc fm ex σ W RA s H o Q' := by
  cases o with
  | ok a s' => exact fun b H' h1 h2 h3 => hq _ _ (h b H' h1 h2 h3)
  | exc c fs s' => exact h
  | stuck => exact h
theorem Pst.from {o : Out α} {Q : β → Hp → Prop} (st : Stp fm ex σ s H s1 H1) (h : Pst G fc fm ex σ W RA s H o Q) : Pst G fc fm ex σ W RA s1 H1 o Q := by
  cases o with
  | ok a s' => exact fun b H' h1 h2 h3 => h b H' (st.trans h1) h2 h3
  | exc c fs s' => exact fun C d H' h1 h2 h3 => h C d H' (st.trans h1) h2 h3
  | stuck => exact h
theorem Pst.bind {o : Out α} {f : α → S → Out γ} {Q : δ → Hp → Prop} (h : Pst G fc fm ex σ W RC s H (o.bind f) Q) :
    Pst G fc fm ex σ W RA s H o fun b H1 => ∃ a s1, o = .ok a s1 ∧ Stp fm ex σ s H s1 H1 ∧ FR G fc fm ex σ s1 H1 ∧ RA s1 H1 a b ∧ Pst G fc fm ex σ W RC s1 H1 (f a s1) Q := by
  cases o with
  | ok a s' => exact fun b H' h1 h2 h3 => ⟨a, s', rfl, h1, h2, h3, Pst.from h1 h⟩
  | exc c fs s' => exact h
  | stuck => exact h
theorem Pst.ok {a : α} {Q : β → Hp → Prop} (F : FR G fc fm ex σ s H) (h : Pst G fc fm ex σ W RA s H (.ok a s) Q) {b : β} (r : RA s H a b) : Q b H := h b H .refl F r
/-- behind a step, in the same frame -/
theorem Pst.okS {a : α} {Q : β → Hp → Prop} (F : FR G fc fm ex σ s H1) (st : Stp fm ex σ s H s H1) (h : Pst G fc fm ex σ W RA s H (.ok a s) Q) {b : β} (r : RA s H1 a b) : Q b H1 := h b H1 st F r
theorem Pst.of {o : Option α} {Q : β → Hp → Prop} (h : Pst G fc fm ex σ W RA s H (Out.of o s) Q) : ∃ a, o = some a ∧ ∀ b H1, Stp fm ex σ s H s H1 → FR G fc fm ex σ s H1 → RA s H1 a b → Q b H1 := by
  cases o with
  | none => exact False.elim h
  | some a => exact ⟨a, rfl, h⟩
end
abbrev RE (G : Gx) (fc : Fc) (fm : List Addr) (ex : Bar) (σ : L2.St) : S → Hp → RV → V → Prop := fun s H => RR G fc fm ex σ s H
theorem rdat_wk (s : S) (r : RV) : rdat s (wk r) = rdat s r := by cases r <;> rfl
theorem RR.wk {r : RV} {v : V} (h : RR G fc fm ex σ s H r v) : RR G fc fm ex σ s H (Py.wk r) v := by
  cases r with
  | own x => exact h.pub
  | _ => exact h
theorem RR.stp {r : RV} {v : V} (st : Stp fm ex σ s H s1 H1) (h : RR G fc fm ex σ s H (Py.wk r) v) : RR G fc fm ex σ s1 H1 (Py.wk r) v := by
  cases r with
  | own x => exact DR.stp st h
  | d x => exact DR.stp st h
  | brw i => exact h
  | cell k => exact h
theorem RR.rd {r : RV} {v : V} {d : D} (F : FR G fc fm ex σ s H) (h : RR G fc fm ex σ s H (Py.wk r) v) (e : rdat s r = some d) : RD G H (Br fm ex s σ) d v := RR.data F h (by rw [rdat_wk]; exact e)
theorem RR.newL (F : FR G fc fm ex σ s H) {p : Addr} {xs : List D} {vs : List V} (hp : H p = none) (r : DRs G H (Br fm ex s σ) xs vs) : RR G fc fm ex σ s (upd H p (.lst vs)) (.own (.lst xs)) (.ref p) := by
  refine ⟨p, rfl, ⟨vs, upd_same, r.mono fun a o n z => ⟨upd_keep hp z, fun q => ?_⟩⟩, F.bar hp, fun z => F.brH z hp, .inl (F.fresh0 hp)⟩
  rcases q with q | (q | q) | q
  · exact n (.inl q)
  · exact n (.inr (.inl q))
  · exact ne_of_none z hp q
  · exact n (.inr (.inr q))
theorem DRs.alloc {p : Addr} {o : HO} {xs : List D} {vs : List V} {B : Bar} (hp : H p = none) (r : DRs G H B xs vs) : DRs G (upd H p o) B xs vs := r.mono fun a o n z => ⟨upd_keep hp z, n⟩
theorem RR.newT (F : FR G fc fm ex σ s H) {p : Addr} {xs : List D} {vs : List V} (hp : H p = none) (r : DRs G H (Br fm ex s σ) xs vs) : RR G fc fm ex σ s (upd H p (.tup vs)) (.d (.tup xs)) (.ref p) :=
  ⟨p, vs, rfl, .inl ⟨fun z => F.brH z hp, .inl upd_same⟩, r.alloc hp⟩
end

/-! ### list + list of any list -/
section
variable {X : Cx}
theorem PlainL.isList' {h : Heap} {a : Addr} {xs : Array Value} (p : PlainL h a xs) : h.IsList a xs := p.isList
def rCatS (K : PySem.W.Frag) : R2 := fun x y H Q => ∃ l b xs zs, x = .ref l ∧ y = .ref b ∧ SqL K H l xs ∧ SqL K H b zs ∧ xs.length + zs.length ≤ sizeLine ∧ ∀ p, H p = none → Q (.ref p) (upd H p (.lst (xs ++ zs)))
theorem op_catS : OpR X (binaryOp .Add) (rCatS X.K) := by
  intro pins s σ H x y v u Q I rx ry h
  obtain ⟨l, b, xs, zs, rfl, rfl, hH, hB, hz, q⟩ := h
  cases rx
  cases ry
  obtain ⟨its, r, pl, _⟩ := I.list hH
  obtain ⟨its2, r2, pl2, _⟩ := I.list hB
  obtain ⟨⟨cls, dd, data, sl⟩, ho, hc, n, hd⟩ := id pl.isList
  obtain ⟨⟨cls2, dd2, data2, sl2⟩, ho2, hc2, n2, hd2⟩ := id pl2.isList
  simp only at hc hd hc2 hd2
  subst hc hd hc2 hd2
  have e : its.toArray ++ its2.toArray = (its ++ its2).toArray := by simp
  have h1 := r.length
  have h2 := r2.length
  refine concat_meets ⟨_, ho, rfl⟩ ⟨_, ho2, rfl⟩ PySem.noFill_list_add PySem.seq_list_add PySem.F.slot_list_add PySem.F.entry_list_add (PySem.F.args_list_add_2 _ _) (PyProof.Rows.list_addW l b its.toArray its2.toArray n n2 dd dd2 sl sl2 (by simp only [List.size_toArray]; omega)) ⟨ho, ho2, ?_⟩
  rw [e]
  exact ⟨.ref _, _, I.lnew (t' := s.toks) (r.append r2) (by rw [List.length_append]; omega), rfl, q _ I.fresh⟩
end
end Py
end SB2
section SB3
set_option autoImplicit false
set_option linter.all false
set_option maxRecDepth 100000
set_option maxHeartbeats 4000000
/-! The evaluator over the hand layer, 3: the operators' rules. -/
namespace Py
open PySem L2

/-- a rule on two values is what the evaluator says of their data -/
def BinOk (X : Cx) (f : Value → Value → Sem Value) (g : D → D → Option RV) (r : R2) : Prop := OpR X f r ∧
  ∀ (G : Gx) (fc : Fc) (fm : List Addr) (ex : Bar) (σ : L2.St) (s : S) (H : Hp) (x y : V) (a b : D) (rv : RV) (Q : VK), G.K = X.K → FR G fc fm ex σ s H → RD G H (Br fm ex s σ) a x → RD G H (Br fm ex s σ) b y →
    g a b = some rv → (∀ v H', Stp fm ex σ s H s H' → FR G fc fm ex σ s H' → RR G fc fm ex σ s H' rv v → Q v H') → r x y H Q
theorem BinOk.no {X : Cx} {f : Value → Value → Sem Value} {g : D → D → Option RV} (h : ∀ a b, g a b = none) : BinOk X f g (fun _ _ _ _ => False) :=
  ⟨fun _ _ _ _ _ _ _ _ _ _ _ _ h => h.elim, fun _ _ _ _ _ _ _ _ _ a b _ _ _ _ _ _ e _ => by rw [h] at e; cases e⟩

theorem mulOk_cases {i j : Int} (h : mulOk i j = true) : CMul i j ∨ CMulW i j := by
  unfold mulOk at h
  simp only [Bool.or_eq_true, decide_eq_true_eq] at h
  rcases h with (h | h) | h
  · exact .inl (.inl ⟨by omega, by omega⟩)
  · exact .inl (.inr ⟨by omega, by omega⟩)
  · exact .inr h
theorem ST_append (a b : List Nat) : ST a ++ ST b = ST (a ++ b) := by
  show Str.append _ _ = _
  simp [Str.append, ST]
theorem ST_length (a : List Nat) : (ST a).length = a.length := by simp [ST, Str.length]
theorem sizeSZ : sizeLine = SZ := sizeLine_eq
theorem okS_iff {s : List Nat} : okS s = true ↔ s.length ≤ SZ ∧ ∀ c ∈ s, c < 1114112 := by
  unfold okS
  simp [List.all_eq_true]
theorem okS_append {a b : List Nat} (hz : a.length + b.length ≤ SZ) (h1 : okS a = true) (h2 : okS b = true) : okS (a ++ b) = true := by
  rw [okS_iff] at *
  refine ⟨by rw [List.length_append]; exact hz, fun c hc => ?_⟩
  rcases List.mem_append.mp hc with h | h
  · exact h1.2 c h
  · exact h2.2 c h
theorem okS_rep {a : List Nat} {n : Nat} (hz : n * a.length ≤ SZ) (h1 : okS a = true) : okS (List.replicate n a).flatten = true := by
  rw [okS_iff] at *
  refine ⟨by rw [PyProof.Rows.lm_len_rep_flat]; exact hz, fun c hc => ?_⟩
  obtain ⟨l, hl, hc⟩ := List.mem_flatten.mp hc
  rw [(List.mem_replicate.mp hl).2] at hc
  exact h1.2 c hc
theorem okS_sub {a b : List Nat} (hl : b.length ≤ a.length) (hm : ∀ c ∈ b, c ∈ a) (h : okS a = true) : okS b = true := by
  rw [okS_iff] at *
  exact ⟨Nat.le_trans hl h.1, fun c hc => h.2 c (hm c hc)⟩
section
variable {X : Cx}
def rMulS : R2 := fun x y H Q => ∃ (i : Str) (k : Int), x = .str i ∧ y = .int k ∧ 0 ≤ k ∧ k ≤ 1000 ∧ i.length ≤ 1000 ∧ Q (.str ⟨(List.replicate k.toNat i.cps.toList).flatten.toArray⟩) H
theorem foldl_repN (its : Array Nat) : ∀ (k : Nat) (acc : List Nat), List.foldl (fun x1 x2 => x1 ++ x2) acc.toArray (List.replicate k its) = (acc ++ (List.replicate k its.toList).flatten).toArray
  | 0, acc => by simp
  | k + 1, acc => by
    have e : acc.toArray ++ its = (acc ++ its.toList).toArray := by apply Array.toList_inj.mp; simp
    rw [List.replicate_succ, List.foldl_cons, e, foldl_repN its k, List.replicate_succ, List.flatten_cons, List.append_assoc]
theorem txt_mul (x : Str) (n : Int) (h0 : 0 ≤ n) : Txt.mul x n = ⟨(List.replicate n.toNat x.cps.toList).flatten.toArray⟩ := by
  unfold Txt.mul
  by_cases h1 : n < 1
  · have e : n = 0 := by omega
    subst e
    rfl
  · rw [if_neg h1]
    by_cases h2 : (n == 1 || x.length == 0) = true
    · rw [if_pos h2]
      simp only [Bool.or_eq_true, beq_iff_eq] at h2
      obtain ⟨c⟩ := x
      rcases h2 with e | e
      · subst e
        simp
      · have e1 : c = #[] := by
          have : c.size = 0 := e
          exact Array.eq_empty_of_size_eq_zero this
        subst e1
        simp
    · rw [if_neg h2]
      have := foldl_repN x.cps n.toNat []
      rw [List.nil_append] at this
      exact congrArg Str.mk this
theorem op_mulS : OpR X (binaryOp .Mult) rMulS := by
  intro pins s σ H x y v u Q I rx ry h
  obtain ⟨i, k, rfl, rfl, h0, h1, h2, q⟩ := h
  obtain ⟨t, rfl⟩ := rx
  obtain ⟨t', rfl⟩ := ry
  refine SB.mul (PyProof.Rows.mulOk_of 1000 1000 h2 (by omega) (by omega) (by decide) (by decide)) fun t'' k' => ?_
  rw [txt_mul i k h0]
  exact ⟨.str _, H, I.tok _, ⟨_, rfl⟩, q⟩
def rRepS (K : PySem.W.Frag) : R2 := fun x y H Q => ∃ l k xs, x = .ref l ∧ y = .int k ∧ SqL K H l xs ∧ -(2 ^ 63) ≤ k ∧ k < 2 ^ 63 ∧ xs.length * k.toNat ≤ sizeLine ∧
  ∀ p, H p = none → Q (.ref p) (upd H p (.lst (List.replicate k.toNat xs).flatten))
theorem op_repS : OpR X (binaryOp .Mult) (rRepS X.K) := by
  intro pins s σ H x y v u Q I rx ry h
  obtain ⟨l, k, xs, rfl, rfl, hH, h1, h2, hz, q⟩ := h
  cases rx
  obtain ⟨t, rfl⟩ := ry
  obtain ⟨its, r, pl, z⟩ := I.list hH
  have hl := r.length
  obtain ⟨⟨cls, dd, data, sl⟩, e, hc, n, hd⟩ := id pl.isList
  simp only at hc hd
  subst hc hd
  have hlen : its.toArray.size * k.toNat ≤ sizeLine := by rw [List.size_toArray, ← hl]; exact hz
  have hcap : ¬ its.toArray.size * k.toNat > (2 ^ 63 - 1) / 8 := by
    have : (sizeLine : Nat) ≤ (2 ^ 63 - 1) / 8 := by decide
    omega
  have hfit : ¬ (!Builtin.List.listFitsIndex k) = true := by
    rw [fitsIndex_both h1 h2]
    exact Bool.false_ne_true
  have hlong : ¬ Builtin.List.listTooLong (its.toArray.size * k.toNat) = true := by
    rw [notLongL hlen]
    exact Bool.false_ne_true
  have hnew : List.foldl (fun x1 x2 => x1 ++ x2) #[] (List.replicate (if its.toArray.isEmpty = true then 0 else k.toNat) its.toArray) = (List.replicate k.toNat its).flatten.toArray := by
    have f0 : ∀ m : Nat, List.foldl (fun x1 x2 => x1 ++ x2) #[] (List.replicate m its.toArray) = (List.replicate m its).flatten.toArray := fun m => by
      have := foldl_rep its m []
      rw [List.nil_append] at this
      exact this
    rw [f0]
    cases its with
    | nil => simp
    | cons a r' => rw [if_neg (by simp)]
  refine wpAny_binaryOp_repeat_ref (T := "list") (U := "int") (by decide) ⟨_, e, rfl⟩ (fun s' => typeIs_int s' k t) noFill_list_mul PySem.F.fills_int_mul PySem.F.slot_int_rmul repeat_list PySem.F.slot_int_index.lookup
    (call_meets PySem.F.slot_int_rmul (typeIs_int s k t) PySem.F.entry_int_rmul (PySem.F.args_int_rmul_2 _ _) (lm_int_rmul_list_any k t l its.toArray n dd sl)
      ⟨e, rfl, ⟨_, e, rfl⟩, call_meets PySem.F.slot_list_mul ⟨_, e, rfl⟩ PySem.F.entry_list_mul (PySem.F.args_list_mul_2 _ _) (lm_list_mul_any l its.toArray n dd sl k t hfit hcap hlong) ⟨e, ?_⟩⟩)
  rw [hnew]
  exact ⟨.ref _, _, I.lnew (t' := s.toks) (r.rep k.toNat) (by rw [PyProof.Rows.lm_len_rep_flat, Nat.mul_comm]; exact hz), rfl, q _ I.fresh⟩
theorem DRs.rep {G : Gx} {H : Hp} {B : Bar} {xs : List D} {vs : List V} (r : DRs G H B xs vs) : ∀ n : Nat, DRs G H B (List.replicate n xs).flatten (List.replicate n vs).flatten
  | 0 => rfl
  | n + 1 => by
    rw [List.replicate_succ, List.replicate_succ, List.flatten_cons, List.flatten_cons]
    exact r.append (DRs.rep r n)
theorem bin_ok (op : Operator) : ∃ r, BinOk X (binaryOp op) (binop op) r := by
  cases op with
  | Add =>
    refine ⟨_, op_add.or (op_add_str.or ((op_catS (X := X)).or ((op_catA (X := X)).or op_add_ib))), ?_⟩
    intro G fc fm ex σ s H x y a b rv Q hK F ha hb e k
    unfold binop at e
    split at e
    all_goals first | (rename_i heq; cases heq; done) | skip
    all_goals first | cases e; done | skip
    · cases e; cases ha; cases hb
      exact .inl ⟨_, _, rfl, rfl, k _ _ .refl F rfl⟩
    · split at e
      · rename_i hz
        cases e
        obtain ⟨rfl, h1⟩ := ha
        obtain ⟨rfl, h2⟩ := hb
        refine .inr (.inl ⟨_, _, rfl, rfl, by rw [ST_length, ST_length, sizeSZ]; exact hz, k _ _ .refl F ⟨by rw [ST_append], okS_append hz h1 h2⟩⟩)
      · cases e
    · split at e
      · rename_i hz
        cases e
        obtain ⟨l, vs, rfl, h1, r1⟩ := ha
        obtain ⟨m, ws, rfl, h2, r2⟩ := hb
        rw [hK] at h1 h2
        refine .inr (.inr (.inl ⟨_, _, _, _, rfl, rfl, h1, h2, by rw [← r1.length, ← r2.length, sizeSZ]; exact hz, fun p hp => k _ _ (.alloc hp) (F.alloc hp) (.newL F hp (r1.append r2))⟩))
      · cases e
    · split at e
      · rename_i hz
        cases e
        obtain ⟨l, vs, rfl, h1, r1⟩ := ha
        obtain ⟨m, ws, rfl, h2, r2⟩ := hb
        have q1 := h1.sq
        have q2 := h2.sq
        rw [hK] at q1 q2
        refine .inr (.inr (.inr (.inl ⟨_, _, _, _, rfl, rfl, q1, q2, by rw [← r1.length, ← r2.length, sizeSZ]; exact hz, fun z => ?_, fun n z => ?_, fun n n' p hp => k _ _ (.alloc hp) (F.alloc hp) (.newT F hp (r1.append r2))⟩)))
        · subst z
          have := r1.length
          have e1 := List.eq_nil_of_length_eq_zero this
          subst e1
          exact k _ _ .refl F ⟨m, ws, rfl, h2, r2⟩
        · subst z
          have := r2.length
          have e1 := List.eq_nil_of_length_eq_zero this
          subst e1
          exact k _ _ .refl F ⟨l, vs, rfl, h1, by rw [List.append_nil]; exact r1⟩
      · cases e
    · cases e; cases ha; cases hb
      exact .inr (.inr (.inr (.inr ⟨_, _, rfl, rfl, k _ _ .refl F rfl⟩)))
  | Sub =>
    refine ⟨_, op_sub, ?_⟩
    intro G fc fm ex σ s H x y a b rv Q hK F ha hb e k
    unfold binop at e
    split at e
    all_goals first | (rename_i heq; cases heq; done) | skip
    all_goals first | cases e; done | skip
    cases e; cases ha; cases hb
    exact ⟨_, _, rfl, rfl, k _ _ .refl F rfl⟩
  | Mult =>
    refine ⟨_, op_mul.or (op_mulW.or ((op_repS (X := X)).or op_mulS)), ?_⟩
    intro G fc fm ex σ s H x y a b rv Q hK F ha hb e k
    unfold binop at e
    split at e
    all_goals first | (rename_i heq; cases heq; done) | skip
    all_goals first | cases e; done | skip
    · split at e
      · rename_i hz
        cases e; cases ha; cases hb
        rcases mulOk_cases hz with h | h
        · exact .inl ⟨_, _, rfl, rfl, h, k _ _ .refl F rfl⟩
        · exact .inr (.inl ⟨_, _, rfl, rfl, h, k _ _ .refl F rfl⟩)
      · cases e
    · split at e
      · rename_i hz
        cases e
        obtain ⟨l, vs, rfl, h1, r1⟩ := ha
        cases hb
        rw [hK] at h1
        refine .inr (.inr (.inl ⟨_, _, _, rfl, rfl, h1, by omega, by omega, by rw [← r1.length, sizeSZ]; exact hz.2, fun p hp => k _ _ (.alloc hp) (F.alloc hp) (.newL F hp (r1.rep _))⟩))
      · cases e
    · split at e
      · rename_i hz
        cases e
        obtain ⟨rfl, h1⟩ := ha
        cases hb
        refine .inr (.inr (.inr ⟨_, _, rfl, rfl, hz.1, by omega, by rw [ST_length]; exact hz.2.2, k _ _ .refl F ⟨by simp [ST], ?_⟩⟩))
        refine okS_rep ?_ h1
        exact Nat.le_trans (Nat.mul_le_mul (show _ ≤ 1000 by omega) hz.2.2) (by decide)
      · cases e
  | FloorDiv =>
    refine ⟨_, op_fdiv.or op_fdivW, ?_⟩
    intro G fc fm ex σ s H x y a b rv Q hK F ha hb e k
    unfold binop at e
    split at e
    all_goals first | (rename_i heq; cases heq; done) | skip
    all_goals first | cases e; done | skip
    split at e
    · rename_i hz
      cases e; cases ha; cases hb
      exact (hz.2.elim (fun h => .inl ⟨_, _, rfl, rfl, ⟨hz.1, by omega⟩, k _ _ .refl F rfl⟩) fun h => .inr ⟨_, _, rfl, rfl, ⟨hz.1, h⟩, k _ _ .refl F rfl⟩)
    · cases e
  | Mod =>
    refine ⟨_, op_mod, ?_⟩
    intro G fc fm ex σ s H x y a b rv Q hK F ha hb e k
    unfold binop at e
    split at e
    all_goals first | (rename_i heq; cases heq; done) | skip
    all_goals first | cases e; done | skip
    split at e
    · rename_i hz
      cases e; cases ha; cases hb
      exact ⟨_, _, rfl, rfl, hz, k _ _ .refl F rfl⟩
    · cases e
  | Pow =>
    refine ⟨_, op_pow, ?_⟩
    intro G fc fm ex σ s H x y a b rv Q hK F ha hb e k
    unfold binop at e
    split at e
    all_goals first | (rename_i heq; cases heq; done) | skip
    all_goals first | cases e; done | skip
    split at e
    · rename_i hz
      cases e; cases ha; cases hb
      exact ⟨_, _, rfl, rfl, ⟨hz.1, by omega, hz.2.2⟩, k _ _ .refl F rfl⟩
    · cases e
  | LShift =>
    refine ⟨_, op_shl, ?_⟩
    intro G fc fm ex σ s H x y a b rv Q hK F ha hb e k
    unfold binop at e
    split at e
    all_goals first | (rename_i heq; cases heq; done) | skip
    all_goals first | cases e; done | skip
    split at e
    · rename_i hz
      cases e; cases ha; cases hb
      exact ⟨_, _, rfl, rfl, ⟨hz.1, by omega, hz.2.2⟩, k _ _ .refl F rfl⟩
    · cases e
  | RShift =>
    refine ⟨_, op_shr, ?_⟩
    intro G fc fm ex σ s H x y a b rv Q hK F ha hb e k
    unfold binop at e
    split at e
    all_goals first | (rename_i heq; cases heq; done) | skip
    all_goals first | cases e; done | skip
    split at e
    · rename_i hz
      cases e; cases ha; cases hb
      exact ⟨_, _, rfl, rfl, hz, k _ _ .refl F rfl⟩
    · cases e
  | BitAnd =>
    refine ⟨_, op_and, ?_⟩
    intro G fc fm ex σ s H x y a b rv Q hK F ha hb e k
    unfold binop at e
    split at e
    all_goals first | (rename_i heq; cases heq; done) | skip
    all_goals first | cases e; done | skip
    cases e; cases ha; cases hb
    exact ⟨_, _, rfl, rfl, k _ _ .refl F rfl⟩
  | BitOr =>
    refine ⟨_, op_or, ?_⟩
    intro G fc fm ex σ s H x y a b rv Q hK F ha hb e k
    unfold binop at e
    split at e
    all_goals first | (rename_i heq; cases heq; done) | skip
    all_goals first | cases e; done | skip
    cases e; cases ha; cases hb
    exact ⟨_, _, rfl, rfl, k _ _ .refl F rfl⟩
  | BitXor =>
    refine ⟨_, op_xor, ?_⟩
    intro G fc fm ex σ s H x y a b rv Q hK F ha hb e k
    unfold binop at e
    split at e
    all_goals first | (rename_i heq; cases heq; done) | skip
    all_goals first | cases e; done | skip
    cases e; cases ha; cases hb
    exact ⟨_, _, rfl, rfl, k _ _ .refl F rfl⟩
  | MatMult => exact ⟨_, BinOk.no fun a b => by cases a <;> cases b <;> rfl⟩
  | Div => exact ⟨_, BinOk.no fun a b => by cases a <;> cases b <;> rfl⟩
end
end Py
end SB3
section SB4
set_option autoImplicit false
set_option linter.all false
set_option maxRecDepth 100000
set_option maxHeartbeats 4000000
/-! The evaluator over the hand layer, 4: comparisons, subscripts, truth. -/
namespace Py
open PySem L2

mutual
def py : D → PyData
  | .non => .none
  | .bl b => .bool b
  | .int i => .int i
  | .str s => .str (ST s)
  | .lst xs => .list (pys xs)
  | .tup xs => .tuple (pys xs)
  | .dic _ => .dict []
  | .obj _ _ => .dict []
def pys : List D → List PyData
  | [] => []
  | x :: xs => py x :: pys xs
end
theorem pys_map : ∀ xs : List D, pys xs = xs.map py
  | [] => rfl
  | x :: xs => by rw [pys, List.map_cons, pys_map xs]
theorem ST_eq {a b : List Nat} : (ST a == ST b) = (a == b) := by
  rw [Bool.eq_iff_iff]
  simp only [beq_iff_eq, ST]
  constructor
  · intro h
    have := congrArg (fun z : Str => z.cps.toList) h
    simpa using this
  · intro h; rw [h]
mutual
theorem py_eqv : ∀ (n : Nat) (a b : D), plain n a = true → plain n b = true → PyData.eqv (py a) (py b) = eqD a b
  | n, .lst xs, b, ha, hb => by
    cases n with
    | zero => simp [plain] at ha
    | succ n =>
      cases b with
      | lst ys => simp only [py, PyData.eqv, eqD]; exact pys_eqv n xs ys (by simpa [plain] using ha) (by simpa [plain] using hb)
      | dic _ => simp [plain] at hb
      | obj _ _ => simp [plain] at hb
      | _ => simp [py, PyData.eqv, eqD]
  | n, .tup xs, b, ha, hb => by
    cases n with
    | zero => simp [plain] at ha
    | succ n =>
      cases b with
      | tup ys => simp only [py, PyData.eqv, eqD]; exact pys_eqv n xs ys (by simpa [plain] using ha) (by simpa [plain] using hb)
      | dic _ => simp [plain] at hb
      | obj _ _ => simp [plain] at hb
      | _ => simp [py, PyData.eqv, eqD]
  | n, .dic _, _, ha, _ => by cases n <;> simp [plain] at ha
  | n, .obj _ _, _, ha, _ => by cases n <;> simp [plain] at ha
  | n, .non, b, _, hb => by cases b <;> first | (cases n <;> simp [plain] at hb; done) | simp [py, PyData.eqv, eqD]
  | n, .bl _, b, _, hb => by cases b <;> first | (cases n <;> simp [plain] at hb; done) | simp [py, PyData.eqv, eqD]
  | n, .int _, b, _, hb => by cases b <;> first | (cases n <;> simp [plain] at hb; done) | simp [py, PyData.eqv, eqD]
  | n, .str _, b, _, hb => by cases b <;> first | (cases n <;> simp [plain] at hb; done) | simp [py, PyData.eqv, eqD] <;> exact ST_eq
theorem pys_eqv : ∀ (n : Nat) (a b : List D), (∀ x ∈ a, plain n x = true) → (∀ x ∈ b, plain n x = true) → PyData.eqvAll (pys a) (pys b) = eqDs a b
  | n, [], [], _, _ => by simp [pys, PyData.eqvAll, eqDs]
  | n, [], _ :: _, _, _ => by simp [pys, PyData.eqvAll, eqDs]
  | n, _ :: _, [], _, _ => by simp [pys, PyData.eqvAll, eqDs]
  | n, x :: xs, y :: ys, ha, hb => by
    simp only [pys, PyData.eqvAll, eqDs]
    rw [py_eqv n x y (ha x (by simp)) (hb y (by simp)), pys_eqv n xs ys (fun z h => ha z (by simp [h])) fun z h => hb z (by simp [h])]
end
section
variable {G : Gx} {H : Hp} {B : Bar}
mutual
theorem DR.dp : ∀ (n : Nat) {d : D} {v : V}, plain n d = true → DR G H B d v → Dp G.K H v (py d) ∧ (py d).canLay0 = true ∧ (py d).depth ≤ n + 1
  | n, .non, _, _, h => by cases h; exact ⟨.non, by simp [py, PyData.canLay0], by simp [py, PyData.depth]⟩
  | n, .bl _, _, _, h => by cases h; exact ⟨.bl _, by simp [py, PyData.canLay0], by simp [py, PyData.depth]⟩
  | n, .int _, _, _, h => by cases h; exact ⟨.int _, by simp [py, PyData.canLay0], by simp [py, PyData.depth]⟩
  | n, .str s, _, _, h => by
    obtain ⟨rfl, hs⟩ := h
    refine ⟨.str _, ?_, by simp [py, PyData.depth]⟩
    have := (okS_iff.mp hs).2
    show PyData.canLay0 (.str (ST s)) = true
    simp only [PyData.canLay0, PyData.strOk, ST, List.all_toArray, List.all_eq_true, decide_eq_true_eq]
    exact this
  | n, .lst xs, v, p, h => by
    cases n with
    | zero => simp [plain] at p
    | succ n =>
      obtain ⟨a, vs, rfl, q, r⟩ := h
      obtain ⟨h1, h2, h3⟩ := DRs.dp n (by simpa [plain] using p) r
      exact ⟨.lst q.sq h1, by simp only [py, PyData.canLay0]; exact h2, by simp only [py, PyData.depth]; omega⟩
  | n, .tup xs, v, p, h => by
    cases n with
    | zero => simp [plain] at p
    | succ n =>
      obtain ⟨a, vs, rfl, q, r⟩ := h
      obtain ⟨h1, h2, h3⟩ := DRs.dp n (by simpa [plain] using p) r
      exact ⟨.tup q.sq h1, by simp only [py, PyData.canLay0]; exact h2, by simp only [py, PyData.depth]; omega⟩
  | n, .dic _, _, ha, _ => by cases n <;> simp [plain] at ha
  | n, .obj _ _, _, ha, _ => by cases n <;> simp [plain] at ha
theorem DRs.dp : ∀ (n : Nat) {ds : List D} {vs : List V}, (∀ x ∈ ds, plain n x = true) → DRs G H B ds vs → DpAll G.K H vs (pys ds) ∧ PyData.canLayAll0 (pys ds) = true ∧ PyData.depthAll (pys ds) ≤ n + 1
  | n, [], _, _, h => by cases h; exact ⟨.nil, by simp [pys, PyData.canLayAll0], by simp [pys, PyData.depthAll]⟩
  | n, x :: xs, _, p, ⟨v, ws, e, r, t⟩ => by
    subst e
    obtain ⟨h1, h2, h3⟩ := DR.dp n (p x (by simp)) r
    obtain ⟨k1, k2, k3⟩ := DRs.dp n (fun z h => p z (by simp [h])) t
    exact ⟨.cons h1 k1, by simp only [pys, PyData.canLayAll0, h2, k2, Bool.and_self], by simp only [pys, PyData.depthAll]; omega⟩
end
theorem RD.dp {n : Nat} {d : D} {v : V} (p : plain n d = true) (h : RD G H B d v) : Dp G.K H v (py d) ∧ (py d).canLay0 = true ∧ (py d).depth ≤ n + 1 := by
  cases d with
  | lst xs =>
    cases n with
    | zero => simp [plain] at p
    | succ n =>
      obtain ⟨a, vs, rfl, q, r⟩ := h
      obtain ⟨h1, h2, h3⟩ := DRs.dp n (by simpa [plain] using p) r
      exact ⟨.lst q h1, by simp only [py, PyData.canLay0]; exact h2, by simp only [py, PyData.depth]; omega⟩
  | dic _ => cases n <;> simp [plain] at p
  | _ => exact DR.dp (B := B) n p h
theorem shaped_of {n : Nat} {d : PyData} (h1 : d.canLay0 = true) (h2 : d.depth ≤ n + 1) (hn : n ≤ 60) : SeqAt.shaped d = true := by
  unfold SeqAt.shaped
  rw [h1, Bool.true_and, decide_eq_true_eq]
  omega
/-- flat values -/
theorem RD.flat {d : D} {v : V} (f : flat d = true) (h : RD G H B d v) : flatV v = true := by
  cases d <;> first | (obtain rfl := h; rfl) | (obtain ⟨rfl, _⟩ := h; rfl) | cases f
theorem eqV_D {d e : D} {v w : V} (f : Py.flat d = true) (f' : Py.flat e = true) (h : RD G H B d v) (h' : RD G H B e w) : eqV v w = eqD d e := by
  cases d <;> first | cases f; done | skip
  all_goals (cases e <;> first | cases f'; done | skip)
  all_goals first
    | (obtain rfl := h; obtain rfl := h'; simp [eqV, eqD]; done)
    | (obtain ⟨rfl, _⟩ := h; obtain rfl := h'; simp [eqV, eqD]; done)
    | (obtain rfl := h; obtain ⟨rfl, _⟩ := h'; simp [eqV, eqD]; done)
    | (obtain ⟨rfl, _⟩ := h; obtain ⟨rfl, _⟩ := h'; simp only [eqV, eqD]; exact ST_eq)
theorem DRs.flatV : ∀ {ds : List D} {vs : List V}, ds.all Py.flat = true → DRs G H B ds vs → vs.all L2.flatV = true
  | [], _, _, h => by cases h; rfl
  | x :: xs, _, f, ⟨v, ws, e, r, t⟩ => by
    subst e
    rw [List.all_cons, Bool.and_eq_true] at f
    rw [List.all_cons, RD.flat f.1 r.rd, DRs.flatV f.2 t]; rfl
theorem inV_D {d : D} {w : V} (f : Py.flat d = true) (h : RD G H B d w) : ∀ {ds : List D} {vs : List V}, ds.all Py.flat = true → DRs G H B ds vs → inV w vs = ds.any fun z => eqD z d
  | [], _, _, h => by cases h; rfl
  | x :: xs, _, f', ⟨v, ws, e, r, t⟩ => by
    subst e
    rw [List.all_cons, Bool.and_eq_true] at f'
    unfold inV
    rw [List.any_cons, List.any_cons, eqV_D f'.1 f r.rd h]
    exact congrArg _ (inV_D f h f'.2 t)
theorem any_py {n : Nat} {d : D} (hd : plain n d = true) : ∀ {ds : List D}, (∀ x ∈ ds, plain n x = true) → ((pys ds).any fun z => PyData.eqv z (py d)) = ds.any fun z => eqD z d
  | [], _ => rfl
  | x :: xs, h => by
    rw [pys, List.any_cons, List.any_cons, py_eqv n x d (h x (by simp)) hd, any_py hd fun z q => h z (by simp [q])]
end
/-- keys -/
theorem keyD_eq {G : Gx} {H : Hp} {B : Bar} {d e : D} {k k' : Key} (h : keyD d = some k) (h' : keyD e = some k') : decide (k = k') = eqD d e := by
  cases d <;> first | cases h; done | skip
  all_goals (cases e <;> first | cases h'; done | skip)
  all_goals (cases h; cases h')
  · rw [key_ll, eqD]
  · simp [eqD, key_lr]
  · simp [eqD, key_rl]
  · rw [key_rr, eqD, ← ST_eq, Bool.eq_iff_iff]; simp
theorem KRs.val {G : Gx} {H : Hp} {B : Bar} {e : D} {k : Key} (he : keyD e = some k) : ∀ {kvs : List (D × D)} {kws : List (Key × V)}, KRs G H B kvs kws →
    (∃ p v, kvs.find? (fun p => eqD p.1 e) = some p ∧ valV kws k = some v ∧ DR G H B p.2 v) ∨ (kvs.find? (fun p => eqD p.1 e) = none ∧ valV kws k = none)
  | [], _, h => by cases h; exact .inr ⟨rfl, rfl⟩
  | p :: xs, _, ⟨k1, v, ws, e1, hk, r, t⟩ => by
    subst e1
    have q := keyD_eq (G := G) (H := H) (B := B) hk he
    unfold valV
    rw [List.find?_cons, List.find?_cons]
    cases z : eqD p.1 e with
    | true =>
      rw [z] at q
      simp only [q]
      exact .inl ⟨p, v, rfl, rfl, r⟩
    | false =>
      rw [z] at q
      simp only [q]
      exact KRs.val he t
theorem any_find {α : Type} (f : α → Bool) (l : List α) : l.any f = (l.find? f).isSome := by
  induction l with
  | nil => rfl
  | cons a r ih =>
    rw [List.any_cons, List.find?_cons]
    cases f a with
    | true => rfl
    | false => simpa using ih
section
variable {X : Cx}
def rInK : R2 := fun y x H Q => ∃ a o, x = .ref a ∧ DGet H a y o ∧ Q (.bl o.isSome) H
def rNotInK : R2 := fun y x H Q => ∃ a o, x = .ref a ∧ DGet H a y o ∧ Q (.bl (!o.isSome)) H
theorem op_inK (hu : X.A.units + 1 < cLine) : OpR X (compareOp .In) rInK := by
  intro pins s σ H y x iv u Q I ry rx h
  obtain ⟨a, o, rfl, g, q⟩ := h
  obtain rfl : u = Value.ref a := rx
  exact d_in hu I g ry fun s3 I3 => ⟨.bl o.isSome, H, I3, rfl, q⟩
theorem op_notInK (hu : X.A.units + 1 < cLine) : OpR X (compareOp .NotIn) rNotInK := by
  intro pins s σ H y x iv u Q I ry rx h
  obtain ⟨a, o, rfl, g, q⟩ := h
  obtain rfl : u = Value.ref a := rx
  exact d_notIn hu I g ry fun s3 I3 => ⟨.bl (!o.isSome), H, I3, rfl, q⟩
def rEqs (K : PySem.W.Frag) : R2 := rEqD K
theorem cmp_ok (op : CmpOp) (hu : X.A.units + 65 < cLine) : ∃ r, BinOk X (compareOp op) (fun a b => (cmpOp op a b).map fun r => RV.d (.bl r)) r := by
  cases op with
  | Eq =>
    refine ⟨_, op_eqD (X := X) (by omega), ?_⟩
    intro G fc fm ex σ s H x y a b rv Q hK F ha hb e k
    simp only [cmpOp, eqOp] at e
    split at e
    · rename_i hp
      rw [Bool.and_eq_true] at hp
      cases e
      obtain ⟨a1, a2, a3⟩ := ha.dp hp.1
      obtain ⟨b1, b2, b3⟩ := hb.dp hp.2
      rw [hK] at a1 b1
      refine ⟨_, _, a1, b1, shaped_of a2 a3 (by decide), shaped_of b2 b3 (by decide), ?_⟩
      rw [py_eqv 30 _ _ hp.1 hp.2]
      exact k _ _ .refl F rfl
    · cases e
  | NotEq =>
    refine ⟨_, op_neD (X := X) (by omega), ?_⟩
    intro G fc fm ex σ s H x y a b rv Q hK F ha hb e k
    simp only [cmpOp, eqOp] at e
    split at e
    · rename_i hp
      rw [Bool.and_eq_true] at hp
      cases e
      obtain ⟨a1, a2, a3⟩ := ha.dp hp.1
      obtain ⟨b1, b2, b3⟩ := hb.dp hp.2
      rw [hK] at a1 b1
      refine ⟨_, _, a1, b1, shaped_of a2 a3 (by decide), shaped_of b2 b3 (by decide), ?_⟩
      rw [py_eqv 30 _ _ hp.1 hp.2]
      exact k _ _ .refl F rfl
    · cases e
  | In =>
    refine ⟨_, (op_in_seq (X := X)).or ((op_inD (X := X) hu).or (op_in_sign.or (op_inK (X := X) (by omega)))), ?_⟩
    intro G fc fm ex σ s H x y a b rv Q hK F ha hb e k
    obtain ⟨r, e, rfl⟩ := Option.map_eq_some_iff.mp e
    simp only [cmpOp] at e
    unfold inOp at e
    split at e
    · split at e
      · rename_i hp
        rw [Bool.or_eq_true, Bool.and_eq_true, Bool.and_eq_true] at hp
        cases e
        obtain ⟨l, vs, rfl, q, t⟩ := hb
        rcases hp with hp | hp
        · rw [hK] at q
          refine .inl ⟨l, vs, rfl, .inl q, ha.flat hp.1, t.flatV hp.2, ?_⟩
          rw [if_neg (by decide), inV_D hp.1 ha hp.2 t]
          exact k _ _ .refl F rfl
        · obtain ⟨a1, a2, a3⟩ := ha.dp hp.1
          obtain ⟨b1, b2, b3⟩ := t.dp 30 (by simpa using hp.2)
          rw [hK] at a1 q b1
          refine .inr (.inl ⟨_, _, a1, .lst q b1, shaped_of a2 a3 (by decide), shaped_of (n := 31) (by simp only [PyData.canLay0]; exact b2) (by simp only [PyData.depth]; omega) (by decide), ?_⟩)
          rw [any_py hp.1 (by simpa using hp.2)]
          exact k _ _ .refl F rfl
      · cases e
    · split at e
      · rename_i hp
        rw [Bool.and_eq_true] at hp
        cases e
        obtain ⟨l, vs, rfl, q, t⟩ := hb
        have q := q.sq
        rw [hK] at q
        refine .inl ⟨l, vs, rfl, .inr q, ha.flat hp.1, t.flatV hp.2, ?_⟩
        rw [if_neg (by decide), inV_D hp.1 ha hp.2 t]
        exact k _ _ .refl F rfl
      · cases e
    · split at e
      · cases e
        obtain ⟨rfl, _⟩ := ha
        obtain ⟨rfl, _⟩ := hb
        exact .inr (.inr (.inl ⟨_, _, rfl, rfl, k _ _ .refl F (by simp [ST]; rfl)⟩))
      · cases e
    · have key : ∀ (kvs : List (D × D)) (d : D) (kk : Key), keyD d = some kk → x = kV kk → RD G H (Br fm ex s σ) (.dic kvs) y → r = (kvs.any fun p => eqD p.1 d) → rInK x y H Q := by
        intro kvs d kk h1 h2 h3 h4
        obtain ⟨l, kws, rfl, q, t⟩ := h3
        refine ⟨l, valV kws kk, rfl, .inl ⟨kws, kk, .inl q, h2, rfl⟩, k _ _ .refl F ?_⟩
        rw [any_find] at h4
        rcases t.val h1 with ⟨p, v, e1, e2, _⟩ | ⟨e1, e2⟩
        · rw [e1] at h4; rw [e2, h4]; rfl
        · rw [e1] at h4; rw [e2, h4]; rfl
      split at e
      · cases e
        exact .inr (.inr (.inr (key _ _ (.inl _) rfl ha hb rfl)))
      · cases e
        exact .inr (.inr (.inr (key _ _ (.inr _) rfl ha.1 hb rfl)))
      · cases e
    · cases e
  | NotIn =>
    refine ⟨_, (op_notIn_seq (X := X)).or ((op_notInD (X := X) hu).or (op_notIn_sign.or (op_notInK (X := X) (by omega)))), ?_⟩
    intro G fc fm ex σ s H x y a b rv Q hK F ha hb e k
    obtain ⟨r, e1, rfl⟩ := Option.map_eq_some_iff.mp e
    obtain ⟨r, e2, rfl⟩ := Option.map_eq_some_iff.mp (show (inOp a b).map not = some r from e1)
    clear e e1
    have e := e2
    clear e2
    unfold inOp at e
    split at e
    · split at e
      · rename_i hp
        rw [Bool.or_eq_true, Bool.and_eq_true, Bool.and_eq_true] at hp
        cases e
        obtain ⟨l, vs, rfl, q, t⟩ := hb
        rcases hp with hp | hp
        · rw [hK] at q
          refine .inl ⟨l, vs, rfl, .inl q, ha.flat hp.1, t.flatV hp.2, ?_⟩
          rw [if_pos rfl, inV_D hp.1 ha hp.2 t]
          exact k _ _ .refl F rfl
        · obtain ⟨a1, a2, a3⟩ := ha.dp hp.1
          obtain ⟨b1, b2, b3⟩ := t.dp 30 (by simpa using hp.2)
          rw [hK] at a1 q b1
          refine .inr (.inl ⟨_, _, a1, .lst q b1, shaped_of a2 a3 (by decide), shaped_of (n := 31) (by simp only [PyData.canLay0]; exact b2) (by simp only [PyData.depth]; omega) (by decide), ?_⟩)
          rw [any_py hp.1 (by simpa using hp.2)]
          exact k _ _ .refl F rfl
      · cases e
    · split at e
      · rename_i hp
        rw [Bool.and_eq_true] at hp
        cases e
        obtain ⟨l, vs, rfl, q, t⟩ := hb
        have q := q.sq
        rw [hK] at q
        refine .inl ⟨l, vs, rfl, .inr q, ha.flat hp.1, t.flatV hp.2, ?_⟩
        rw [if_pos rfl, inV_D hp.1 ha hp.2 t]
        exact k _ _ .refl F rfl
      · cases e
    · split at e
      · cases e
        obtain ⟨rfl, _⟩ := ha
        obtain ⟨rfl, _⟩ := hb
        exact .inr (.inr (.inl ⟨_, _, rfl, rfl, k _ _ .refl F (by simp [ST]; rfl)⟩))
      · cases e
    · have key : ∀ (kvs : List (D × D)) (d : D) (kk : Key), keyD d = some kk → x = kV kk → RD G H (Br fm ex s σ) (.dic kvs) y → r = (kvs.any fun p => eqD p.1 d) → rNotInK x y H Q := by
        intro kvs d kk h1 h2 h3 h4
        obtain ⟨l, kws, rfl, q, t⟩ := h3
        refine ⟨l, valV kws kk, rfl, .inl ⟨kws, kk, .inl q, h2, rfl⟩, k _ _ .refl F ?_⟩
        rw [any_find] at h4
        rcases t.val h1 with ⟨p, v, e1, e2, _⟩ | ⟨e1, e2⟩
        · rw [e1] at h4; rw [e2, h4]; rfl
        · rw [e1] at h4; rw [e2, h4]; rfl
      split at e
      · cases e
        exact .inr (.inr (.inr (key _ _ (.inl _) rfl ha hb rfl)))
      · cases e
        exact .inr (.inr (.inr (key _ _ (.inr _) rfl ha.1 hb rfl)))
      · cases e
    · cases e
  | Lt =>
    refine ⟨_, op_lt.or op_lt_str, ?_⟩
    intro G fc fm ex σ s H x y a b rv Q hK F ha hb e k
    obtain ⟨r, e, rfl⟩ := Option.map_eq_some_iff.mp e
    simp only [cmpOp] at e
    split at e
    · cases e; cases ha; cases hb; exact .inl ⟨_, _, rfl, rfl, k _ _ .refl F rfl⟩
    · cases e; obtain ⟨rfl, _⟩ := ha; obtain ⟨rfl, _⟩ := hb; exact .inr ⟨_, _, rfl, rfl, k _ _ .refl F rfl⟩
    · cases e
  | LtE =>
    refine ⟨_, op_le.or op_le_str, ?_⟩
    intro G fc fm ex σ s H x y a b rv Q hK F ha hb e k
    obtain ⟨r, e, rfl⟩ := Option.map_eq_some_iff.mp e
    simp only [cmpOp] at e
    split at e
    · cases e; cases ha; cases hb; exact .inl ⟨_, _, rfl, rfl, k _ _ .refl F rfl⟩
    · cases e; obtain ⟨rfl, _⟩ := ha; obtain ⟨rfl, _⟩ := hb; exact .inr ⟨_, _, rfl, rfl, k _ _ .refl F rfl⟩
    · cases e
  | Gt =>
    refine ⟨_, op_gt.or op_gt_str, ?_⟩
    intro G fc fm ex σ s H x y a b rv Q hK F ha hb e k
    obtain ⟨r, e, rfl⟩ := Option.map_eq_some_iff.mp e
    simp only [cmpOp] at e
    split at e
    · cases e; cases ha; cases hb; exact .inl ⟨_, _, rfl, rfl, k _ _ .refl F rfl⟩
    · cases e; obtain ⟨rfl, _⟩ := ha; obtain ⟨rfl, _⟩ := hb; exact .inr ⟨_, _, rfl, rfl, k _ _ .refl F rfl⟩
    · cases e
  | GtE =>
    refine ⟨_, op_ge.or op_ge_str, ?_⟩
    intro G fc fm ex σ s H x y a b rv Q hK F ha hb e k
    obtain ⟨r, e, rfl⟩ := Option.map_eq_some_iff.mp e
    simp only [cmpOp] at e
    split at e
    · cases e; cases ha; cases hb; exact .inl ⟨_, _, rfl, rfl, k _ _ .refl F rfl⟩
    · cases e; obtain ⟨rfl, _⟩ := ha; obtain ⟨rfl, _⟩ := hb; exact .inr ⟨_, _, rfl, rfl, k _ _ .refl F rfl⟩
    · cases e
  | Is => exact ⟨_, BinOk.no fun a b => by cases a <;> cases b <;> rfl⟩
  | IsNot => exact ⟨_, BinOk.no fun a b => by cases a <;> cases b <;> rfl⟩
end
end Py
end SB4
section SB5
set_option autoImplicit false
set_option linter.all false
set_option maxRecDepth 100000
set_option maxHeartbeats 4000000
/-! The evaluator over the hand layer, 5: subscripts, slices, truth, built-ins. -/
namespace Py
open PySem L2

theorem ixN_eq (n : Nat) (i : Int) : Py.ixN n i = L2.ixN n i := rfl
theorem atI_eq {α : Type} (xs : List α) (i : Int) : Py.atI xs i = L2.atI xs i := rfl
theorem sIx_eq (n d : Nat) (o : Option Int) : Py.sIx n d o = HT.sIx n d o := by cases o <;> rfl
section
variable {G : Gx} {H : Hp} {B : Bar}
theorem DRs.at {ds : List D} {vs : List V} {i : Int} {d : D} (h : DRs G H B ds vs) (e : Py.atI ds i = some d) : ∃ v, L2.atI vs i = some v ∧ DR G H B d v := by
  unfold Py.atI at e
  unfold L2.atI
  rw [ixN_eq, h.length] at e
  cases q : L2.ixN vs.length i with
  | none => rw [q] at e; cases e
  | some j =>
    rw [q] at e
    obtain ⟨v, h1, h2⟩ := h.get (i := j) e
    exact ⟨v, h1, h2⟩
theorem DRs.cut {ds : List D} {vs : List V} (lo hi : Option Int) (h : DRs G H B ds vs) : DRs G H B (Py.cut ds lo hi) (cutV vs lo hi) := by
  unfold Py.cut cutV
  rw [sIx_eq, sIx_eq, h.length]
  exact (h.drop _).take _
theorem cut_ST (s : List Nat) (lo hi : Option Int) : cutS (ST s) lo hi = ST (Py.cut s lo hi) := by
  unfold cutS Py.cut
  rw [sIx_eq, sIx_eq, ST_length]
  rfl
theorem okS_cut {s : List Nat} (lo hi : Option Int) (h : okS s = true) : okS (Py.cut s lo hi) = true := by
  unfold Py.cut
  exact okS_sub (by rw [List.length_take, List.length_drop]; omega) (fun c hc => List.mem_of_mem_drop (List.mem_of_mem_take hc)) h
end
section
variable {X : Cx}
def rIxD : R2 := fun x y H Q => ∃ a v, x = .ref a ∧ DGet H a y (some v) ∧ Q v H
theorem ix_dict (hu : X.A.units + 1 < cLine) : IxR X rIxD := by
  intro value slice pins s σ H x y v u Q I rx ry h hs
  obtain ⟨a, w, rfl, g, q⟩ := h
  obtain rfl : v = Value.ref a := rx
  exact PyProof.Rows.tail_any (dict_typeIs I g) PySem.F.slot_dict_getitem.lookup (d_getItem hu I g ry fun w' s3 I3 rw' => ⟨w, H, I3, rw', q⟩) hs
theorem ix_ok (hu : X.A.units + 1 < cLine) : ∃ r, IxR X r ∧
  ∀ (G : Gx) (fc : Fc) (fm : List Addr) (ex : Bar) (σ : L2.St) (s : S) (H : Hp) (x y : V) (a b d : D) (Q : VK), G.K = X.K → FR G fc fm ex σ s H → RD G H (Br fm ex s σ) a x → RD G H (Br fm ex s σ) b y →
    ixOp a b = some d → (∀ v, DR G H (Br fm ex s σ) d v → Q v H) → r x y H Q := by
  refine ⟨_, (ix_seq (X := X)).or (ix_dict hu), ?_⟩
  intro G fc fm ex σ s H x y a b d Q hK F ha hb e k
  unfold ixOp at e
  split at e
  · obtain ⟨l, vs, rfl, q, t⟩ := ha
    cases hb
    obtain ⟨v, h1, h2⟩ := t.at e
    rw [hK] at q
    exact .inl (.inl ⟨l, vs, _, v, rfl, rfl, q, h1, k v h2⟩)
  · obtain ⟨l, vs, rfl, q, t⟩ := ha
    cases hb
    obtain ⟨v, h1, h2⟩ := t.at e
    have q := q.sq
    rw [hK] at q
    exact .inl (.inr (.inl ⟨l, vs, _, v, rfl, rfl, q, h1, k v h2⟩))
  · obtain ⟨rfl, hs⟩ := ha
    cases hb
    obtain ⟨c, h1, rfl⟩ := Option.map_eq_some_iff.mp e
    refine .inl (.inr (.inr ⟨_, _, c, rfl, rfl, by rw [ST_length, sizeSZ]; exact (okS_iff.mp hs).1, by simpa [ST, atI_eq] using h1, k _ ⟨rfl, ?_⟩⟩))
    refine okS_sub (a := _) ?_ ?_ hs
    · unfold Py.atI at h1
      obtain ⟨j, _, h2⟩ := Option.bind_eq_some_iff.mp h1
      have := (List.getElem?_eq_some_iff.mp h2).1
      simp only [List.length_cons, List.length_nil]
      omega
    · intro c' hc'
      have : c' = c := by simpa using hc'
      subst this
      unfold Py.atI at h1
      obtain ⟨j, _, h2⟩ := Option.bind_eq_some_iff.mp h1
      exact List.mem_of_getElem? h2
  · have key : ∀ (kvs : List (D × D)) (kk : Key), keyD b = some kk → y = kV kk → RD G H (Br fm ex s σ) (.dic kvs) x → (kvs.find? fun p => eqD p.1 b).map (·.2) = some d → rIxD x y H Q := by
      intro kvs kk h1 h2 h3 h4
      obtain ⟨l, kws, rfl, q, t⟩ := h3
      rcases t.val h1 with ⟨p, v, e1, e2, r⟩ | ⟨e1, e2⟩
      · rw [e1] at h4
        cases h4
        exact ⟨l, v, rfl, .inl ⟨kws, kk, .inl q, h2, e2.symm⟩, k v r⟩
      · rw [e1] at h4; cases h4
    unfold getK at e
    split at e
    · exact .inr (key _ (.inl _) rfl hb ha e)
    · exact .inr (key _ (.inr _) rfl hb.1 ha e)
    · cases e
  · cases e
theorem sl_ok : ∃ r, SlR X r ∧
  ∀ (G : Gx) (fc : Fc) (fm : List Addr) (ex : Bar) (σ : L2.St) (s : S) (H : Hp) (x : V) (a : D) (lo hi : Option Int) (rv : RV) (Q : VK), G.K = X.K → FR G fc fm ex σ s H → RD G H (Br fm ex s σ) a x →
    slOp a lo hi = some rv → (∀ v H', Stp fm ex σ s H s H' → FR G fc fm ex σ s H' → RR G fc fm ex σ s H' rv v → Q v H') → r x lo hi H Q := by
  refine ⟨_, (sl_list (X := X)).or ((sl_tupA (X := X)).or (sl_str (X := X))), ?_⟩
  intro G fc fm ex σ s H x a lo hi rv Q hK F ha e k
  unfold slOp at e
  split at e
  · cases e
    obtain ⟨l, vs, rfl, q, t⟩ := ha
    rw [hK] at q
    exact .inl ⟨l, vs, rfl, q, fun p hp => k _ _ (.alloc hp) (F.alloc hp) (.newL F hp (t.cut lo hi))⟩
  · cases e
    obtain ⟨l, vs, rfl, q, t⟩ := ha
    have q2 := q.sq
    rw [hK] at q2
    refine .inr (.inl ⟨l, vs, rfl, q2, fun z => k _ _ .refl F ⟨l, vs, rfl, q, ?_⟩, fun _ p hp => k _ _ (.alloc hp) (F.alloc hp) (.newT F hp (t.cut lo hi))⟩)
    have := t.cut lo hi
    unfold cutV at this
    rw [z.1, z.2] at this
    simpa using this
  · cases e
    obtain ⟨rfl, hs⟩ := ha
    refine .inr (.inr ⟨_, rfl, by rw [ST_length, sizeSZ]; exact (okS_iff.mp hs).1, ?_⟩)
    rw [cut_ST]
    exact k _ _ .refl F ⟨rfl, okS_cut lo hi hs⟩
  · cases e
/-- truth -/
theorem tru_D {G : Gx} {H : Hp} {B : Bar} {d : D} {v : V} {b : Bool} (h : RD G H B d v) (e : truthy d = some b) : TruV G.K v H b := by
  cases d with
  | non => cases e; cases h; rfl
  | bl x => cases e; cases h; rfl
  | int i => cases e; cases h; rfl
  | str s =>
    cases e
    obtain ⟨rfl, hs⟩ := h
    refine ⟨by rw [ST_length, sizeSZ]; exact (okS_iff.mp hs).1, ?_⟩
    rw [ST_length]
    cases s with
    | nil => rfl
    | cons a r => simp; omega
  | lst xs =>
    cases e
    obtain ⟨a, vs, rfl, q, t⟩ := h
    refine .inl ⟨vs, q, ?_⟩
    have := t.length
    cases xs <;> cases vs <;> simp at this ⊢
  | tup xs =>
    cases e
    obtain ⟨a, vs, rfl, q, t⟩ := h
    refine .inr (.inl ⟨vs, q.sq, ?_⟩)
    have := t.length
    cases xs <;> cases vs <;> simp at this ⊢
  | dic xs =>
    cases e
    obtain ⟨a, vs, rfl, q, t⟩ := h
    refine .inr (.inr ⟨vs, q, ?_⟩)
    cases xs with
    | nil => cases t; rfl
    | cons p r => obtain ⟨k, v, ws, e, _⟩ := t; subst e; rfl
  | obj c fs => cases e
end
/-! ### built-ins -/
def RDl (G : Gx) (H : Hp) (B : Bar) : List D → List V → Prop
  | [], vs => vs = []
  | x :: xs, vs => ∃ v ws, vs = v :: ws ∧ RD G H B x v ∧ RDl G H B xs ws
def biNm : Bi → String
  | .len => "len" | .abs => "abs" | .max2 => "max" | .min2 => "min" | .int => "int" | .str => "str" | .sum => "sum" | .max => "max" | .min => "min" | .any => "any" | .all => "all" | .sorted => "sorted"
  | .list => "list" | .tuple => "tuple" | .join => "join" | .sortedSet => "sorted" | .lenSet => "len"
def biTy : Bi → Bool
  | .int => true | .str => true | .list => true | .tuple => true | _ => false
def biV (b : Bi) : Value := if biTy b then .type (biNm b) else .builtin (biNm b)
def BiOk (X : Cx) (b : Bi) (r : List V → Hp → VK → Prop) : Prop := CallR X (biV b) r ∧
  ∀ (G : Gx) (fc : Fc) (fm : List Addr) (ex : Bar) (σ : L2.St) (s : S) (H : Hp) (vs : List V) (ds : List D) (rv : RV) (Q : VK), G.K = X.K → FR G fc fm ex σ s H → RDl G H (Br fm ex s σ) ds vs →
    biOp b ds = some rv → (∀ v H', Stp fm ex σ s H s H' → FR G fc fm ex σ s H' → RR G fc fm ex σ s H' rv v → Q v H') → r vs H Q
section
variable {G : Gx} {H : Hp} {B : Bar}
theorem RDl.one {d : D} {vs : List V} (h : RDl G H B [d] vs) : ∃ v, vs = [v] ∧ RD G H B d v := by
  obtain ⟨v, ws, rfl, r, rfl⟩ := h; exact ⟨v, rfl, r⟩
theorem RDl.two {d e : D} {vs : List V} (h : RDl G H B [d, e] vs) : ∃ v w, vs = [v, w] ∧ RD G H B d v ∧ RD G H B e w := by
  obtain ⟨v, ws, rfl, r, w, ws, rfl, r2, rfl⟩ := h; exact ⟨v, w, rfl, r, r2⟩
theorem DRs.toI : ∀ {ds : List D} {vs : List V} {ns : List Int}, Py.toI ds = some ns → DRs G H B ds vs → vs = ns.map V.int
  | [], _, _, e, h => by cases e; cases h; rfl
  | .int i :: r, _, _, e, ⟨v, ws, e1, h1, h2⟩ => by
    obtain ⟨ns, e2, rfl⟩ := Option.map_eq_some_iff.mp (show (Py.toI r).map (i :: ·) = some _ from e)
    subst e1
    cases h1
    rw [DRs.toI e2 h2]; rfl
  | .non :: _, _, _, e, _ => by cases e
  | .bl _ :: _, _, _, e, _ => by cases e
  | .str _ :: _, _, _, e, _ => by cases e
  | .lst _ :: _, _, _, e, _ => by cases e
  | .tup _ :: _, _, _, e, _ => by cases e
  | .dic _ :: _, _, _, e, _ => by cases e
  | .obj _ _ :: _, _, _, e, _ => by cases e
theorem DRs.toB : ∀ {ds : List D} {vs : List V} {ns : List Bool}, Py.toB ds = some ns → DRs G H B ds vs → vs = ns.map V.bl
  | [], _, _, e, h => by cases e; cases h; rfl
  | .bl i :: r, _, _, e, ⟨v, ws, e1, h1, h2⟩ => by
    obtain ⟨ns, e2, rfl⟩ := Option.map_eq_some_iff.mp (show (Py.toB r).map (i :: ·) = some _ from e)
    subst e1
    cases h1
    rw [DRs.toB e2 h2]; rfl
  | .non :: _, _, _, e, _ => by cases e
  | .int _ :: _, _, _, e, _ => by cases e
  | .str _ :: _, _, _, e, _ => by cases e
  | .lst _ :: _, _, _, e, _ => by cases e
  | .tup _ :: _, _, _, e, _ => by cases e
  | .dic _ :: _, _, _, e, _ => by cases e
  | .obj _ _ :: _, _, _, e, _ => by cases e
theorem DRs.toS : ∀ {ds : List D} {vs : List V} {ns : List (List Nat)}, Py.toS ds = some ns → DRs G H B ds vs → vs = (ns.map ST).map V.str ∧ ∀ x ∈ ns, okS x = true
  | [], _, _, e, h => by cases e; cases h; exact ⟨rfl, by simp⟩
  | .str i :: r, _, _, e, ⟨v, ws, e1, h1, h2⟩ => by
    obtain ⟨ns, e2, rfl⟩ := Option.map_eq_some_iff.mp (show (Py.toS r).map (i :: ·) = some _ from e)
    subst e1
    obtain ⟨rfl, h3⟩ := h1
    obtain ⟨h4, h5⟩ := DRs.toS e2 h2
    rw [h4]
    refine ⟨rfl, fun x hx => ?_⟩
    rcases List.mem_cons.mp hx with rfl | hx
    · exact h3
    · exact h5 x hx
  | .non :: _, _, _, e, _ => by cases e
  | .bl _ :: _, _, _, e, _ => by cases e
  | .int _ :: _, _, _, e, _ => by cases e
  | .lst _ :: _, _, _, e, _ => by cases e
  | .tup _ :: _, _, _, e, _ => by cases e
  | .dic _ :: _, _, _, e, _ => by cases e
  | .obj _ _ :: _, _, _, e, _ => by cases e
theorem DRs.ofI : ∀ ns : List Int, DRs G H B (ns.map .int) (ns.map V.int)
  | [] => rfl
  | _ :: r => ⟨_, _, rfl, rfl, DRs.ofI r⟩
theorem DRs.ofS : ∀ ns : List (List Nat), (∀ x ∈ ns, okS x = true) → DRs G H B (ns.map .str) ((ns.map ST).map V.str)
  | [], _ => rfl
  | x :: r, h => ⟨_, _, rfl, ⟨rfl, h x (by simp)⟩, DRs.ofS r fun y hy => h y (by simp [hy])⟩
end
/-! sorting: the permutation that ascends is one -/
theorem insI_perm (x : Int) : ∀ l : List Int, (insI x l).Perm (x :: l)
  | [] => .refl _
  | y :: r => by
    unfold insI
    split
    · exact .refl _
    · exact ((insI_perm x r).cons y).trans (.swap x y r)
theorem sortI_perm : ∀ l : List Int, (sortI l).Perm l
  | [] => .refl _
  | x :: r => (insI_perm x (sortI r)).trans ((sortI_perm r).cons x)
theorem insI_sorted (x : Int) : ∀ {l : List Int}, l.Pairwise (· ≤ ·) → (insI x l).Pairwise (· ≤ ·)
  | [], _ => by simp [insI]
  | y :: r, h => by
    unfold insI
    rw [List.pairwise_cons] at h
    split
    · rename_i hx
      refine List.pairwise_cons.mpr ⟨fun z hz => ?_, List.pairwise_cons.mpr h⟩
      rcases List.mem_cons.mp hz with rfl | hz
      · exact hx
      · exact Int.le_trans hx (h.1 z hz)
    · rename_i hx
      refine List.pairwise_cons.mpr ⟨fun z hz => ?_, insI_sorted x h.2⟩
      rcases List.mem_cons.mp ((insI_perm x r).mem_iff.mp hz) with rfl | hz
      · omega
      · exact h.1 z hz
theorem sortI_sorted : ∀ l : List Int, (sortI l).Pairwise (· ≤ ·)
  | [] => .nil
  | x :: r => insI_sorted x (sortI_sorted r)
theorem perm_sorted_eq : ∀ {l m : List Int}, l.Perm m → l.Pairwise (· ≤ ·) → m.Pairwise (· ≤ ·) → l = m
  | [], m, h, _, _ => h.nil_eq
  | x :: l, m, h, hl, hm => by
    cases m with
    | nil => exact absurd h.length_eq (by simp)
    | cons y m =>
      rw [List.pairwise_cons] at hl hm
      have e : x = y := by
        have h1 : y ∈ x :: l := h.mem_iff.mpr (by simp)
        have h2 : x ∈ y :: m := h.mem_iff.mp (by simp)
        rcases List.mem_cons.mp h1 with e | h1
        · exact e.symm
        · rcases List.mem_cons.mp h2 with e | h2
          · exact e
          · have := hl.1 y h1
            have := hm.1 x h2
            omega
      subst e
      rw [perm_sorted_eq (h.cons_inv) hl.2 hm.2]
end Py
end SB5
section SB6
set_option autoImplicit false
set_option linter.all false
set_option maxRecDepth 100000
set_option maxHeartbeats 4000000
/-! The evaluator over the hand layer, 6: built-in functions. -/
namespace Py
open PySem L2

theorem maxI_spec {l : List Int} {m : Int} (h : maxI l = some m) : m ∈ l ∧ ∀ y ∈ l, y ≤ m := by
  cases l with
  | nil => cases h
  | cons x r =>
    unfold maxI at h
    have e : m = r.foldl (fun a b => if b > a then b else a) x := (Option.some.inj h).symm
    subst e
    clear h
    have key : ∀ (r : List Int) (x : Int), (r.foldl (fun a b => if b > a then b else a) x ∈ x :: r) ∧ ∀ y ∈ x :: r, y ≤ r.foldl (fun a b => if b > a then b else a) x := by
      intro r
      induction r with
      | nil => intro x; simp
      | cons z r ih =>
        intro x
        rw [List.foldl_cons]
        split
        · rename_i hz
          obtain ⟨h1, h2⟩ := ih z
          refine ⟨List.mem_cons_of_mem _ h1, fun y hy => ?_⟩
          rcases List.mem_cons.mp hy with rfl | hy
          · exact Int.le_trans (Int.le_of_lt hz) (h2 z (by simp))
          · exact h2 y hy
        · rename_i hz
          obtain ⟨h1, h2⟩ := ih x
          refine ⟨?_, fun y hy => ?_⟩
          · rcases List.mem_cons.mp h1 with h | h
            · rw [h]; simp
            · exact List.mem_cons_of_mem _ (List.mem_cons_of_mem _ h)
          · rcases List.mem_cons.mp hy with rfl | hy
            · exact h2 _ (by simp)
            · rcases List.mem_cons.mp hy with rfl | hy
              · exact Int.le_trans (Int.not_lt.mp hz) (h2 x (by simp))
              · exact h2 y (by simp [hy])
    exact key r x
theorem minI_spec {l : List Int} {m : Int} (h : minI l = some m) : m ∈ l ∧ ∀ y ∈ l, m ≤ y := by
  cases l with
  | nil => cases h
  | cons x r =>
    unfold minI at h
    have e : m = r.foldl (fun a b => if b < a then b else a) x := (Option.some.inj h).symm
    subst e
    clear h
    have key : ∀ (r : List Int) (x : Int), (r.foldl (fun a b => if b < a then b else a) x ∈ x :: r) ∧ ∀ y ∈ x :: r, r.foldl (fun a b => if b < a then b else a) x ≤ y := by
      intro r
      induction r with
      | nil => intro x; simp
      | cons z r ih =>
        intro x
        rw [List.foldl_cons]
        split
        · rename_i hz
          obtain ⟨h1, h2⟩ := ih z
          refine ⟨List.mem_cons_of_mem _ h1, fun y hy => ?_⟩
          rcases List.mem_cons.mp hy with rfl | hy
          · exact Int.le_trans (h2 z (by simp)) (Int.le_of_lt hz)
          · exact h2 y hy
        · rename_i hz
          obtain ⟨h1, h2⟩ := ih x
          refine ⟨?_, fun y hy => ?_⟩
          · rcases List.mem_cons.mp h1 with h | h
            · rw [h]; simp
            · exact List.mem_cons_of_mem _ (List.mem_cons_of_mem _ h)
          · rcases List.mem_cons.mp hy with rfl | hy
            · exact h2 _ (by simp)
            · rcases List.mem_cons.mp hy with rfl | hy
              · exact Int.le_trans (h2 x (by simp)) (Int.not_lt.mp hz)
              · exact h2 y (by simp [hy])
    exact key r x
section
variable {X : Cx}
def rSumT (K : PySem.W.Frag) : List V → Hp → VK → Prop := fun vs H Q => ∃ (a : Addr) (ns : List Int), vs = [V.ref a] ∧ SqT K H a (ns.map V.int) ∧ Q (.int ns.sum) H
theorem cr_sumT (hc : X.calm = true) : CallR X (.builtin "sum") (rSumT X.K) := by
  intro pins s σ H vs us Q I r h
  obtain ⟨a, ns, rfl, hs, q⟩ := h
  obtain ⟨its, rv, hl, _⟩ := I.tuple hs
  rw [Vals.ref1 r]
  have hi := rv.ints
  obtain ⟨xs, hx⟩ := hi.allInts.items
  have hn : numsOf its.toArray.toList = ns := by rw [show its.toArray.toList = its from rfl, hi.numsOf]
  have hl2 : s.heap.IsTuple a its.toArray := hl
  rw [hx] at hl2 hn
  rw [nums_intItems] at hn
  refine PySem.W.ktm_sumG (I.ok.hd hc) hl2 fun h' tk t' hk => ⟨.int _, H, I.kept hk, ?_, q⟩
  refine ⟨t', ?_⟩
  rw [preSum_eq, List.take_of_length_le (by simp), hn]
def rChars (c : List V → HO) : List V → Hp → VK → Prop := fun vs H Q => ∃ z : List Nat, vs = [.str (ST z)] ∧ okS z = true ∧ ∀ p, H p = none → Q (.ref p) (upd H p (c (z.map fun c => .str (ST [c]))))
theorem vals_chars : ∀ (z : List Nat) (l : List Value), l.length = z.length → (∀ (j : Nat) (v : Value), l[j]? = some v → ∃ (c : Nat) (u : Tok), z[j]? = some c ∧ v = Value.str ⟨#[c]⟩ u) → Vals (z.map fun c => V.str (ST [c])) l
  | [], [], _, _ => .nil
  | [], _ :: _, h, _ => by cases h
  | _ :: _, [], h, _ => by cases h
  | c :: z, v :: l, h, k => by
    refine Paired.cons ?_ (vals_chars z l (by simpa using h) fun j w hw => ?_)
    · obtain ⟨c', u, h1, h2⟩ := k 0 v rfl
      cases h1
      exact ⟨u, h2⟩
    · obtain ⟨c', u, h1, h2⟩ := k (j + 1) w (by simpa using hw)
      exact ⟨c', u, by simpa using h1, h2⟩
theorem chars_of {z : List Nat} {acc : Array Value} (h : ItemsOf (SignAt (ST z)) acc (ST z).cps.size) : Vals (z.map fun c => V.str (ST [c])) acc.toList := by
  refine vals_chars z acc.toList ?_ fun j v hv => ?_
  · rw [Array.length_toList, h.1]; simp [ST]
  · obtain ⟨c, u, h1, h2⟩ := h.2 j v (by simpa using hv)
    exact ⟨c, u, by simpa [ST] using h1, h2⟩
theorem ST_size (z : List Nat) : (ST z).cps.size = z.length := by simp [ST]
theorem cr_listS (hc : X.calm = true) : CallR X (.type "list") (rChars .lst) := by
  intro pins s σ H vs us Q I r h
  obtain ⟨z, rfl, hz, q⟩ := h
  cases r with
  | cons r1 rr =>
    cases rr
    obtain ⟨t, rfl⟩ := r1
    have hn : (ST z).cps.size ≤ sizeLine := by rw [ST_size, sizeSZ]; exact (okS_iff.mp hz).1
    refine call_list_str (I.ok.hd hc) (ST z) t (fun h' tk acc c' hk hS hi => ?_) hn
    have va := chars_of hi
    refine ⟨.ref s.heap.objs.size, _, I.laid (o := .lst (z.map fun c => V.str (ST [c]))) hk (Nat.le_refl _) ⟨?_, acc.toList, c', va, by simpa using hS⟩, rfl, q _ (I.hok.fresh (Nat.le_refl _))⟩
    rw [List.length_map, sizeSZ]
    exact (okS_iff.mp hz).1
theorem cr_tupleS (hc : X.calm = true) : CallR X (.type "tuple") (rChars .tup) := by
  intro pins s σ H vs us Q I r h
  obtain ⟨z, rfl, hz, q⟩ := h
  cases r with
  | cons r1 rr =>
    cases rr
    obtain ⟨t, rfl⟩ := r1
    have hn : (ST z).cps.size ≤ sizeLine := by rw [ST_size, sizeSZ]; exact (okS_iff.mp hz).1
    refine call_tuple_str (I.ok.hd hc) (ST z) t (fun h' tk acc hk hi => ?_) hn
    have va := chars_of hi
    have I1 : Inv X pins σ H { s with heap := h', toks := tk } := I.kept hk
    refine ⟨.ref h'.objs.size, _, I1.laid (o := .tup (z.map fun c => V.str (ST [c]))) (t' := tk) (fun _ _ e => Heap.get?_push_of_some _ e) (Nat.le_refl _) ⟨?_, acc.toList, va, _, Heap.get?_push_size _ rfl, rfl, 0, by simp⟩, rfl, q _ (I1.hok.fresh (Nat.le_refl h'.objs.size))⟩
    rw [List.length_map, sizeSZ]
    exact (okS_iff.mp hz).1
def rIntS : List V → Hp → VK → Prop := fun vs H Q => ∃ c : Nat, vs = [.str (ST [c])] ∧ 48 ≤ c ∧ c ≤ 57 ∧ Q (.int ((c : Int) - 48)) H
theorem dig_text : ∀ k : Nat, k < 10 → PySem.intText? (ST [48 + k]) = some (k : Int) := by decide +kernel
theorem cr_intS : CallR X (.type "int") rIntS := by
  intro pins s σ H vs us Q I r h
  obtain ⟨c, rfl, h1, h2, q⟩ := h
  refine call_int_str pins s σ H _ us Q I r ⟨ST [c], (c : Int) - 48, rfl, ?_, by rw [ST_length]; simp, q⟩
  have := dig_text (c - 48) (by omega)
  rw [show 48 + (c - 48) = c by omega] at this
  rw [this]
  congr 1
  omega
theorem strInt_eq {i : Int} (h : 0 ≤ i) : (toString i : Str) = ST (strInt i) := by
  have e : ((i.natAbs : Nat) : Int) = i := by omega
  have := TL.tl_num i.natAbs
  rw [e] at this
  have e2 : TL.numL i.natAbs = strInt i := rfl
  rw [e2] at this
  generalize Str.ofString (toString i) = u at this
  cases u with
  | mk cps =>
    simp only [TL.tl] at this
    simp [ST, ← this]
theorem numL_len : ∀ (k n : Nat), n < 2 ^ k → (TL.numL n).length ≤ k + 1
  | k, n, h => by
    by_cases h10 : n < 10
    · rw [TL.numL_lt h10]; simp
    · rw [TL.numL_step (by omega)]
      cases k with
      | zero => simp at h; omega
      | succ k =>
        have := numL_len k (n / 10) (by rw [Nat.pow_succ] at h; omega)
        simp only [List.length_append, List.length_cons, List.length_nil]
        omega
theorem okS_strInt {i : Int} (h : i.natAbs.log2 < 1900) : okS (strInt i) = true := by
  rw [okS_iff]
  have e : strInt i = TL.numL i.natAbs := rfl
  rw [e]
  refine ⟨?_, fun c hc => ?_⟩
  · have h0 : i.natAbs < 2 ^ 1900 := by
      by_cases z : i.natAbs = 0
      · rw [z]; exact Nat.two_pow_pos _
      · exact (Nat.log2_lt z).mp h
    have := numL_len 1900 i.natAbs h0
    unfold SZ
    omega
  · refine Nat.lt_of_not_le fun z => ?_
    exact TL.numL_free (n := i.natAbs) (s := c) (.inr (by omega)) hc
theorem ltC : ∀ a b : List Nat, PySem.Spec.ltCps a b = decide (a < b)
  | [], [] => by simp [PySem.Spec.ltCps]
  | [], _ :: _ => by simp [PySem.Spec.ltCps]
  | _ :: _, [] => by simp [PySem.Spec.ltCps]
  | a :: r, b :: t => by
    simp only [PySem.Spec.ltCps, ltC r t, List.cons_lt_cons_iff]
    by_cases h : a < b <;> by_cases h2 : a = b <;> simp [h, h2]
theorem insS_perm (x : List Nat) : ∀ l : List (List Nat), (insS x l).Perm (x :: l)
  | [] => .refl _
  | y :: r => by
    unfold insS
    split
    · exact ((insS_perm x r).cons y).trans (.swap x y r)
    · exact .refl _
theorem sortS_perm : ∀ l : List (List Nat), (sortS l).Perm l
  | [] => .refl _
  | x :: r => (insS_perm x (sortS r)).trans ((sortS_perm r).cons x)
theorem insS_sorted (x : List Nat) : ∀ {l : List (List Nat)}, l.Pairwise (· ≤ ·) → (insS x l).Pairwise (· ≤ ·)
  | [], _ => by simp [insS]
  | y :: r, h => by
    unfold insS
    rw [List.pairwise_cons] at h
    split
    · rename_i hx
      refine List.pairwise_cons.mpr ⟨fun z hz => ?_, insS_sorted x h.2⟩
      rcases List.mem_cons.mp ((insS_perm x r).mem_iff.mp hz) with rfl | hz
      · exact (List.le_total y z).elim id fun q => absurd hx q
      · exact h.1 z hz
    · rename_i hx
      refine List.pairwise_cons.mpr ⟨fun z hz => ?_, List.pairwise_cons.mpr h⟩
      rcases List.mem_cons.mp hz with rfl | hz
      · exact hx
      · exact List.le_trans hx (h.1 z hz)
theorem sortS_sorted : ∀ l : List (List Nat), (sortS l).Pairwise (· ≤ ·)
  | [] => .nil
  | x :: r => insS_sorted x (sortS_sorted r)
theorem permS_eq : ∀ {l m : List (List Nat)}, l.Perm m → l.Pairwise (· ≤ ·) → m.Pairwise (· ≤ ·) → l = m
  | [], m, h, _, _ => h.nil_eq
  | x :: l, m, h, hl, hm => by
    cases m with
    | nil => exact absurd h.length_eq (by simp)
    | cons y m =>
      rw [List.pairwise_cons] at hl hm
      have e : x = y := by
        have h1 : y ∈ x :: l := h.mem_iff.mpr (by simp)
        have h2 : x ∈ y :: m := h.mem_iff.mp (by simp)
        rcases List.mem_cons.mp h1 with e | h1
        · exact e.symm
        · rcases List.mem_cons.mp h2 with e | h2
          · exact e
          · exact List.le_antisymm (hl.1 y h1) (hm.1 x h2)
      subst e
      rw [permS_eq (h.cons_inv) hl.2 hm.2]
theorem rising_pair : ∀ (l : List Str) (p : Str), PyProof.Rows.risingS p l = true → ((p :: l).map fun x => x.cps.toList).Pairwise (· ≤ ·)
  | [], p, _ => by simp
  | x :: r, p, h => by
    simp only [PyProof.Rows.risingS, Bool.and_eq_true, Bool.not_eq_true', ltC, decide_eq_false_iff_not] at h
    have ih := rising_pair r x h.2
    rw [List.map_cons, List.map_cons, List.pairwise_cons]
    rw [List.map_cons] at ih
    refine ⟨fun z hz => ?_, ih⟩
    have hpx : p.cps.toList ≤ x.cps.toList := h.1
    rcases List.mem_cons.mp hz with rfl | hz
    · exact hpx
    · exact List.le_trans hpx ((List.pairwise_cons.mp ih).1 z hz)
theorem ST_back (x : Str) : ST x.cps.toList = x := by cases x with | mk cps => simp [ST]
theorem sortS_eq {l : List (List Nat)} {ys : List Str} (hp : ys.Perm (l.map ST)) (hs : PyProof.Rows.sortedS ys = true) : ys = (sortS l).map ST := by
  have h1 : (ys.map fun x => x.cps.toList).Pairwise (· ≤ ·) := by
    cases ys with
    | nil => exact .nil
    | cons x r => exact rising_pair r x hs
  have h2 : (ys.map fun x => x.cps.toList).Perm l := by
    have := hp.map fun x : Str => x.cps.toList
    rw [List.map_map] at this
    have e : ((fun x : Str => x.cps.toList) ∘ ST) = id := by funext z; simp [ST]
    rw [e, List.map_id] at this
    exact this
  have e := permS_eq (h2.trans (sortS_perm l).symm) h1 (sortS_sorted l)
  rw [← e, List.map_map]
  have e2 : (ST ∘ fun x : Str => x.cps.toList) = id := by funext z; exact ST_back z
  rw [e2, List.map_id]
theorem sortS_mem {l : List (List Nat)} {x : List Nat} (h : x ∈ sortS l) : x ∈ l := (sortS_perm l).mem_iff.mp h
theorem DRs.chars {G : Gx} {H : Hp} {B : Bar} : ∀ {z : List Nat}, okS z = true → DRs G H B (z.map fun c => .str [c]) (z.map fun c => .str (ST [c]))
  | [], _ => rfl
  | c :: r, h => by
    rw [okS_iff] at h
    refine ⟨_, _, rfl, ⟨rfl, okS_iff.mpr ⟨by simp [SZ], fun d hd => ?_⟩⟩, DRs.chars (okS_iff.mpr ⟨?_, fun d hd => h.2 d (by simp [hd])⟩)⟩
    · have : d = c := by simpa using hd
      subst this
      exact h.2 d (by simp)
    · have := h.1
      simp only [List.length_cons] at this
      omega
theorem bi_ok (b : Bi) (hc : X.calm = true) (hj : b ≠ .join) (hj2 : b ≠ .sortedSet) (hj3 : b ≠ .lenSet) : ∃ r, BiOk X b r := by
  cases b with
  | sortedSet => exact absurd rfl hj2
  | lenSet => exact absurd rfl hj3
  | len =>
    refine ⟨_, CallR.or (call_len (X := X)) (call_lenD (X := X)), ?_⟩
    intro G fc fm ex σ s H vs ds rv Q hK F h e k
    unfold biOp at e
    split at e
    all_goals first | (rename_i heq; cases heq; done) | skip
    all_goals first | cases e; done | skip
    all_goals (cases e; obtain ⟨v, rfl, r⟩ := h.one)
    · obtain ⟨rfl, hs⟩ := r
      exact .inl ⟨_, _, rfl, ⟨by rw [ST_length, sizeSZ]; exact (okS_iff.mp hs).1, rfl⟩, k _ _ .refl F (by rw [ST_length]; rfl)⟩
    · obtain ⟨l, ws, rfl, q, t⟩ := r
      rw [hK] at q
      exact .inl ⟨_, _, rfl, .inl ⟨ws, q, rfl⟩, k _ _ .refl F (by rw [t.length]; rfl)⟩
    · obtain ⟨l, ws, rfl, q, t⟩ := r
      have q := q.sq
      rw [hK] at q
      exact .inl ⟨_, _, rfl, .inr ⟨ws, q, rfl⟩, k _ _ .refl F (by rw [t.length]; rfl)⟩
    · obtain ⟨l, ws, rfl, q, t⟩ := r
      have hl : ∀ {kvs : List (D × D)} {kws : List (Key × V)}, KRs G H (Br fm ex s σ) kvs kws → kvs.length = kws.length := by
        intro kvs
        induction kvs with
        | nil => intro kws h; cases h; rfl
        | cons p r ih => intro kws h; obtain ⟨_, _, _, e, _, _, t⟩ := h; subst e; simp [ih t]
      exact .inr ⟨l, ws, rfl, q, k _ _ .refl F (by rw [hl t]; rfl)⟩
  | abs =>
    refine ⟨_, call_abs (X := X), ?_⟩
    intro G fc fm ex σ s H vs ds rv Q hK F h e k
    unfold biOp at e
    split at e
    all_goals first | (rename_i heq; cases heq; done) | skip
    all_goals first | cases e; done | skip
    cases e; obtain ⟨v, rfl, r⟩ := h.one; cases r
    exact ⟨_, rfl, k _ _ .refl F rfl⟩
  | max2 =>
    refine ⟨_, call_max2 hc, ?_⟩
    intro G fc fm ex σ s H vs ds rv Q hK F h e k
    unfold biOp at e
    split at e
    all_goals first | (rename_i heq; cases heq; done) | skip
    all_goals first | cases e; done | skip
    cases e; obtain ⟨v, w, rfl, r, r2⟩ := h.two; cases r; cases r2
    exact ⟨_, _, rfl, k _ _ .refl F rfl⟩
  | min2 =>
    refine ⟨_, call_min2 hc, ?_⟩
    intro G fc fm ex σ s H vs ds rv Q hK F h e k
    unfold biOp at e
    split at e
    all_goals first | (rename_i heq; cases heq; done) | skip
    all_goals first | cases e; done | skip
    cases e; obtain ⟨v, w, rfl, r, r2⟩ := h.two; cases r; cases r2
    exact ⟨_, _, rfl, k _ _ .refl F rfl⟩
  | int =>
    refine ⟨_, CallR.or (call_int1 (X := X)) (cr_intS (X := X)), ?_⟩
    intro G fc fm ex σ s H vs ds rv Q hK F h e k
    unfold biOp at e
    split at e
    all_goals first | (rename_i heq; cases heq; done) | skip
    all_goals first | cases e; done | skip
    · cases e; obtain ⟨v, rfl, r⟩ := h.one; cases r
      exact .inl (.inl ⟨_, rfl, k _ _ .refl F rfl⟩)
    · cases e; obtain ⟨v, rfl, r⟩ := h.one; cases r
      exact .inl (.inr ⟨_, rfl, k _ _ .refl F rfl⟩)
    · obtain ⟨i, e1, rfl⟩ := Option.map_eq_some_iff.mp e
      obtain ⟨v, rfl, r⟩ := h.one
      obtain ⟨rfl, hs⟩ := r
      unfold intStr at e1
      split at e1
      · split at e1
        · rename_i hz
          cases e1
          exact .inr ⟨_, rfl, hz.1, hz.2, k _ _ .refl F rfl⟩
        · cases e1
      · cases e1
  | str =>
    refine ⟨_, call_str_int (X := X), ?_⟩
    intro G fc fm ex σ s H vs ds rv Q hK F h e k
    unfold biOp at e
    split at e
    all_goals first | (rename_i heq; cases heq; done) | skip
    all_goals first | cases e; done | skip
    split at e
    · rename_i hz
      cases e; obtain ⟨v, rfl, r⟩ := h.one; cases r
      exact ⟨_, rfl, by omega, k _ _ .refl F ⟨by rw [strInt_eq hz.1], okS_strInt hz.2⟩⟩
    · cases e
  | sum =>
    refine ⟨_, CallR.or (cr_sum hc) (cr_sumT hc), ?_⟩
    intro G fc fm ex σ s H vs ds rv Q hK F h e k
    unfold biOp at e
    split at e
    all_goals first | (rename_i heq; cases heq; done) | skip
    all_goals first | cases e; done | skip
    all_goals (obtain ⟨ns, e1, rfl⟩ := Option.map_eq_some_iff.mp e; obtain ⟨v, rfl, r⟩ := h.one; obtain ⟨l, ws, rfl, q, t⟩ := r; have tt := t.toI e1)
    · subst tt
      rw [hK] at q
      exact .inl ⟨l, ns, rfl, q, k _ _ .refl F rfl⟩
    · subst tt
      have q := q.sq
      rw [hK] at q
      exact .inr ⟨l, ns, rfl, q, k _ _ .refl F rfl⟩
  | max =>
    refine ⟨_, cr_max hc, ?_⟩
    intro G fc fm ex σ s H vs ds rv Q hK F h e k
    unfold biOp at e
    split at e
    all_goals first | (rename_i heq; cases heq; done) | skip
    all_goals first | cases e; done | skip
    obtain ⟨m, e1, rfl⟩ := Option.map_eq_some_iff.mp e
    obtain ⟨ns, e2, em⟩ := Option.bind_eq_some_iff.mp e1
    obtain ⟨v, rfl, r⟩ := h.one
    obtain ⟨l, ws, rfl, q, t⟩ := r
    have tt := t.toI e2
    subst tt
    rw [hK] at q
    obtain ⟨h1, h2⟩ := maxI_spec em
    refine ⟨l, ns, rfl, q, List.length_pos_of_mem h1, fun m' hm hle => ?_⟩
    have : m' = m := by have := hle m h1; have := h2 m' hm; omega
    subst this
    exact k _ _ .refl F rfl
  | min =>
    refine ⟨_, cr_min hc, ?_⟩
    intro G fc fm ex σ s H vs ds rv Q hK F h e k
    unfold biOp at e
    split at e
    all_goals first | (rename_i heq; cases heq; done) | skip
    all_goals first | cases e; done | skip
    obtain ⟨m, e1, rfl⟩ := Option.map_eq_some_iff.mp e
    obtain ⟨ns, e2, em⟩ := Option.bind_eq_some_iff.mp e1
    obtain ⟨v, rfl, r⟩ := h.one
    obtain ⟨l, ws, rfl, q, t⟩ := r
    have tt := t.toI e2
    subst tt
    rw [hK] at q
    obtain ⟨h1, h2⟩ := minI_spec em
    refine ⟨l, ns, rfl, q, List.length_pos_of_mem h1, fun m' hm hle => ?_⟩
    have : m' = m := by have := hle m h1; have := h2 m' hm; omega
    subst this
    exact k _ _ .refl F rfl
  | any =>
    refine ⟨_, cr_any hc, ?_⟩
    intro G fc fm ex σ s H vs ds rv Q hK F h e k
    unfold biOp at e
    split at e
    all_goals first | (rename_i heq; cases heq; done) | skip
    all_goals first | cases e; done | skip
    obtain ⟨ns, e1, rfl⟩ := Option.map_eq_some_iff.mp e
    obtain ⟨v, rfl, r⟩ := h.one
    obtain ⟨l, ws, rfl, q, t⟩ := r
    have tt := t.toB e1
    subst tt
    rw [hK] at q
    exact ⟨l, ns, rfl, q, k _ _ .refl F rfl⟩
  | all =>
    refine ⟨_, cr_all hc, ?_⟩
    intro G fc fm ex σ s H vs ds rv Q hK F h e k
    unfold biOp at e
    split at e
    all_goals first | (rename_i heq; cases heq; done) | skip
    all_goals first | cases e; done | skip
    obtain ⟨ns, e1, rfl⟩ := Option.map_eq_some_iff.mp e
    obtain ⟨v, rfl, r⟩ := h.one
    obtain ⟨l, ws, rfl, q, t⟩ := r
    have tt := t.toB e1
    subst tt
    rw [hK] at q
    exact ⟨l, ns, rfl, q, k _ _ .refl F rfl⟩
  | sorted =>
    refine ⟨_, CallR.or (cr_sortedI (X := X)) (cr_sortedS (X := X)), ?_⟩
    intro G fc fm ex σ s H vs ds rv Q hK F h e k
    unfold biOp at e
    split at e
    all_goals first | (rename_i heq; cases heq; done) | skip
    all_goals first | cases e; done | skip
    obtain ⟨v, rfl, r⟩ := h.one
    obtain ⟨l, ws, rfl, q, t⟩ := r
    rw [hK] at q
    split at e
    · rename_i ns e2
      cases e
      have tt := t.toI e2
      subst tt
      refine .inl ⟨l, ns, rfl, q, fun ns' p hp hs hn => ?_⟩
      rw [perm_sorted_eq (hp.trans (sortI_perm ns).symm) hs (sortI_sorted ns)]
      exact k _ _ (.alloc hn) (F.alloc hn) (.newL F hn (DRs.ofI _))
    · split at e
      · rename_i ss e2
        split at e
        · rename_i hz
          cases e
          obtain ⟨tt, hok⟩ := t.toS e2
          subst tt
          refine .inr ⟨l, ss.map ST, rfl, q, by rw [List.length_map]; exact hz, fun ys p hp hs hn => ?_⟩
          rw [sortS_eq hp hs]
          exact k _ _ (.alloc hn) (F.alloc hn) (.newL F hn (DRs.ofS _ fun x hx => hok x (sortS_mem hx)))
        · cases e
      · cases e
  | list =>
    refine ⟨_, CallR.or (call_list_of (X := X)) (cr_listS (X := X) hc), ?_⟩
    intro G fc fm ex σ s H vs ds rv Q hK F h e k
    unfold biOp at e
    split at e
    all_goals first | (rename_i heq; cases heq; done) | skip
    all_goals first | cases e; done | skip
    all_goals (cases e; obtain ⟨v, rfl, r⟩ := h.one)
    · obtain ⟨l, ws, rfl, q, t⟩ := r
      rw [hK] at q
      exact .inl ⟨l, ws, rfl, .inl q, fun p hp => k _ _ (.alloc hp) (F.alloc hp) (.newL F hp t)⟩
    · obtain ⟨l, ws, rfl, q, t⟩ := r
      have q := q.sq
      rw [hK] at q
      exact .inl ⟨l, ws, rfl, .inr q, fun p hp => k _ _ (.alloc hp) (F.alloc hp) (.newL F hp t)⟩
    · obtain ⟨rfl, hs⟩ := r
      exact .inr ⟨_, rfl, hs, fun p hp => k _ _ (.alloc hp) (F.alloc hp) (.newL F hp (DRs.chars hs))⟩
  | tuple =>
    refine ⟨_, CallR.or (call_tuple_of (X := X)) (cr_tupleS (X := X) hc), ?_⟩
    intro G fc fm ex σ s H vs ds rv Q hK F h e k
    unfold biOp at e
    split at e
    all_goals first | (rename_i heq; cases heq; done) | skip
    all_goals first | cases e; done | skip
    all_goals (cases e; obtain ⟨v, rfl, r⟩ := h.one)
    · obtain ⟨l, ws, rfl, q, t⟩ := r
      rw [hK] at q
      exact .inl ⟨l, ws, rfl, .inl ⟨q, fun p hp => k _ _ (.alloc hp) (F.alloc hp) (.newT F hp t)⟩⟩
    · obtain ⟨l, ws, rfl, q, t⟩ := r
      have q2 := q.sq
      rw [hK] at q2
      exact .inl ⟨l, ws, rfl, .inr ⟨q2, k _ _ .refl F ⟨l, ws, rfl, q, t⟩⟩⟩
    · obtain ⟨rfl, hs⟩ := r
      exact .inr ⟨_, rfl, hs, fun p hp => k _ _ (.alloc hp) (F.alloc hp) (.newT F hp (DRs.chars hs))⟩
  | join => exact absurd rfl hj
end
end Py
end SB6
section SB7
set_option autoImplicit false
set_option linter.all false
set_option maxRecDepth 100000
set_option maxHeartbeats 4000000
/-! The evaluator over the hand layer, 7: expressions. -/
namespace Py
open PySem L2

/-! ### readings -/
def tI (G : Gx) (run : Run) (W : WX) (e : E) : TE := fun σ H Q => ∃ fc fm ex s, FR G fc fm ex σ s H ∧ Pst G fc fm ex σ W (RE G fc fm ex σ) s H (evE G.P run e s) Q
/-- an expression's truth -/
def evT (P : Prog) (run : Run) (e : E) (s : S) : Out Bool := (evE P run e s).bind fun x s1 => Out.of ((rdat s1 x).bind truthy) s1
abbrev RB : S → Hp → Bool → Bool → Prop := fun _ _ a b => a = b
def tT (G : Gx) (run : Run) (W : WX) (e : E) : TT := fun σ H Q => ∃ fc fm ex s, FR G fc fm ex σ s H ∧ Pst G fc fm ex σ W RB s H (evT G.P run e s) Q
/-- waiting values -/
def RL (G : Gx) (fc : Fc) (fm : List Addr) (ex : Bar) (σ : L2.St) : S → Hp → List RV → List V → Prop
  | _, _, [], vs => vs = []
  | s, H, r :: rs, vs => ∃ v ws, vs = v :: ws ∧ wk r = r ∧ RR G fc fm ex σ s H r v ∧ RL G fc fm ex σ s H rs ws
def tA (G : Gx) (run : Run) (W : WX) (es : List E) : TA := fun σ H Q => ∃ fc fm ex s, FR G fc fm ex σ s H ∧ Pst G fc fm ex σ W (RL G fc fm ex σ) s H (evEs G.P run es s) Q
abbrev RX (G : Gx) (fm : List Addr) (ex : Bar) (σ : L2.St) : S → Hp → List D → List V → Prop := fun s H ds vs => DRs G H (Br fm ex s σ) ds vs
def tX (G : Gx) (run : Run) (W : WX) (es : List E) : TA := fun σ H Q => ∃ fc fm ex s, FR G fc fm ex σ s H ∧ Pst G fc fm ex σ W (RX G fm ex σ) s H (evXs G.P run es s) Q
theorem PE.imp {X : Cx} {e : Expr} {t t' : TE} (h : PE X e t) (f : ∀ σ H Q, t' σ H Q → t σ H Q) : PE X e t' := ⟨fun pins s σ H Q I q => h.run pins s σ H Q I (f σ H Q q)⟩
theorem PT.imp {X : Cx} {e : Expr} {t t' : TT} (h : PT X e t) (f : ∀ σ H Q, t' σ H Q → t σ H Q) : PT X e t' := ⟨fun pins s σ H Q I q => h.run pins s σ H Q I (f σ H Q q)⟩
theorem PA.imp {X : Cx} {e : List Expr} {t t' : TA} (h : PA X e t) (f : ∀ σ H Q, t' σ H Q → t σ H Q) : PA X e t' := ⟨fun pos pins s σ H Q I q => h.run pos pins s σ H Q I (f σ H Q q)⟩

section
variable {G : Gx} {fc : Fc} {fm : List Addr} {ex : Bar} {σ : L2.St} {s s1 : S} {H H1 : Hp} {W : WX} {run : Run} {X : Cx} {a b c : Expr} {a' b' c' : E} {pos : Pos}

theorem RR.of_wk {r : RV} {v : V} (e : Py.wk r = r) (h : RR G fc fm ex σ s H r v) (st : Stp fm ex σ s H s1 H1) : RR G fc fm ex σ s1 H1 r v := by
  rw [← e] at h ⊢
  exact h.stp st
theorem wk_wk (r : RV) : wk (wk r) = wk r := by cases r <;> rfl
theorem RL.stp (st : Stp fm ex σ s H s1 H1) : ∀ {rs : List RV} {vs : List V}, RL G fc fm ex σ s H rs vs → RL G fc fm ex σ s1 H1 rs vs
  | [], _, h => h
  | r :: rs, _, ⟨v, ws, e, k, h, t⟩ => ⟨v, ws, e, k, h.of_wk k st, RL.stp st t⟩
theorem RL.length : ∀ {rs : List RV} {vs : List V}, RL G fc fm ex σ s H rs vs → rs.length = vs.length
  | [], _, h => by cases h; rfl
  | _ :: _, _, ⟨_, _, e, _, _, t⟩ => by subst e; simp [RL.length t]
theorem RL.data (F : FR G fc fm ex σ s H) : ∀ {rs : List RV} {vs : List V} {ds : List D}, RL G fc fm ex σ s H rs vs → rdats s rs = some ds → RDl G H (Br fm ex s σ) ds vs
  | [], _, _, h, e => by cases h; cases e; rfl
  | r :: rs, _, _, ⟨v, ws, e1, k, h, t⟩, e => by
    obtain ⟨x, h1, h2⟩ := Option.bind_eq_some_iff.mp (show (rdat s r).bind (fun x => (rdats s rs).map fun xs => x :: xs) = some _ from e)
    obtain ⟨xs, h3, rfl⟩ := Option.map_eq_some_iff.mp h2
    exact ⟨v, ws, e1, h.data F h1, RL.data F t h3⟩

/-! ### names, constants -/
theorem e_loc {i : Nat} {x : Str} (h : PE X (.Name x pos) (tVar i)) : PE X (.Name x pos) (tI G run W (.loc i)) := by
  refine PE.imp h fun σ H Q h => ?_
  obtain ⟨fc, fm, ex, s, F, p⟩ := h
  simp only [evE] at p
  have q := F.slots i
  unfold locV at p
  cases es : s.get i with
  | non => rw [es] at p; exact p.elim
  | rng xs => rw [es] at p; exact p.elim
  | itr xs => rw [es] at p; exact p.elim
  | pub d =>
    rw [es] at p q
    obtain ⟨v, e, r⟩ := q
    exact ⟨v, e, p.ok F r⟩
  | own d =>
    rw [es] at p q
    obtain ⟨v, e, r⟩ := q
    exact ⟨_, e, p.ok F (b := .ref v) e⟩
  | lent d =>
    rw [es] at p q
    obtain ⟨v, e, r⟩ := q
    exact ⟨_, e, p.ok F (b := .ref v) e⟩
  | cell k =>
    rw [es] at p q
    obtain ⟨v, e, r⟩ := q
    exact ⟨_, r, p.ok F (b := .ref v) ⟨v, e, rfl⟩⟩
  | new c fs =>
    rw [es] at p q
    obtain ⟨v, _, _, _, e, r⟩ := q
    exact ⟨_, e, p.ok F (b := .ref v) e⟩
  | exc c fs =>
    rw [es] at p q
    obtain ⟨v, e, r⟩ := q
    exact ⟨_, e, p.ok F (b := .ref v) e⟩
/-- a value that the text writes -/
def conV : D → Option V
  | .non => some .non
  | .bl b => some (.bl b)
  | .int i => some (.int i)
  | .str s => if okS s then some (.str (ST s)) else none
  | _ => none
theorem conV_DR {d : D} {v : V} {B : Bar} (h : conV d = some v) : DR G H B d v := by
  cases d <;> first | cases h; done | skip
  all_goals first | (cases h; rfl) | skip
  simp only [conV] at h
  split at h
  · rename_i hs
    cases h
    exact ⟨rfl, hs⟩
  · cases h
theorem e_con {e : Expr} {d : D} {v : V} (hv : conV d = some v) (h : PE X e (tC v)) : PE X e (tI G run W (.con d)) := by
  refine PE.imp h fun σ H Q h => ?_
  obtain ⟨fc, fm, ex, s, F, p⟩ := h
  simp only [evE] at p
  exact p.ok F (conV_DR hv)
/-! ### operators -/
theorem e_bin {op : Operator} (hK : X.K = G.K) (ha : PE X a (tI G run W a')) (hb : PE X b (tI G run W b')) : PE X (.BinOp a op b pos) (tI G run W (.bin op a' b')) := by
  obtain ⟨r, h1, h2⟩ := bin_ok (X := X) op
  refine PE.imp (pe_op h1 ha hb) fun σ H Q h => ?_
  obtain ⟨fc, fm, ex, s, F, p⟩ := h
  simp only [evE] at p
  refine ⟨fc, fm, ex, s, F, p.bind.imp fun v H1 ⟨ra, s1, _, st1, F1, r1, p1⟩ => ⟨fc, fm, ex, s1, F1, p1.bind.imp fun u H2 ⟨rb, s2, _, st2, F2, r2, p2⟩ => ?_⟩⟩
  obtain ⟨rv, e, k⟩ := p2.of
  obtain ⟨x, e1, e⟩ := Option.bind_eq_some_iff.mp e
  obtain ⟨y, e2, e⟩ := Option.bind_eq_some_iff.mp e
  exact h2 G fc fm ex σ s2 H2 v u x y rv Q hK.symm F2 ((r1.wk.stp st2).rd F2 e1) (r2.data F2 e2) e fun v' H' st F' r' => k v' H' st F' r'
theorem un_truthy {u : D} {d : D} (e : unop .Not u = some d) : ∃ k, truthy u = some k ∧ d = .bl (!k) := by
  cases u <;> (simp only [unop] at e; obtain ⟨k, h1, h2⟩ := Option.map_eq_some_iff.mp e; exact ⟨k, h1, h2.symm⟩)
theorem e_un {op : UnaryOp} (hu : op ≠ .UAdd) (hK : X.K = G.K) (ha : PE X a (tI G run W a')) : PE X (.UnaryOp op a pos) (tI G run W (.un op a')) := by
  cases op with
  | USub =>
    refine PE.imp (pe_un un_neg ha) fun σ H Q h => ?_
    obtain ⟨fc, fm, ex, s, F, p⟩ := h
    simp only [evE] at p
    refine ⟨fc, fm, ex, s, F, p.bind.imp fun v H1 ⟨ra, s1, _, st1, F1, r1, p1⟩ => ?_⟩
    obtain ⟨rv, e, k⟩ := p1.of
    obtain ⟨x, e1, e⟩ := Option.bind_eq_some_iff.mp e
    obtain ⟨y, e2, rfl⟩ := Option.map_eq_some_iff.mp e
    have d1 := r1.data F1 e1
    unfold unop at e2
    split at e2 <;> first | cases e2; done | skip
    all_goals first | (rename_i heq; cases heq; done) | skip
    cases e2; cases d1
    exact ⟨_, rfl, k _ _ .refl F1 rfl⟩
  | Invert =>
    refine PE.imp (pe_un un_inv ha) fun σ H Q h => ?_
    obtain ⟨fc, fm, ex, s, F, p⟩ := h
    simp only [evE] at p
    refine ⟨fc, fm, ex, s, F, p.bind.imp fun v H1 ⟨ra, s1, _, st1, F1, r1, p1⟩ => ?_⟩
    obtain ⟨rv, e, k⟩ := p1.of
    obtain ⟨x, e1, e⟩ := Option.bind_eq_some_iff.mp e
    obtain ⟨y, e2, rfl⟩ := Option.map_eq_some_iff.mp e
    have d1 := r1.data F1 e1
    unfold unop at e2
    split at e2 <;> first | cases e2; done | skip
    all_goals first | (rename_i heq; cases heq; done) | skip
    cases e2; cases d1
    exact ⟨_, rfl, k _ _ .refl F1 rfl⟩
  | Not =>
    refine PE.imp (pe_notT ha) fun σ H Q h => ?_
    obtain ⟨fc, fm, ex, s, F, p⟩ := h
    simp only [evE] at p
    refine ⟨fc, fm, ex, s, F, p.bind.imp fun v H1 ⟨ra, s1, _, st1, F1, r1, p1⟩ => ?_⟩
    obtain ⟨rv, e, k⟩ := p1.of
    obtain ⟨x, e1, e⟩ := Option.bind_eq_some_iff.mp e
    obtain ⟨y, e2, rfl⟩ := Option.map_eq_some_iff.mp e
    obtain ⟨t, h1, rfl⟩ := un_truthy e2
    exact ⟨t, by rw [hK]; exact tru_D (r1.data F1 e1) h1, k _ _ .refl F1 rfl⟩
  | UAdd => exact absurd rfl hu
/-! ### truth -/
theorem e_truth (hK : X.K = G.K) (ha : PE X a (tI G run W a')) (he : ∀ whole, isTrue a X.env whole = (do let v ← whole; standAt a.pos; holding [v] (PySem.truthy v))) : PT X a (tT G run W a') := by
  refine PT.imp (pt_truth ha he) fun σ H Q h => ?_
  obtain ⟨fc, fm, ex, s, F, p⟩ := h
  refine ⟨fc, fm, ex, s, F, (show Pst G fc fm ex σ W RB s H (evT G.P run a' s) Q from p).bind.imp fun v H1 ⟨ra, s1, _, st1, F1, r1, p1⟩ => ?_⟩
  obtain ⟨b, e, k⟩ := p1.of
  obtain ⟨x, e1, e⟩ := Option.bind_eq_some_iff.mp e
  exact ⟨b, by rw [hK]; exact tru_D (r1.data F1 e1) e, k b _ .refl F1 rfl⟩
theorem Out.bind_assoc {α β γ : Type} (o : Out α) (f : α → S → Out β) (g : β → S → Out γ) : (o.bind f).bind g = o.bind fun a s => (f a s).bind g := by cases o <;> rfl
theorem evT_and (P : Prog) (a b : E) (s : S) : evT P run (.and a b) s = (evT P run a s).bind fun t s1 => if t then evT P run b s1 else .ok false s1 := by
  unfold evT
  simp only [evE, Out.bind_assoc]
  congr 1
  funext x s1
  cases e : (rdat s1 x).bind Py.truthy with
  | none => rfl
  | some t =>
    cases t with
    | true => rfl
    | false => simp only [Out.bind, Out.of, e]; rfl
theorem evT_or (P : Prog) (a b : E) (s : S) : evT P run (.or a b) s = (evT P run a s).bind fun t s1 => if t then .ok true s1 else evT P run b s1 := by
  unfold evT
  simp only [evE, Out.bind_assoc]
  congr 1
  funext x s1
  cases e : (rdat s1 x).bind Py.truthy with
  | none => rfl
  | some t =>
    cases t with
    | false => rfl
    | true => simp only [Out.bind, Out.of, e]; rfl
theorem t_and {ts : List Expr} (ha : PT X a (tT G run W a')) (hb : PW X (.BoolOp .And (b :: ts) pos) (tT G run W b')) : PW X (.BoolOp .And (a :: b :: ts) pos) (tT G run W (.and a' b')) := by
  have h := pw_and ha hb
  refine ⟨fun wh pins s0 σ H Q I q => h.run wh pins s0 σ H Q I ?_⟩
  obtain ⟨fc, fm, ex, s, F, p⟩ := q
  rw [evT_and] at p
  refine ⟨fc, fm, ex, s, F, p.bind.imp fun v H1 ⟨t, s1, _, st1, F1, r1, p1⟩ => ?_⟩
  cases r1
  cases v with
  | true => exact ⟨fc, fm, ex, s1, F1, p1⟩
  | false => exact p1.ok F1 rfl
theorem t_or {ts : List Expr} (ha : PT X a (tT G run W a')) (hb : PW X (.BoolOp .Or (b :: ts) pos) (tT G run W b')) : PW X (.BoolOp .Or (a :: b :: ts) pos) (tT G run W (.or a' b')) := by
  have h := pw_or ha hb
  refine ⟨fun wh pins s0 σ H Q I q => h.run wh pins s0 σ H Q I ?_⟩
  obtain ⟨fc, fm, ex, s, F, p⟩ := q
  rw [evT_or] at p
  refine ⟨fc, fm, ex, s, F, p.bind.imp fun v H1 ⟨t, s1, _, st1, F1, r1, p1⟩ => ?_⟩
  cases r1
  cases v with
  | false => exact ⟨fc, fm, ex, s1, F1, p1⟩
  | true => exact p1.ok F1 rfl
theorem t_and1 (ha : PT X a (tT G run W a')) : PW X (.BoolOp .And [a] pos) (tT G run W a') := pw_and1 ha
theorem t_or1 (ha : PT X a (tT G run W a')) : PW X (.BoolOp .Or [a] pos) (tT G run W a') := pw_or1 ha
theorem evT_not (P : Prog) (a : E) (s : S) : evT P run (.un .Not a) s = (evT P run a s).bind fun t s1 => .ok (!t) s1 := by
  unfold evT
  simp only [evE, Out.bind_assoc]
  congr 1
  funext x s1
  cases e1 : rdat s1 x with
  | none => rfl
  | some u =>
    simp only [Option.bind_some]
    have : unop .Not u = (Py.truthy u).map fun b => D.bl (!b) := by cases u <;> rfl
    rw [this]
    cases e : Py.truthy u with
    | none => rfl
    | some t => rfl
theorem t_not (ha : PT X a (tT G run W a')) : PT X (.UnaryOp .Not a pos) (tT G run W (.un .Not a')) := by
  refine PT.imp (pt_not ha) fun σ H Q h => ?_
  obtain ⟨fc, fm, ex, s, F, p⟩ := h
  rw [evT_not] at p
  refine ⟨fc, fm, ex, s, F, p.bind.imp fun v H1 ⟨t, s1, _, st1, F1, r1, p1⟩ => ?_⟩
  cases r1
  exact p1.ok F1 rfl
theorem e_and {ts : List Expr} (hK : X.K = G.K) (ha : PE X a (tI G run W a')) (hb : PE X (.BoolOp .And (b :: ts) pos) (tI G run W b')) : PE X (.BoolOp .And (a :: b :: ts) pos) (tI G run W (.and a' b')) := by
  refine PE.imp (pe_andT ha hb) fun σ H Q h => ?_
  obtain ⟨fc, fm, ex, s, F, p⟩ := h
  simp only [evE] at p
  refine ⟨fc, fm, ex, s, F, p.bind.imp fun v H1 ⟨ra, s1, _, st1, F1, r1, p1⟩ => ?_⟩
  cases e : (rdat s1 ra).bind Py.truthy with
  | none => rw [e] at p1; exact p1.elim
  | some t =>
    rw [e] at p1
    obtain ⟨x, e1, e⟩ := Option.bind_eq_some_iff.mp e
    refine ⟨t, by rw [hK]; exact tru_D (r1.data F1 e1) e, ?_⟩
    cases t with
    | true => exact ⟨fc, fm, ex, s1, F1, p1⟩
    | false => exact p1.ok F1 r1
theorem e_or {ts : List Expr} (hK : X.K = G.K) (ha : PE X a (tI G run W a')) (hb : PE X (.BoolOp .Or (b :: ts) pos) (tI G run W b')) : PE X (.BoolOp .Or (a :: b :: ts) pos) (tI G run W (.or a' b')) := by
  refine PE.imp (pe_orT ha hb) fun σ H Q h => ?_
  obtain ⟨fc, fm, ex, s, F, p⟩ := h
  simp only [evE] at p
  refine ⟨fc, fm, ex, s, F, p.bind.imp fun v H1 ⟨ra, s1, _, st1, F1, r1, p1⟩ => ?_⟩
  cases e : (rdat s1 ra).bind Py.truthy with
  | none => rw [e] at p1; exact p1.elim
  | some t =>
    rw [e] at p1
    obtain ⟨x, e1, e⟩ := Option.bind_eq_some_iff.mp e
    refine ⟨t, by rw [hK]; exact tru_D (r1.data F1 e1) e, ?_⟩
    cases t with
    | true => exact p1.ok F1 r1
    | false => exact ⟨fc, fm, ex, s1, F1, p1⟩
theorem evE_ite (P : Prog) (a b c : E) (s : S) : evE P run (.ite c a b) s = (evT P run c s).bind fun t s1 => if t then evE P run a s1 else evE P run b s1 := by
  unfold evT
  simp only [evE, Out.bind_assoc]
  congr 1
  funext x s1
  cases e : (rdat s1 x).bind Py.truthy with
  | none => rfl
  | some t => cases t <;> rfl
theorem e_ite (hc : PT X c (tT G run W c')) (ha : PE X a (tI G run W a')) (hb : PE X b (tI G run W b')) : PE X (.IfExp c a b pos) (tI G run W (.ite c' a' b')) := by
  refine PE.imp (pe_ifExp hc ha hb) fun σ H Q h => ?_
  obtain ⟨fc, fm, ex, s, F, p⟩ := h
  rw [evE_ite] at p
  refine ⟨fc, fm, ex, s, F, p.bind.imp fun v H1 ⟨t, s1, _, st1, F1, r1, p1⟩ => ?_⟩
  cases r1
  cases v with
  | true => exact ⟨fc, fm, ex, s1, F1, p1⟩
  | false => exact ⟨fc, fm, ex, s1, F1, p1⟩
/-! ### comparisons -/
theorem e_cmp {op : CmpOp} (hK : X.K = G.K) (hu : X.A.units + 65 < cLine) (hm : behindInMarks op b = false) (ha : PE X a (tI G run W a')) (hb : PE X b (tI G run W b')) : PE X (.Compare a [op] [b] pos) (tI G run W (.cmp op a' b')) := by
  obtain ⟨r, h1, h2⟩ := cmp_ok (X := X) op hu
  refine PE.imp (pe_cmpR h1 ha hb hm) fun σ H Q h => ?_
  obtain ⟨fc, fm, ex, s, F, p⟩ := h
  simp only [evE] at p
  refine ⟨fc, fm, ex, s, F, p.bind.imp fun v H1 ⟨ra, s1, _, st1, F1, r1, p1⟩ => ⟨fc, fm, ex, s1, F1, p1.bind.imp fun u H2 ⟨rb, s2, _, st2, F2, r2, p2⟩ => ?_⟩⟩
  obtain ⟨rv, e, k⟩ := p2.of
  obtain ⟨x, e1, e⟩ := Option.bind_eq_some_iff.mp e
  obtain ⟨y, e2, e⟩ := Option.bind_eq_some_iff.mp e
  exact h2 G fc fm ex σ s2 H2 v u x y rv Q hK.symm F2 ((r1.wk.stp st2).rd F2 e1) (r2.data F2 e2) e fun v' H' st F' r' => k v' H' st F' r'
theorem t_cmp {op : CmpOp} (hK : X.K = G.K) (hu : X.A.units + 65 < cLine) (hm : behindInMarks op b = false) (ha : PE X a (tI G run W a')) (hb : PE X b (tI G run W b')) : PT X (.Compare a [op] [b] pos) (tT G run W (.cmp op a' b')) := by
  obtain ⟨r, h1, h2⟩ := cmp_ok (X := X) op hu
  refine PT.imp (pt_cmpR h1 ha hb hm) fun σ H Q h => ?_
  obtain ⟨fc, fm, ex, s, F, p⟩ := h
  unfold evT at p
  simp only [evE, Out.bind_assoc] at p
  refine ⟨fc, fm, ex, s, F, p.bind.imp fun v H1 ⟨ra, s1, _, st1, F1, r1, p1⟩ => ⟨fc, fm, ex, s1, F1, p1.bind.imp fun u H2 ⟨rb, s2, _, st2, F2, r2, p2⟩ => ?_⟩⟩
  have p3 := p2.bind (RA := RE G fc fm ex σ)
  obtain ⟨rv, e, k⟩ := p3.of
  obtain ⟨x, e1, e⟩ := Option.bind_eq_some_iff.mp e
  obtain ⟨y, e2, e⟩ := Option.bind_eq_some_iff.mp e
  refine h2 G fc fm ex σ s2 H2 v u x y rv _ hK.symm F2 ((r1.wk.stp st2).rd F2 e1) (r2.data F2 e2) e fun v' H' st F' r' => ?_
  obtain ⟨rv2, s3, e3, st3, F3, r3, p4⟩ := k v' H' st F' r'
  obtain ⟨kk, e4, rfl⟩ := Option.map_eq_some_iff.mp e
  have e5 : rv2 = .d (.bl kk) ∧ s3 = s2 := by
    rw [e1, e2] at e3
    simp only [Option.bind_some, e4, Option.map_some, Out.of] at e3
    cases e3
    exact ⟨rfl, rfl⟩
  obtain ⟨rfl, rfl⟩ := e5
  have e6 : v' = .bl kk := r3
  subst e6
  exact ⟨kk, rfl, p4.ok F3 rfl⟩
end
end Py
end SB7
section SB8
set_option autoImplicit false
set_option linter.all false
set_option maxRecDepth 100000
set_option maxHeartbeats 4000000
/-! The evaluator over the hand layer, 8: further expressions. -/
namespace Py
open PySem L2

section
variable {G : Gx} {fc : Fc} {fm : List Addr} {ex : Bar} {σ : L2.St} {s s1 : S} {H H1 : Hp} {W : WX} {run : Run} {X : Cx} {a b c : Expr} {a' b' c' : E} {pos : Pos}

/-- an expression whose value is a bool -/
def BlE (P : Prog) (run : Run) (e : E) : Prop := ∀ s x s1, evE P run e s = .ok x s1 → ∃ k, x = .d (.bl k)
theorem tT_tI {e : E} (h : BlE G.P run e) {Q : Bool → Hp → Prop} (q : tT G run W e σ H Q) : tI G run W e σ H fun z H1 => ∃ k, z = .bl k ∧ Q k H1 := by
  obtain ⟨fc, fm, ex, s, F, p⟩ := q
  refine ⟨fc, fm, ex, s, F, (show Pst G fc fm ex σ W RB s H (evT G.P run e s) Q from p).bind.imp fun v H1 ⟨ra, s1, ee, st1, F1, r1, p1⟩ => ?_⟩
  obtain ⟨k, rfl⟩ := h _ _ _ ee
  cases (show v = .bl k from r1)
  exact ⟨k, rfl, p1.ok F1 rfl⟩
theorem Out.bind_ok {α β : Type} {o : Out α} {f : α → S → Out β} {y : β} {t : S} (h : o.bind f = .ok y t) : ∃ x u, o = .ok x u ∧ f x u = .ok y t := by
  cases o with
  | ok a s => exact ⟨a, s, rfl, h⟩
  | exc c fs s => cases h
  | stuck => cases h
theorem Out.of_ok {α : Type} {o : Option α} {s t : S} {y : α} (h : Out.of o s = .ok y t) : o = some y ∧ t = s := by
  cases o with
  | none => cases h
  | some a => cases h; exact ⟨rfl, rfl⟩
/-! ### two comparisons -/
theorem cmp2_bl (op op' : CmpOp) (a b c : E) : BlE G.P run (.cmp2 op op' a b c) := by
  intro s x s1 h
  simp only [evE] at h
  obtain ⟨x1, u1, _, h⟩ := Out.bind_ok h
  obtain ⟨x2, u2, _, h⟩ := Out.bind_ok h
  split at h
  · obtain ⟨x3, u3, _, h⟩ := Out.bind_ok h
    obtain ⟨h, _⟩ := Out.of_ok h
    obtain ⟨_, _, h⟩ := Option.bind_eq_some_iff.mp h
    obtain ⟨_, _, h⟩ := Option.bind_eq_some_iff.mp h
    obtain ⟨k, _, h⟩ := Option.map_eq_some_iff.mp h
    exact ⟨k, h.symm⟩
  · cases h; exact ⟨_, rfl⟩
  · cases h
theorem cmp2_rd {op op' : CmpOp} (hK : X.K = G.K) {r r' : R2} (h2 : BinOk X (compareOp op) (fun a b => (cmpOp op a b).map fun r => RV.d (.bl r)) r)
    (h2' : BinOk X (compareOp op') (fun a b => (cmpOp op' a b).map fun r => RV.d (.bl r)) r') {Q : VK}
    (h : tI G run W (.cmp2 op op' a' b' c') σ H Q) : tChain r r' (tI G run W a') (tI G run W b') (tI G run W c') σ H Q := by
  obtain ⟨fc, fm, ex, s, F, p⟩ := h
  simp only [evE] at p
  refine ⟨fc, fm, ex, s, F, p.bind.imp fun v H1 ⟨ra, s1, _, st1, F1, r1, p1⟩ => ⟨fc, fm, ex, s1, F1, p1.bind.imp fun u H2 ⟨rb, s2, _, st2, F2, r2, p2⟩ => ?_⟩⟩
  cases e : (rdat s2 ra).bind fun u => (rdat s2 rb).bind fun v => cmpOp op u v with
  | none => rw [e] at p2; exact p2.elim
  | some k =>
    rw [e] at p2
    obtain ⟨x, e1, e⟩ := Option.bind_eq_some_iff.mp e
    obtain ⟨y, e2, e⟩ := Option.bind_eq_some_iff.mp e
    refine h2.2 G fc fm ex σ s2 H2 v u x y (.d (.bl k)) _ hK.symm F2 ((r1.wk.stp st2).rd F2 e1) (r2.data F2 e2) (by simp [e]) fun v' H3 st3 F3 r3 => ?_
    cases (show v' = .bl k from r3)
    refine ⟨k, rfl, ?_⟩
    cases k with
    | false => exact p2.okS F3 st3 rfl
    | true =>
      refine ⟨fc, fm, ex, s2, F3, (p2.from st3).bind.imp fun w H4 ⟨rc, s3, _, st4, F4, r4, p4⟩ => ?_⟩
      obtain ⟨rv, e, k⟩ := p4.of
      obtain ⟨y', e3, e⟩ := Option.bind_eq_some_iff.mp e
      obtain ⟨z, e4, e⟩ := Option.bind_eq_some_iff.mp e
      exact h2'.2 G fc fm ex σ s3 H4 u w y' z rv Q hK.symm F4 (((r2.wk.stp st3).stp st4).rd F4 e3) (r4.data F4 e4) e fun v' H' st F' r' => k v' H' st F' r'
theorem e_cmp2 {op op' : CmpOp} (hK : X.K = G.K) (hu : X.A.units + 65 < cLine) (hm : lastMarks [op, op'] [b, c] = false) (ha : PE X a (tI G run W a')) (hb : PE X b (tI G run W b')) (hc : PE X c (tI G run W c')) :
    PE X (.Compare a [op, op'] [b, c] pos) (tI G run W (.cmp2 op op' a' b' c')) := by
  obtain ⟨r, h⟩ := cmp_ok (X := X) op hu
  obtain ⟨r', h'⟩ := cmp_ok (X := X) op' hu
  exact PE.imp (pe_chain h.1 h'.1 ha hb hc hm) fun σ H Q q => cmp2_rd hK h h' q
theorem t_cmp2 {op op' : CmpOp} (hK : X.K = G.K) (hu : X.A.units + 65 < cLine) (hm : lastMarks [op, op'] [b, c] = false) (ha : PE X a (tI G run W a')) (hb : PE X b (tI G run W b')) (hc : PE X c (tI G run W c')) :
    PT X (.Compare a [op, op'] [b, c] pos) (tT G run W (.cmp2 op op' a' b' c')) := by
  obtain ⟨r, h⟩ := cmp_ok (X := X) op hu
  obtain ⟨r', h'⟩ := cmp_ok (X := X) op' hu
  exact PT.imp (pt_chain h.1 h'.1 ha hb hc hm) fun σ H Q q => cmp2_rd hK h h' (tT_tI (cmp2_bl _ _ _ _ _) q)
/-! ### is None, is a bool -/
theorem RD.isN {B : Bar} {d : D} {v : V} (h : RD G H B d v) : decide (v = .non) = (match d with
    | .non => true
    | _ => false) := by
  cases d with
  | non => cases h; rfl
  | bl b => cases h; rfl
  | int i => cases h; rfl
  | str s => obtain ⟨rfl, _⟩ := h; rfl
  | lst xs => obtain ⟨a, vs, rfl, _⟩ := h; rfl
  | tup xs => obtain ⟨a, vs, rfl, _⟩ := h; rfl
  | dic xs => obtain ⟨a, vs, rfl, _⟩ := h; rfl
  | obj c fs => obtain ⟨a, C, dx, gs, rfl, _⟩ := h; rfl
def isNop : Bool → CmpOp
  | false => .Is
  | true => .IsNot
theorem isN_bl (neg : Bool) (a : E) : BlE G.P run (.isN neg a) := by
  intro s x s1 h
  simp only [evE] at h
  obtain ⟨x1, u1, _, h⟩ := Out.bind_ok h
  obtain ⟨h, _⟩ := Out.of_ok h
  obtain ⟨k, _, h⟩ := Option.map_eq_some_iff.mp h
  exact ⟨_, h.symm⟩
def rNeg (neg : Bool) : R2 := fun x y H Q => y = .non ∧ Q (.bl (if neg then !decide (x = .non) else decide (x = .non))) H
theorem op_neg (neg : Bool) : OpR X (compareOp (isNop neg)) (rNeg neg) := by
  cases neg
  · exact op_isN
  · exact op_notN
theorem isN_rd {neg : Bool} {Q : VK} (h : tI G run W (.isN neg a') σ H Q) : tOp (rNeg neg) (tI G run W a') (tC .non) σ H Q := by
  obtain ⟨fc, fm, ex, s, F, p⟩ := h
  simp only [evE] at p
  refine ⟨fc, fm, ex, s, F, p.bind.imp fun v H1 ⟨ra, s1, _, st1, F1, r1, p1⟩ => ⟨rfl, ?_⟩⟩
  obtain ⟨rv, e, k⟩ := p1.of
  obtain ⟨x, e1, rfl⟩ := Option.map_eq_some_iff.mp e
  refine k _ _ .refl F1 ?_
  rw [(r1.data F1 e1).isN]
  cases x <;> cases neg <;> rfl
theorem nb_is (neg : Bool) (b : Expr) : behindInMarks (isNop neg) b = false := by cases neg <;> exact nobehind b (by decide) (by decide)
theorem e_isN {neg : Bool} (hb : PE X b (tC .non)) (ha : PE X a (tI G run W a')) : PE X (.Compare a [isNop neg] [b] pos) (tI G run W (.isN neg a')) :=
  PE.imp (pe_cmpR (op_neg neg) ha hb (nb_is neg b)) fun σ H Q q => isN_rd q
theorem t_isN {neg : Bool} (hb : PE X b (tC .non)) (ha : PE X a (tI G run W a')) : PT X (.Compare a [isNop neg] [b] pos) (tT G run W (.isN neg a')) :=
  PT.imp (pt_cmpR (op_neg neg) ha hb (nb_is neg b)) fun σ H Q q => isN_rd (tT_tI (isN_bl _ _) q)
def rBl (neg : Bool) : R2 := fun x y H Q => ∃ a b : Bool, x = .bl a ∧ y = .bl b ∧ Q (.bl (if neg then !decide (a = b) else decide (a = b))) H
theorem op_negB (neg : Bool) : OpR X (compareOp (isNop neg)) (rBl neg) := by
  cases neg
  · exact op_isBl
  · exact op_notBl
theorem isB_bl (neg k : Bool) (a : E) : BlE G.P run (.isB neg k a) := by
  intro s x s1 h
  simp only [evE] at h
  obtain ⟨x1, u1, _, h⟩ := Out.bind_ok h
  obtain ⟨h, _⟩ := Out.of_ok h
  obtain ⟨k, _, h⟩ := Option.bind_eq_some_iff.mp h
  split at h
  · cases h; exact ⟨_, rfl⟩
  · cases h
theorem isB_rd {neg k : Bool} {Q : VK} (h : tI G run W (.isB neg k a') σ H Q) : tOp (rBl neg) (tI G run W a') (tC (.bl k)) σ H Q := by
  obtain ⟨fc, fm, ex, s, F, p⟩ := h
  simp only [evE] at p
  refine ⟨fc, fm, ex, s, F, p.bind.imp fun v H1 ⟨ra, s1, _, st1, F1, r1, p1⟩ => ?_⟩
  obtain ⟨rv, e, kk⟩ := p1.of
  obtain ⟨x, e1, e⟩ := Option.bind_eq_some_iff.mp e
  have d := r1.data F1 e1
  split at e
  · rename_i j
    cases e
    cases (show v = .bl j from d)
    refine ⟨j, k, rfl, rfl, kk _ _ .refl F1 ?_⟩
    cases j <;> cases k <;> cases neg <;> rfl
  · cases e
theorem e_isB {neg k : Bool} (hb : PE X b (tC (.bl k))) (ha : PE X a (tI G run W a')) : PE X (.Compare a [isNop neg] [b] pos) (tI G run W (.isB neg k a')) :=
  PE.imp (pe_cmpR (op_negB neg) ha hb (nb_is neg b)) fun σ H Q q => isB_rd q
theorem t_isB {neg k : Bool} (hb : PE X b (tC (.bl k))) (ha : PE X a (tI G run W a')) : PT X (.Compare a [isNop neg] [b] pos) (tT G run W (.isB neg k a')) :=
  PT.imp (pt_cmpR (op_negB neg) ha hb (nb_is neg b)) fun σ H Q q => isB_rd (tT_tI (isB_bl _ _ _) q)
/-! ### isinstance -/
def tyNm : Ty → Option String
  | .int => some "int" | .bool => some "bool" | .str => some "str" | .list => some "list" | .tuple => some "tuple" | .dict => some "dict" | .cls _ => none
/-- the value of a type's name -/
def TyV (G : Gx) : Ty → V → Value → Prop
  | .cls c, v, u => ∃ C, ClsOk G c C ∧ v = .ref C ∧ u = .ref C
  | t, v, u => ∃ n, tyNm t = some n ∧ v = .ty n ∧ u = .type n
theorem TyV.cls {t : Ty} {v : V} {u : Value} (h : TyV G t v u) : ClsV v u := by
  cases t with
  | cls c => obtain ⟨C, _, rfl, rfl⟩ := h; exact .own C
  | _ => obtain ⟨n, _, rfl, rfl⟩ := h; exact .ty n
theorem TyV.obj {c : Nat} {C : Addr} (o : ClsOk G c C) {t : Ty} {v : V} {u : Value} (h : TyV G t v u) (fs : List (Nat × D)) : PySem.W.kitOne G.K (.ref C) u = some (isTy t (.obj c fs)) := by
  cases t with
  | cls c2 =>
    obtain ⟨C2, o2, rfl, rfl⟩ := h
    by_cases e : c2 = c
    · subst e
      have := o.nm.symm.trans o2.nm
      cases this
      have : isTy (.cls c2) (.obj c2 fs) = true := by simp [isTy]
      rw [this]
      unfold PySem.W.kitOne
      rw [if_pos (by simp)]
    · have : isTy (.cls c2) (.obj c fs) = false := by simp [isTy, e]
      rw [this]
      exact o.oth c2 C2 e o2.init o2.nm
  | _ => (obtain ⟨n, e, rfl, rfl⟩ := h; cases e; exact o.toB _ (by decide))
theorem kit_dec (K : PySem.W.Frag) : (∀ a ∈ ["NoneType", "bool", "int", "str", "list", "tuple", "dict"], ∀ t ∈ [Ty.int, .bool, .str, .list, .tuple, .dict], ∃ n, tyNm t = some n ∧ kitB a n = some (match a, t with
    | "bool", .int => true | "bool", .bool => true | "int", .int => true | "str", .str => true | "list", .list => true | "tuple", .tuple => true | "dict", .dict => true | _, _ => false)) := by
  have key : (∀ a ∈ ["NoneType", "bool", "int", "str", "list", "tuple", "dict"], ∀ t ∈ [Ty.int, .bool, .str, .list, .tuple, .dict], (match tyNm t with
      | none => false
      | some n => kitB a n == some (match a, t with
    | "bool", .int => true | "bool", .bool => true | "int", .int => true | "str", .str => true | "list", .list => true | "tuple", .tuple => true | "dict", .dict => true | _, _ => false)) = true) := by decide +kernel
  intro a ha t ht
  have k := key a ha t ht
  split at k
  · cases k
  · rename_i n e
    exact ⟨n, e, by simpa using k⟩
theorem kit_D {B : Bar} {d : D} {x : V} (r : RD G H B d x) : ∃ w, TyX G.K H x w ∧ ∀ t v u, TyV G t v u → PySem.W.kitOne G.K w u = some (isTy t d) := by
  have fin : ∀ (n : String) (w : String), w ∈ ["NoneType", "bool", "int", "str", "list", "tuple", "dict"] → TyX G.K H x (.type w) → (∀ c fs, d ≠ .obj c fs) →
      (∀ t ∈ [Ty.int, .bool, .str, .list, .tuple, .dict], isTy t d = (match w, t with
        | "bool", .int => true | "bool", .bool => true | "int", .int => true | "str", .str => true | "list", .list => true | "tuple", .tuple => true | "dict", .dict => true | _, _ => false)) → ∃ w, TyX G.K H x w ∧ ∀ t v u, TyV G t v u → PySem.W.kitOne G.K w u = some (isTy t d) := by
    intro n w hw ty no hd
    refine ⟨_, ty, fun t v u h => ?_⟩
    by_cases ht : ∃ c, t = .cls c
    · obtain ⟨c, rfl⟩ := ht
      obtain ⟨C, o, rfl, rfl⟩ := h
      have : isTy (.cls c) d = false := by
        cases d <;> first | rfl | exact absurd rfl (no _ _)
      rw [this]
      exact o.ofB w hw
    · have ht2 : t ∈ [Ty.int, .bool, .str, .list, .tuple, .dict] := by
        cases t <;> first | decide | exact absurd ⟨_, rfl⟩ ht
      obtain ⟨n, e, k⟩ := kit_dec G.K w hw t ht2
      have hu : u = .type n := by
        cases t <;> first | exact absurd ⟨_, rfl⟩ ht | skip
        all_goals (obtain ⟨n', e', _, rfl⟩ := h; rw [e] at e'; cases e'; rfl)
      rw [hu, hd t ht2]
      exact kit_ty k
  have all6 : ∀ (p : Ty → Prop), p .int → p .bool → p .str → p .list → p .tuple → p .dict → ∀ t ∈ [Ty.int, .bool, .str, .list, .tuple, .dict], p t := by
    intro p h1 h2 h3 h4 h5 h6 t ht
    simp only [List.mem_cons, List.not_mem_nil, or_false] at ht
    rcases ht with rfl | rfl | rfl | rfl | rfl | rfl <;> assumption
  cases d with
  | non => cases r; exact fin "" "NoneType" (by decide) (.base .non) (fun _ _ z => nomatch z) (all6 _ rfl rfl rfl rfl rfl rfl)
  | bl b => cases r; exact fin "" "bool" (by decide) (.base (.bl b)) (fun _ _ z => nomatch z) (all6 _ rfl rfl rfl rfl rfl rfl)
  | int i => cases r; exact fin "" "int" (by decide) (.base (.int i)) (fun _ _ z => nomatch z) (all6 _ rfl rfl rfl rfl rfl rfl)
  | str s => obtain ⟨rfl, _⟩ := r; exact fin "" "str" (by decide) (.base (.str _)) (fun _ _ z => nomatch z) (all6 _ rfl rfl rfl rfl rfl rfl)
  | lst xs =>
    obtain ⟨p, vs, rfl, q, _⟩ := r
    refine fin "" "list" (by decide) ?_ (fun _ _ z => nomatch z) (all6 _ rfl rfl rfl rfl rfl rfl)
    rcases q with (q | ⟨o, q⟩) | ⟨o, its, n, q, c, _⟩
    · exact .base (.lst q)
    · exact .base (.frz q)
    · exact .kList q c
  | tup xs =>
    obtain ⟨p, vs, rfl, q, _⟩ := r
    refine fin "" "tuple" (by decide) ?_ (fun _ _ z => nomatch z) (all6 _ rfl rfl rfl rfl rfl rfl)
    rcases q with ⟨_, q | ⟨o, q⟩⟩ | ⟨o, its, n, q, c, _⟩
    · exact .base (.tup q)
    · exact .fTuple q
    · exact .kTuple q c
  | dic kvs =>
    obtain ⟨p, vs, rfl, q, _⟩ := r
    exact fin "" "dict" (by decide) (.base (.dK q)) (fun _ _ z => nomatch z) (all6 _ rfl rfl rfl rfl rfl rfl)
  | obj c fs =>
    obtain ⟨p, C, dx, gs, rfl, _, q, o, _⟩ := r
    exact ⟨_, .base (.ins q o.cls o.ha o.hn o.htk o.hm), fun t v u h => h.obj o fs⟩
theorem isi_bl (a : E) (ts : List Ty) : BlE G.P run (.isi a ts) := by
  intro s x s1 h
  simp only [evE] at h
  obtain ⟨x1, u1, _, h⟩ := Out.bind_ok h
  obtain ⟨h, _⟩ := Out.of_ok h
  obtain ⟨k, _, h⟩ := Option.map_eq_some_iff.mp h
  exact ⟨_, h.symm⟩
theorem isi1_rd (hK : X.K = G.K) {t : Ty} {cv : V} {cu : Value} (ht : TyV G t cv cu) {Q : VK} (h : tI G run W (.isi a' [t]) σ H Q) : tCB (rIsi X.K) (tCons (tI G run W a') (tCons (tC cv) tNil)) σ H Q := by
  obtain ⟨fc, fm, ex, s, F, p⟩ := h
  simp only [evE] at p
  refine ⟨fc, fm, ex, s, F, p.bind.imp fun v H1 ⟨ra, s1, _, st1, F1, r1, p1⟩ => ?_⟩
  obtain ⟨rv, e, k⟩ := p1.of
  obtain ⟨x, e1, rfl⟩ := Option.map_eq_some_iff.mp e
  obtain ⟨w, h1, h2⟩ := kit_D (r1.data F1 e1)
  have h2 := h2 _ _ _ ht
  rw [← hK] at h1 h2
  exact ⟨v, cv, w, cu, _, rfl, ht.cls, h1, h2, k _ _ .refl F1 (by simp [RR, DR])⟩
inductive TyVs (G : Gx) : List Ty → List V → List Value → Prop where
  | nil : TyVs G [] [] []
  | cons {t : Ty} {ts : List Ty} {v : V} {vs : List V} {u : Value} {us : List Value} (h : TyV G t v u) (r : TyVs G ts vs us) : TyVs G (t :: ts) (v :: vs) (u :: us)
theorem TyVs.cls {ts : List Ty} {vs : List V} {us : List Value} (h : TyVs G ts vs us) : Paired ClsV vs us := by
  induction h with
  | nil => exact .nil
  | cons h _ ih => exact .cons h.cls ih
theorem TyX.mono {K : PySem.W.Frag} {x : V} {w : Value} (h : TyX K H x w) {p : Addr} {o : HO} (hp : H p = none) : TyX K (upd H p o) x w := by
  cases h with
  | base b =>
    cases b with
    | non => exact .base .non
    | bl y => exact .base (.bl y)
    | int i => exact .base (.int i)
    | str y => exact .base (.str y)
    | flt y => exact .base (.flt y)
    | lst e => exact .base (.lst (upd_keep hp e))
    | frz e => exact .base (.frz (upd_keep hp e))
    | tup e => exact .base (.tup (upd_keep hp e))
    | dK e => exact .base (.dK (upd_keep hp e))
    | dT e => exact .base (.dT (upd_keep hp e))
    | ins e h1 h2 h3 h4 h5 => exact .base (.ins (upd_keep hp e) h1 h2 h3 h4 h5)
  | byt y => exact .byt y
  | set e => exact .set (upd_keep hp e)
  | kList e c => exact .kList e c
  | kTuple e c => exact .kTuple e c
  | kDict e c => exact .kDict e c
  | fTuple e => exact .fTuple (upd_keep hp e)
  | fDict e => exact .fDict (upd_keep hp e)
theorem kitAny_D {B : Bar} {d : D} {x : V} {w : Value} (r : RD G H B d x) (hw : ∀ t v u, TyV G t v u → PySem.W.kitOne G.K w u = some (isTy t d)) {ts : List Ty} {vs : List V} {us : List Value} (h : TyVs G ts vs us) :
    PySem.W.kitAny G.K w us = some (ts.any fun t => isTy t d) := by
  induction h with
  | nil => rfl
  | @cons t ts v vs u us h rr ih =>
    refine kitAny_cons (hw t v u h) (fun e => ?_) (fun e => ?_)
    · simp only [List.any_cons, e, Bool.false_or]; exact ih
    · simp only [List.any_cons, e, Bool.true_or]
theorem isiT_rd (hK : X.K = G.K) {ts : List Ty} {vs : List V} {us : List Value} (ht : TyVs G ts vs us) (hz : vs.length ≤ sizeLine) {tv : TA} (htv : ∀ σ H Q, Q vs H → tv σ H Q) {Q : VK} (h : tI G run W (.isi a' ts) σ H Q) :
    tCB (rIsiT X.K) (tCons (tI G run W a') (tCons (tTup tv) tNil)) σ H Q := by
  obtain ⟨fc, fm, ex, s, F, p⟩ := h
  simp only [evE] at p
  refine ⟨fc, fm, ex, s, F, p.bind.imp fun v H1 ⟨ra, s1, _, st1, F1, r1, p1⟩ => htv _ _ _ ⟨hz, fun q hq => ?_⟩⟩
  obtain ⟨rv, e, k⟩ := p1.of
  obtain ⟨x, e1, rfl⟩ := Option.map_eq_some_iff.mp e
  obtain ⟨w, h1, h2⟩ := kit_D (r1.data F1 e1)
  have h3 := kitAny_D (r1.data F1 e1) h2 ht
  rw [← hK] at h1 h3
  exact ⟨v, q, vs, w, us, _, rfl, upd_same, ht.cls, TyX.mono h1 hq, h3, k _ _ (.alloc hq) (F1.alloc hq) (by simp [RR, DR])⟩
end
end Py
end SB8
section SB9
set_option autoImplicit false
set_option linter.all false
set_option maxRecDepth 100000
set_option maxHeartbeats 4000000
/-! The evaluator over the hand layer, 9: slots change; argument lists, displays, look-ups. -/
namespace Py
open PySem L2

/-! ### slots -/
theorem S.get_ne {s : S} {i j : Nat} {x : Sl} (h : j ≠ i) : (s.set i x).get j = s.get j := by
  simp only [S.get, S.set, List.getD_eq_getElem?_getD]
  rw [List.getElem?_set_ne (Ne.symm h)]
theorem S.get_eq {s : S} {i : Nat} {x : Sl} (h : i < s.env.length) : (s.set i x).get i = x := by
  simp [S.get, S.set, List.getD_eq_getElem?_getD, h]
theorem S.get_lt {s : S} {i : Nat} (h : s.get i ≠ .non) : i < s.env.length := by
  refine Nat.lt_of_not_le fun z => h ?_
  simp [S.get, List.getD_eq_getElem?_getD, z]
theorem S.set_out {s : S} {i : Nat} {x : Sl} (h : s.env.length ≤ i) : s.set i x = s := by
  simp only [S.set]
  rw [List.set_eq_of_length_le h]
section
variable {G : Gx} {fc : Fc} {fm : List Addr} {ex ex2 : Bar} {σ σ' : L2.St} {s s' s1 : S} {H H1 : Hp} {W : WX} {run : Run} {X : Cx} {a b c : Expr} {a' b' c' : E} {pos : Pos} {es : List Expr} {es' : List E}

/-- one slot changes, its variable may -/
theorem FR.slot (F : FR G fc fm ex σ s H) (i : Nat) (hl : σ'.length = σ.length) (hl2 : s'.env.length = s.env.length) (hc : s'.cells = s.cells) (hσ : ∀ j, j ≠ i → σ'[j]? = σ[j]?) (hs : ∀ j, j ≠ i → s'.get j = s.get j)
    (sub : ∀ a, ex2 a → ex a) (hb : ∀ a, Br fm ex2 s' σ' a → Br fm ex s σ a) (hi : SlOk G fc fm H (Br fm ex2 s' σ') σ'[i]? (s'.get i))
    (ho : ∀ a, OwnA s' σ' i a → a ∉ fm ∧ ¬ ex2 a ∧ (∀ j, j ≠ i → ¬ OwnA s σ j a) ∧ (muts (s'.get i) = true → fc.H0 a = none ∨ fc.M0 a) ∧ (muts (s'.get i) = false → fc.L0 i a)) : FR G fc fm ex2 σ' s' H := by
  have old : ∀ j a, j ≠ i → OwnA s' σ' j a → OwnA s σ j a := fun j a h q => ⟨by rw [← hs j h]; exact q.1, by rw [← hσ j h]; exact q.2⟩
  exact {
    len := by rw [hl, hl2]; exact F.len
    fml := by rw [hc]; exact F.fml
    nd := F.nd
    cells := by rw [hc]; exact F.cells
    slots := fun j => by
      by_cases h : j = i
      · rw [h]; exact hi
      · rw [hσ j h, hs j h]
        exact (F.slots j).mono (fun a o n z => ⟨z, fun q => n (hb a q)⟩) fun _ _ _ z => z
    apF := fun j a h => by
      by_cases e : j = i
      · subst e; exact ⟨(ho a h).1, (ho a h).2.1⟩
      · exact ⟨(F.apF j a (old j a e h)).1, fun z => (F.apF j a (old j a e h)).2 (sub a z)⟩
    apO := fun j k a h1 h2 => by
      by_cases e : j = i
      · by_cases e2 : k = i
        · rw [e, e2]
        · subst e
          exact absurd (old k a e2 h2) ((ho a h1).2.2.1 k e2)
      · by_cases e2 : k = i
        · subst e2
          exact absurd (old j a e h1) ((ho a h2).2.2.1 j e)
        · exact F.apO j k a (old j a e h1) (old k a e2 h2)
    exF := fun a h => F.exF a (sub a h)
    exH := fun a h => F.exH a (sub a h)
    base := F.base
    newO := fun j a h => by
      have h' : OwnA s' σ' j a := ⟨by have := h.1; revert this; cases s'.get j <;> simp [muts, owns], h.2⟩
      by_cases e : j = i
      · subst e; exact (ho a h').2.2.2.1 h.1
      · exact F.newO j a ⟨by rw [← hs j e]; exact h.1, by rw [← hσ j e]; exact h.2⟩
    newL := fun j a h m => by
      by_cases e : j = i
      · subst e; exact (ho a h).2.2.2.2 m
      · exact F.newL j a (old j a e h) (by rw [← hs j e]; exact m)
    newF := F.newF
    pre := F.pre
    m0 := F.m0
    m1 := F.m1 }
/-- an own object is published -/
theorem FR.pubS (F : FR G fc fm ex σ s H) {i : Nat} {d : D} (e : s.get i = .own d) : FR G fc fm ex σ (s.set i (.pub d)) H ∧ Stp fm ex σ s H (s.set i (.pub d)) H ∧
    ∀ v, σ[i]? = some (some v) → DR G H (Br fm ex (s.set i (.pub d)) σ) d v := by
  have hlt : i < s.env.length := S.get_lt (by rw [e]; exact fun z => nomatch z)
  have no : ∀ j a, OwnA (s.set i (.pub d)) σ j a → j ≠ i ∧ OwnA s σ j a := fun j a h => by
    by_cases q : j = i
    · subst q
      have := h.1
      rw [S.get_eq hlt] at this
      cases this
    · exact ⟨q, by rw [← S.get_ne (s := s) (x := .pub d) q]; exact h.1, h.2⟩
  have hb : ∀ a, Br fm ex (s.set i (.pub d)) σ a → Br fm ex s σ a := fun a h => by
    rcases h with h | h | ⟨j, h⟩
    · exact .inl h
    · exact .inr (.inl h)
    · exact .inr (.inr ⟨j, (no j a h).2⟩)
  have hm : ∀ a, Mu fm (s.set i (.pub d)) σ a → Mu fm s σ a := fun a h => by
    rcases h with h | ⟨j, h⟩
    · exact .inl h
    · by_cases q : j = i
      · subst q
        have := h.1
        rw [S.get_eq hlt] at this
        cases this
      · exact .inr ⟨j, by rw [← S.get_ne (s := s) (x := .pub d) q]; exact h.1, h.2⟩
  have q := F.slots i
  rw [e] at q
  obtain ⟨p, hp, r⟩ := q
  have own : OwnA s σ i p := ⟨by rw [e]; rfl, hp⟩
  have nb : ¬ Br fm ex (s.set i (.pub d)) σ p := fun h => by
    rcases h with h | h | ⟨j, h⟩
    · exact (F.apF i p own).1 h
    · exact (F.apF i p own).2 h
    · exact (no j p h).1 (F.apO j i p (no j p h).2 own)
  have dr : DR G H (Br fm ex (s.set i (.pub d)) σ) d (.ref p) := by
    have up : Kp H H (Br fm ex s σ) (Br fm ex (s.set i (.pub d)) σ) := fun a o n z => ⟨z, fun q => n (hb a q)⟩
    cases d with
    | lst xs => obtain ⟨vs, z, t⟩ := r; exact ⟨p, vs, rfl, .inl ⟨nb, .inl z⟩, t.mono up⟩
    | dic xs => obtain ⟨vs, z, t⟩ := r; exact ⟨p, vs, rfl, nb, z, t.mono up⟩
    | _ => exact False.elim r
  refine ⟨F.slot i rfl (by simp [S.set]) rfl (fun _ _ => rfl) (fun j h => S.get_ne h) (fun _ h => h) hb ?_ fun a h => absurd rfl (no i a h).1, ⟨fun _ _ h _ => h, fun _ h => h, hb, hm⟩, fun v hv => ?_⟩
  · rw [S.get_eq hlt]
    exact ⟨_, hp, dr⟩
  · rw [hp] at hv
    cases hv
    exact dr
theorem esc_ok {r : RV} {v : V} {d : D} (F : FR G fc fm ex σ s H) (h : RR G fc fm ex σ s H r v) (e : esc s r = some (d, s')) : FR G fc fm ex σ s' H ∧ Stp fm ex σ s H s' H ∧ DR G H (Br fm ex s' σ) d v := by
  cases r with
  | d x => cases e; exact ⟨F, .refl, h⟩
  | own x => cases e; exact ⟨F, .refl, h.pub⟩
  | brw i =>
    simp only [esc] at e
    split at e
    · rename_i d0 e0
      cases e
      obtain ⟨h1, h2, h3⟩ := F.pubS e0
      exact ⟨h1, h2, h3 v h⟩
    · rename_i d0 e0
      cases e
      have q := F.slots i
      rw [e0] at q
      obtain ⟨w, e1, z⟩ := q
      rw [show σ[i]? = some (some v) from h] at e1
      cases e1
      exact ⟨F, .refl, z⟩
    · cases e
  | cell k => cases e

/-! ### argument lists -/
theorem a_nil : PA X [] (tA G run W []) := by
  refine PA.imp pa_nil fun σ H Q h => ?_
  obtain ⟨fc, fm, ex, s, F, p⟩ := h
  simp only [evEs] at p
  exact p.ok F rfl
theorem a_cons (ha : PE X a (tI G run W a')) (hr : PA X es (tA G run W es')) (hs : starEach (a :: es) X.env = (false, eval a X.env) :: starEach es X.env) : PA X (a :: es) (tA G run W (a' :: es')) := by
  refine PA.imp (pa_cons ha hr hs) fun σ H Q h => ?_
  obtain ⟨fc, fm, ex, s, F, p⟩ := h
  simp only [evEs] at p
  exact ⟨fc, fm, ex, s, F, p.bind.imp fun v H1 ⟨ra, s1, _, st1, F1, r1, p1⟩ => ⟨fc, fm, ex, s1, F1, p1.bind.imp fun ws H2 ⟨rs, s2, _, st2, F2, r2, p2⟩ => p2.ok F2 ⟨v, ws, rfl, wk_wk ra, r1.wk.stp st2, r2⟩⟩⟩
theorem x_nil : PA X [] (tX G run W []) := by
  refine PA.imp pa_nil fun σ H Q h => ?_
  obtain ⟨fc, fm, ex, s, F, p⟩ := h
  simp only [evXs] at p
  exact p.ok F rfl
theorem x_cons (ha : PE X a (tI G run W a')) (hr : PA X es (tX G run W es')) (hs : starEach (a :: es) X.env = (false, eval a X.env) :: starEach es X.env) : PA X (a :: es) (tX G run W (a' :: es')) := by
  refine PA.imp (pa_cons ha hr hs) fun σ H Q h => ?_
  obtain ⟨fc, fm, ex, s, F, p⟩ := h
  simp only [evXs] at p
  refine ⟨fc, fm, ex, s, F, p.bind.imp fun v H1 ⟨ra, s1, _, st1, F1, r1, p1⟩ => ?_⟩
  cases e : esc s1 ra with
  | none => rw [e] at p1; exact p1.elim
  | some q =>
    obtain ⟨d, s2⟩ := q
    rw [e] at p1
    obtain ⟨F2, st2, r2⟩ := esc_ok F1 r1 e
    exact ⟨fc, fm, ex, s2, F2, (Pst.from st2 p1).bind.imp fun ws H3 ⟨ds, s3, _, st3, F3, r3, p3⟩ => p3.ok F3 ⟨v, ws, rfl, r2.stp st3, r3⟩⟩
/-! ### displays -/
theorem e_tup {k} (h : PA X es (tX G run W es')) : PE X (.Tuple es k pos) (tI G run W (.tup es')) := by
  refine PE.imp (pe_tup h) fun σ H Q h => ?_
  obtain ⟨fc, fm, ex, s, F, p⟩ := h
  simp only [evE] at p
  refine ⟨fc, fm, ex, s, F, p.bind.imp fun vs H1 ⟨ds, s1, _, st1, F1, r1, p1⟩ => ?_⟩
  split at p1
  · rename_i hz
    have hl := DRs.length r1
    exact ⟨by rw [sizeSZ]; unfold SZ; omega, fun q hq => p1.okS (F1.alloc hq) (.alloc hq) (.newT F1 hq r1)⟩
  · exact p1.elim
theorem e_lst (h : PA X es (tX G run W es')) : PE X (.List es pos) (tI G run W (.lst es')) := by
  refine PE.imp (pe_lst h) fun σ H Q h => ?_
  obtain ⟨fc, fm, ex, s, F, p⟩ := h
  simp only [evE] at p
  refine ⟨fc, fm, ex, s, F, p.bind.imp fun vs H1 ⟨ds, s1, _, st1, F1, r1, p1⟩ => ?_⟩
  split at p1
  · rename_i hz
    have hl := DRs.length r1
    exact ⟨by rw [sizeSZ]; unfold SZ; omega, fun q hq => p1.okS (F1.alloc hq) (.alloc hq) (.newL F1 hq r1)⟩
  · exact p1.elim
/-! ### look-ups -/
theorem e_ix (hK : X.K = G.K) (hu : X.A.units + 1 < cLine) (hs : PlainIx b) (ha : PE X a (tI G run W a')) (hb : PE X b (tI G run W b')) : PE X (.Subscript a b pos) (tI G run W (.ix a' b')) := by
  obtain ⟨r, h1, h2⟩ := ix_ok (X := X) hu
  refine PE.imp (pe_ix h1 ha hb hs) fun σ H Q h => ?_
  obtain ⟨fc, fm, ex, s, F, p⟩ := h
  simp only [evE] at p
  refine ⟨fc, fm, ex, s, F, p.bind.imp fun v H1 ⟨ra, s1, _, st1, F1, r1, p1⟩ => ⟨fc, fm, ex, s1, F1, p1.bind.imp fun u H2 ⟨rb, s2, _, st2, F2, r2, p2⟩ => ?_⟩⟩
  obtain ⟨rv, e, k⟩ := p2.of
  obtain ⟨x, e1, e⟩ := Option.bind_eq_some_iff.mp e
  obtain ⟨y, e2, e⟩ := Option.bind_eq_some_iff.mp e
  obtain ⟨d, e3, rfl⟩ := Option.map_eq_some_iff.mp e
  exact h2 G fc fm ex σ s2 H2 v u x y d Q hK.symm F2 ((r1.wk.stp st2).rd F2 e1) (r2.data F2 e2) e3 fun v' r' => k v' H2 .refl F2 r'
def tO (G : Gx) (run : Run) (W : WX) (e : Option E) : TO := fun σ H Q => ∃ fc fm ex s, FR G fc fm ex σ s H ∧ Pst G fc fm ex σ W (fun _ _ a b => a = b) s H (evO G.P run e s) Q
theorem PO.imp {e : Option Expr} {t t' : TO} (h : PO X e t) (f : ∀ σ H Q, t' σ H Q → t σ H Q) : PO X e t' := ⟨fun pins s σ H Q I q => h.run pins s σ H Q I (f σ H Q q)⟩
theorem o_none : PO X none (tO G run W none) := by
  refine PO.imp po_none fun σ H Q h => ?_
  obtain ⟨fc, fm, ex, s, F, p⟩ := h
  simp only [evO] at p
  exact p.ok F rfl
theorem o_some (ha : PE X a (tI G run W a')) : PO X (some a) (tO G run W (some a')) := by
  refine PO.imp (po_some ha) fun σ H Q h => ?_
  obtain ⟨fc, fm, ex, s, F, p⟩ := h
  simp only [evO] at p
  refine ⟨fc, fm, ex, s, F, p.bind.imp fun v H1 ⟨ra, s1, _, st1, F1, r1, p1⟩ => ?_⟩
  split at p1
  · rename_i i e
    cases (show v = .int i from r1.data F1 e)
    exact ⟨i, rfl, p1.ok F1 rfl⟩
  · exact p1.elim
theorem e_sl {lo hi : Option Expr} {lo' hi' : Option E} {p2 : Pos} (hK : X.K = G.K) (ha : PE X a (tI G run W a')) (hl : PO X lo (tO G run W lo')) (hh : PO X hi (tO G run W hi')) :
    PE X (.Subscript a (.Slice lo hi none p2) pos) (tI G run W (.sl a' lo' hi')) := by
  obtain ⟨r, h1, h2⟩ := sl_ok (X := X)
  refine PE.imp (pe_slice h1 ha hl hh) fun σ H Q h => ?_
  obtain ⟨fc, fm, ex, s, F, p⟩ := h
  simp only [evE] at p
  refine ⟨fc, fm, ex, s, F, p.bind.imp fun v H1 ⟨ra, s1, _, st1, F1, r1, p1⟩ => ⟨fc, fm, ex, s1, F1, p1.bind.imp fun l H2 ⟨l', s2, _, st2, F2, e2, p2⟩ => ⟨fc, fm, ex, s2, F2, p2.bind.imp fun u H3 ⟨u', s3, _, st3, F3, e3, p3⟩ => ?_⟩⟩⟩
  cases e2
  cases e3
  obtain ⟨rv, e, k⟩ := p3.of
  obtain ⟨x, e1, e⟩ := Option.bind_eq_some_iff.mp e
  exact h2 G fc fm ex σ s3 H3 v x l u rv Q hK.symm F3 (((r1.wk.stp st2).stp st3).rd F3 e1) e k
theorem FRs.look {B : Bar} {f : Nat} {d : D} : ∀ {fs : List (Nat × D)} {gs : List (Str × V)}, (∀ p ∈ fs, (G.L.fld p.1 == G.L.fld f) = (p.1 == f)) → FRs G H B fs gs → fs.lookup f = some d → ∃ v, gs.lookup (G.L.fld f) = some v ∧ DR G H B d v
  | [], _, _, _, e => by cases e
  | (g, x) :: fs, _, hi, ⟨v, ws, e1, r, t⟩, e => by
    subst e1
    have h0 := hi (g, x) List.mem_cons_self
    simp only [List.lookup_cons] at e ⊢
    rw [BEq.comm (a := G.L.fld f), h0, BEq.comm]
    cases q : f == g with
    | true => rw [q] at e; cases e; exact ⟨v, rfl, r⟩
    | false => rw [q] at e; exact FRs.look (fun p hp => hi p (List.mem_cons_of_mem _ hp)) t e
theorem e_fld {f : Nat} (hK : X.K = G.K) (inj : ∀ g, (G.L.fld g == G.L.fld f) = (g == f)) (hC : ∀ c C, ClsOk G c C → NoAttr G.K C (G.L.fld f)) (hb : attributeBase a (G.L.fld f) X.env (eval a X.env) = eval a X.env) (ha : PE X a (tI G run W a')) :
    PE X (.Attribute a (G.L.fld f) pos) (tI G run W (.fld a' f)) := by
  refine PE.imp (pe_fld ha hb) fun σ H Q h => ?_
  obtain ⟨fc, fm, ex, s, F, p⟩ := h
  simp only [evE] at p
  refine ⟨fc, fm, ex, s, F, p.bind.imp fun v H1 ⟨ra, s1, _, st1, F1, r1, p1⟩ => ?_⟩
  cases ra with
  | brw i =>
    have q := F1.slots i
    simp only at p1
    cases e0 : s1.get i with
    | new c fs =>
      rw [e0] at q p1
      obtain ⟨p0, C, dx, gs, e1, e2, o, t⟩ := q
      obtain ⟨rv, e, k⟩ := p1.of
      obtain ⟨d, e3, rfl⟩ := Option.map_eq_some_iff.mp e
      rw [show σ[i]? = some (some v) from r1] at e1
      cases e1
      obtain ⟨w, h1, h2⟩ := t.look (fun p _ => inj p.1) e3
      exact ⟨p0, C, dx, gs, w, rfl, e2, by rw [hK]; exact o.1.cls, by rw [hK]; exact hC c C o.1, h1, k _ _ .refl F1 h2⟩
    | _ => rw [e0] at p1; exact p1.elim
  | d x =>
    cases x with
    | obj c fs =>
      obtain ⟨p0, C, dx, gs, rfl, _, e2, o, t⟩ := (show DR G H1 (Br fm ex s1 σ) (.obj c fs) v from r1)
      obtain ⟨rv, e, k⟩ := p1.of
      obtain ⟨d, e3, rfl⟩ := Option.map_eq_some_iff.mp e
      obtain ⟨w, h1, h2⟩ := t.look (fun p _ => inj p.1) e3
      exact ⟨p0, C, dx, gs, w, rfl, e2, by rw [hK]; exact o.cls, by rw [hK]; exact hC c C o, h1, k _ _ .refl F1 h2⟩
    | _ => exact p1.elim
  | own x => exact p1.elim
  | cell k => exact p1.elim
/-- a module's constant: a value, a tuple or list of the written part -/
theorem e_glo {g : Nat} {e : Expr} {d : D} {v : V} (hd : G.P.con g = some d) (hv : ∀ H B, DR G H B d v) (h : PE X e (tC v)) : PE X e (tI G run W (.glo g)) := by
  refine PE.imp h fun σ H Q h => ?_
  obtain ⟨fc, fm, ex, s, F, p⟩ := h
  simp only [evE, hd] at p
  exact p.ok F (hv _ _)
/-! ### built-in functions -/
theorem bi_imp {b : Bi} {r : List V → Hp → VK → Prop} (hK : X.K = G.K) (h2 : BiOk X b r) {Q : VK} (h : tI G run W (.bi b es') σ H Q) : tCB r (tA G run W es') σ H Q := by
  obtain ⟨fc, fm, ex, s, F, p⟩ := h
  simp only [evE] at p
  refine ⟨fc, fm, ex, s, F, p.bind.imp fun vs H1 ⟨rs, s1, _, st1, F1, r1, p1⟩ => ?_⟩
  obtain ⟨rv, e, k⟩ := p1.of
  obtain ⟨ds, e1, e⟩ := Option.bind_eq_some_iff.mp e
  exact h2.2 G fc fm ex σ s1 H1 vs ds rv Q hK.symm F1 (RL.data F1 r1 e1) e k
theorem biBoot (b : Bi) : b ≠ .join → bootBuiltins (biNm b) = some (biV b) := by cases b <;> first | (intro _; rfl) | (intro h; exact absurd rfl h)
theorem e_bi {b : Bi} {p : Pos} (hj : b ≠ .join) (hj2 : b ≠ .sortedSet) (hj3 : b ≠ .lenSet) (hc : X.calm = true) (hK : X.K = G.K) (hg : Gl X (biNm b)) (hm : X.mg (biNm b) = none) (ha : PA X (a :: es) (tA G run W es')) (he : starEach (a :: es) X.env = (false, eval a X.env) :: starEach es X.env)
    (hpl : (backTo pos (starEach es X.env)).any (·.1) = false) : PE X (.Call (.Name (biNm b) p) (a :: es) [] pos) (tI G run W (.bi b es')) := by
  obtain ⟨r, h⟩ := bi_ok (X := X) b hc hj hj2 hj3
  have hv := biBoot b hj
  have hn : (biNm b : Str) ≠ "__name__" := by cases b <;> decide
  have hdb : ((biNm b : Str) == ("__debug__" : Str)) = false := by cases b <;> decide
  have h1 := h.1
  unfold biV at hv h1
  cases q : biTy b with
  | true =>
    rw [q, if_pos rfl] at hv h1
    exact PE.imp (pe_callTy h1 hg hm hv ha hn hdb he hpl) fun σ H Q q => bi_imp hK h q
  | false =>
    rw [q, if_neg (by decide)] at hv h1
    exact PE.imp (pe_callB h1 hg hm hv ha hn hdb he hpl) fun σ H Q q => bi_imp hK h q
end
end Py
end SB9
section SB10
set_option autoImplicit false
set_option linter.all false
set_option maxRecDepth 100000
set_option maxHeartbeats 4000000
/-! The evaluator over the hand layer, 10: calls. -/
namespace Py
open PySem L2

/-! ### what a call asks and gives -/
def CellsOk (G : Gx) (H : Hp) (fm : List Addr) (cs : List (List D)) : Prop :=
  fm.length = cs.length ∧ ∀ (k : Nat) (xs : List D), cs[k]? = some xs → ∃ a vs, fm[k]? = some a ∧ H a = some (.lst vs) ∧ DRs G H (fun _ => False) xs vs ∧ xs.all flat = true
def AgR (G : Gx) (H : Hp) (B : Bar) (fm : List Addr) : Ag → V → Prop
  | .d x, v => DR G H B x v
  | .cell k, v => ∃ a, fm[k]? = some a ∧ v = .ref a
  | .new _, _ => False
def AgRs (G : Gx) (H : Hp) (B : Bar) (fm : List Addr) : List Ag → List V → Prop
  | [], vs => vs = []
  | r :: rs, vs => ∃ v ws, vs = v :: ws ∧ AgR G H B fm r v ∧ AgRs G H B fm rs ws
def RtR (G : Gx) (H0 H : Hp) (B : Bar) (fm : List Addr) : Rt → V → Prop
  | .d x, v => DR G H B x v
  | .own x, v => ∃ a, v = .ref a ∧ OwnAt G H (fun b => B b ∨ b = a) a x ∧ H0 a = none
  | .cell k, v => ∃ a, fm[k]? = some a ∧ v = .ref a
structure CPost (G : Gx) (H : Hp) (fm : List Addr) (cs' : List (List D)) (H' : Hp) : Prop where
  keep : ∀ a o, H a = some o → a ∉ fm → H' a = some o
  live : ∀ a, H a ≠ none → H' a ≠ none
  cells : CellsOk G H' fm cs'
abbrev CB (fm : List Addr) (ex : Bar) : Bar := fun a => a ∈ fm ∨ ex a
def SpR (G : Gx) (H : Hp) (fm : List Addr) (ex : Bar) (r : RO) (Q : VK) (E : XK) : Prop := match r with
  | .ok t cs' => ∀ v H', CPost G H fm cs' H' → RtR G H H' (CB fm ex) fm t v → Q v H'
  | .exc c fs cs' => ∀ C d H', CPost G H fm cs' H' → XR G H' (CB fm ex) c fs C d → E C d H'
  | .stuck => False
structure CPre (G : Gx) (H : Hp) (fm : List Addr) (ex : Bar) (cs : List (List D)) : Prop where
  cells : CellsOk G H fm cs
  nd : fm.Nodup
  exF : ∀ a, ex a → a ∉ fm
  exH : ∀ a, ex a → H a ≠ none
def SpF (G : Gx) (run : Run) (f np : Nat) : Sp := fun vs H Q E => vs.length = np ∧ ∃ as cs fm ex, CPre G H fm ex cs ∧ AgRs G H (CB fm ex) fm as vs ∧ SpR G H fm ex (run f as cs) Q E
/-- what __init__ asks and gives -/
def SpI (G : Gx) (run : Run) (c f np : Nat) : Sp := fun vs H Q E => vs.length = np ∧ ∃ x ws as cs fm ex H1 dx C, vs = .ref x :: ws ∧ ClsOk G c C ∧ H1 x = none ∧ H1 dx = none ∧ dx ≠ x ∧ H = upd (upd H1 dx (.own x)) x (.ins C dx []) ∧
  CPre G H1 fm ex cs ∧ AgRs G H1 (CB fm ex) fm as ws ∧ (match run f (.new c :: as) cs with
    | .ok (.d (.obj c' fs)) cs' => c' = c → ∀ H', CPost G H1 fm cs' H' → DR G H' (CB fm ex) (.obj c fs) (.ref x) → Q .non H'
    | .ok _ _ => True
    | .exc c fs cs' => ∀ C d H', CPost G H1 fm cs' H' → XR G H' (CB fm ex) c fs C d → E C d H'
    | .stuck => False)

section
variable {G : Gx} {fc : Fc} {fm : List Addr} {ex ex2 : Bar} {σ σ' : L2.St} {s s' s1 s2 : S} {H H1 H' : Hp} {W : WX} {run : Run} {X : Cx} {pos : Pos} {e : Expr} {es : List Expr} {es' : List E}

theorem AgRs.length {B : Bar} : ∀ {rs : List Ag} {vs : List V}, AgRs G H B fm rs vs → rs.length = vs.length
  | [], _, h => by cases h; rfl
  | _ :: _, _, ⟨_, _, e, _, t⟩ => by subst e; simp [AgRs.length t]
theorem FR.cellsOk (F : FR G fc fm ex σ s H) : CellsOk G H fm s.cells := ⟨F.fml, F.cells⟩

/-! ### data without lists and dicts -/
mutual
theorem DR.noRef {B B' : Bar} (hB : ∀ a, B' a → B a ∨ (∃ vs, H a = some (.lst vs)) ∨ ∃ kws, H a = some (.dK kws)) : ∀ (n : Nat) {d : D} {v : V}, noRef n d = true → DR G H B d v → DR G H B' d v
  | _, .non, _, _, h => h
  | _, .bl _, _, _, h => h
  | _, .int _, _, _, h => h
  | _, .str _, _, _, h => h
  | n + 1, .tup xs, v, f, h => by
    obtain ⟨a, vs, e, q, r⟩ := h
    refine ⟨a, vs, e, ?_, DRs.noRef hB n (by simpa [Py.noRef] using f) r⟩
    rcases q with ⟨nb, q⟩ | q
    · refine .inl ⟨fun z => ?_, q⟩
      rcases hB a z with z | ⟨ws, z⟩ | ⟨ws, z⟩
      · exact nb z
      · rcases q with q | ⟨o, q⟩ <;> (rw [q] at z; cases z)
      · rcases q with q | ⟨o, q⟩ <;> (rw [q] at z; cases z)
    · exact .inr q
  | n + 1, .obj c fs, v, f, h => by
    obtain ⟨a, C, dx, gs, e, nb, q, o, r⟩ := h
    refine ⟨a, C, dx, gs, e, fun z => ?_, q, o, FRs.noRef hB n (by simpa [Py.noRef] using f) r⟩
    rcases hB a z with z | ⟨ws, z⟩ | ⟨ws, z⟩
    · exact nb z
    · rw [q] at z; cases z
    · rw [q] at z; cases z
  | 0, .tup _, _, f, _ => by cases f
  | 0, .obj _ _, _, f, _ => by cases f
  | 0, .lst _, _, f, _ => by cases f
  | _ + 1, .lst _, _, f, _ => by cases f
  | 0, .dic _, _, f, _ => by cases f
  | _ + 1, .dic _, _, f, _ => by cases f
theorem DRs.noRef {B B' : Bar} (hB : ∀ a, B' a → B a ∨ (∃ vs, H a = some (.lst vs)) ∨ ∃ kws, H a = some (.dK kws)) : ∀ (n : Nat) {ds : List D} {vs : List V}, (∀ x ∈ ds, Py.noRef n x = true) → DRs G H B ds vs → DRs G H B' ds vs
  | _, [], _, _, h => h
  | n, x :: xs, _, f, h => by
    obtain ⟨v, ws, e, r, t⟩ := h
    exact ⟨v, ws, e, DR.noRef hB n (f x List.mem_cons_self) r, DRs.noRef hB n (fun y hy => f y (List.mem_cons_of_mem _ hy)) t⟩
theorem FRs.noRef {B B' : Bar} (hB : ∀ a, B' a → B a ∨ (∃ vs, H a = some (.lst vs)) ∨ ∃ kws, H a = some (.dK kws)) : ∀ (n : Nat) {ds : List (Nat × D)} {vs : List (Str × V)}, (∀ x y, (x, y) ∈ ds → Py.noRef n y = true) → FRs G H B ds vs → FRs G H B' ds vs
  | _, [], _, _, h => h
  | n, p :: xs, _, f, h => by
    obtain ⟨v, ws, e, r, t⟩ := h
    exact ⟨v, ws, e, DR.noRef hB n (f p.1 p.2 List.mem_cons_self) r, FRs.noRef hB n (fun x y hy => f x y (List.mem_cons_of_mem _ hy)) t⟩
end

/-! ### ahead of a call -/
/-- the object of a slot that is passed -/
def Lent (rs : List RV) (s : S) (σ : L2.St) (a : Addr) : Prop := ∃ i, RV.brw i ∈ rs ∧ OwnA s σ i a
/-- what a callee must leave alone -/
def exC (fm : List Addr) (ex : Bar) (s : S) (σ : L2.St) (rs : List RV) : Bar := fun a => Br fm ex s σ a ∧ a ∉ fm ∧ ¬ Lent rs s σ a
theorem agR_of (F : FR G fc fm ex σ s H) {rs : List RV} (hB : ∀ a, CB fm (exC fm ex s σ rs) a → Br fm ex s σ a) {r : RV} {v : V} {g : Ag} (k : wk r = r) (hm : r ∈ rs) (h : RR G fc fm ex σ s H r v) (e : agOf s r = some g) : AgR G H (CB fm (exC fm ex s σ rs)) fm g v := by
  have up : Kp H H (Br fm ex s σ) (CB fm (exC fm ex s σ rs)) := fun a o n z => ⟨z, fun q => n (hB a q)⟩
  cases r with
  | d x =>
    cases e
    exact DR.mono up h
  | own x => cases k
  | cell k => cases e; exact h
  | brw i =>
    have h : σ[i]? = some (some v) := h
    have q := F.slots i
    simp only [agOf, rdat] at e
    have own : ∀ d, owns (s.get i) = true → (∃ a, σ[i]? = some (some (.ref a)) ∧ OwnAt G H (Br fm ex s σ) a d) → DR G H (CB fm (exC fm ex s σ rs)) d v := by
      intro d ho ⟨a, ea, z⟩
      rw [h] at ea
      cases ea
      have oa : OwnA s σ i a := ⟨ho, h⟩
      have nb : ¬ CB fm (exC fm ex s σ rs) a := fun w => w.elim (F.apF i a oa).1 fun w => w.2.2 ⟨i, hm, oa⟩
      cases d with
      | lst xs => obtain ⟨vs, z, t⟩ := z; exact ⟨a, vs, rfl, .inl ⟨nb, .inl z⟩, t.mono up⟩
      | dic xs => obtain ⟨vs, z, t⟩ := z; exact ⟨a, vs, rfl, nb, z, t.mono up⟩
      | _ => exact False.elim z
    cases es : s.get i with
    | own d => rw [es] at e q; cases e; exact own d (by rw [es]; rfl) q
    | lent d => rw [es] at e q; cases e; exact own d (by rw [es]; rfl) q
    | pub d =>
      rw [es] at e q
      cases e
      obtain ⟨w, e1, z⟩ := q
      rw [h] at e1
      cases e1
      exact DR.mono up z
    | _ => rw [es] at e; cases e
theorem exC_br (rs : List RV) : ∀ a, CB fm (exC fm ex s σ rs) a → Br fm ex s σ a := fun a h => h.elim .inl fun h => h.1
theorem agRs_of (F : FR G fc fm ex σ s H) (rs0 : List RV) : ∀ {rs : List RV} {vs : List V} {as : List Ag}, (∀ r ∈ rs, r ∈ rs0) → RL G fc fm ex σ s H rs vs → agsOf s rs = some as → AgRs G H (CB fm (exC fm ex s σ rs0)) fm as vs
  | [], _, _, _, h, e => by cases h; cases e; rfl
  | r :: rs, _, _, hm, ⟨v, ws, e1, k, h, t⟩, e => by
    obtain ⟨x, h1, h2⟩ := Option.bind_eq_some_iff.mp (show (agOf s r).bind (fun x => (agsOf s rs).map fun xs => x :: xs) = some _ from e)
    obtain ⟨xs, h3, rfl⟩ := Option.map_eq_some_iff.mp h2
    exact ⟨v, ws, e1, agR_of F (exC_br rs0) k (hm r List.mem_cons_self) h h1, agRs_of F rs0 (fun r hr => hm r (List.mem_cons_of_mem _ hr)) t h3⟩
theorem FR.cpre (F : FR G fc fm ex σ s H) (rs : List RV) : CPre G H fm (exC fm ex s σ rs) s.cells := ⟨F.cellsOk, F.nd, fun a h => h.2.1, fun a h => F.brH h.1⟩

/-! ### behind a call -/
theorem FR.call (F : FR G fc fm ex σ s H) {cs : List (List D)} (p : CPost G H fm cs H') (hx : ∀ a, ex2 a → ex a ∨ (H a = none ∧ H' a ≠ none)) : FR G fc fm ex2 σ { s with cells := cs } H' where
  len := F.len
  fml := p.cells.1
  nd := F.nd
  cells := p.cells.2
  slots := fun i => by
    have q := F.slots i
    show SlOk G fc fm H' (Br fm ex2 { s with cells := cs } σ) σ[i]? (s.get i)
    have keep : ∀ a o, OwnA s σ i a → H a = some o → H' a = some o := fun a o h z => p.keep a o z (F.apF i a h).1
    have up : Kp H H' (Br fm ex s σ) (Br fm ex2 { s with cells := cs } σ) := fun a o n z => ⟨p.keep a o z fun w => n (.inl w), fun w => by
      rcases w with w | w | w
      · exact n (.inl w)
      · rcases hx a w with w | ⟨w, _⟩
        · exact n (.inr (.inl w))
        · rw [w] at z; cases z
      · exact n (.inr (.inr w))⟩
    cases e : s.get i with
    | non => trivial
    | rng xs => rw [e] at q; obtain ⟨r, lo, hi, e1, nb, e2, e3⟩ := q; exact ⟨r, lo, hi, e1, (up r _ nb e2).2, (up r _ nb e2).1, e3⟩
    | itr xs => rw [e] at q; exact q
    | pub d => rw [e] at q; obtain ⟨v, e1, r⟩ := q; exact ⟨v, e1, r.mono up⟩
    | own d => rw [e] at q; obtain ⟨a, e1, r⟩ := q; exact ⟨a, e1, r.mono up fun o z => keep a o ⟨by rw [e]; rfl, e1⟩ z⟩
    | lent d => rw [e] at q; obtain ⟨a, e1, r⟩ := q; exact ⟨a, e1, r.mono up fun o z => keep a o ⟨by rw [e]; rfl, e1⟩ z⟩
    | cell k => rw [e] at q; exact q
    | new c fs => rw [e] at q; obtain ⟨a, C, dx, gs, e1, e2, o, r⟩ := q; exact ⟨a, C, dx, gs, e1, keep a _ ⟨by rw [e]; rfl, e1⟩ e2, o, r.mono up⟩
    | exc c fs => rw [e] at q; obtain ⟨a, e1, r⟩ := q; exact ⟨a, e1, r.mono up⟩
  apF := fun i a h => ⟨(F.apF i a h).1, fun z => by
    rcases hx a z with z | ⟨z, _⟩
    · exact (F.apF i a h).2 z
    · exact F.brH (.inr (.inr ⟨i, h⟩)) z⟩
  apO := F.apO
  exF := fun a h z => by
    rcases hx a h with h | ⟨h, _⟩
    · exact F.exF a h z
    · exact F.brH (.inl z) h
  exH := fun a h => by
    rcases hx a h with h | ⟨_, h⟩
    · exact p.live a (F.exH a h)
    · exact h
  base := fun a o h n => p.keep a o (F.base a o h n) fun z => by
    obtain ⟨k, hk⟩ := List.getElem?_of_mem z
    rcases F.newF k a hk with w | w
    · rw [w] at h; cases h
    · exact n w
  newO := F.newO
  newL := F.newL
  newF := F.newF
  pre := F.pre
  m0 := F.m0
  m1 := fun a h => p.live a (F.m1 a h)
theorem Stp.call {cs : List (List D)} (p : CPost G H fm cs H') : Stp fm ex σ s H { s with cells := cs } H' :=
  ⟨fun a o h n => p.keep a o h fun z => n (.inl z), p.live, fun _ h => h, fun _ h => h⟩
/-- passed slots are published -/
theorem pubAll_ok : ∀ {rs : List RV} {s s2 : S}, FR G fc fm ex σ s H → pubAll s rs = some s2 → FR G fc fm ex σ s2 H ∧ Stp fm ex σ s H s2 H ∧ s2.cells = s.cells ∧ (∀ i a, OwnA s2 σ i a → OwnA s σ i a) ∧ ∀ i, RV.brw i ∈ rs → owns (s2.get i) = false
  | [], s, s2, F, e => by cases e; exact ⟨F, .refl, rfl, fun _ _ h => h, fun _ h => by cases h⟩
  | r :: rs, s, s2, F, e => by
    have go : ∀ {s1 : S}, FR G fc fm ex σ s1 H → Stp fm ex σ s H s1 H → s1.cells = s.cells → (∀ i a, OwnA s1 σ i a → OwnA s σ i a) → (∀ i, r = .brw i → owns (s1.get i) = false ∧ ∃ a, σ[i]? = some (some a)) → pubAll s1 rs = some s2 → _ := fun {s1} F1 st1 hc1 h1 h2 e1 => by
      obtain ⟨F2, st2, hc2, h3, h4⟩ := pubAll_ok F1 e1
      refine (⟨F2, st1.trans st2, hc2.trans hc1, fun i a h => h1 i a (h3 i a h), fun i hi => ?_⟩ : FR G fc fm ex σ s2 H ∧ Stp fm ex σ s H s2 H ∧ s2.cells = s.cells ∧ (∀ i a, OwnA s2 σ i a → OwnA s σ i a) ∧ ∀ i, RV.brw i ∈ r :: rs → owns (s2.get i) = false)
      rcases List.mem_cons.mp hi with hi | hi
      · obtain ⟨n, v, hv⟩ := h2 i hi.symm
        cases q : owns (s2.get i) with
        | false => rfl
        | true =>
          have z := F2.slots i
          have : ∃ a, σ[i]? = some (some (.ref a)) := by
            revert q z
            cases s2.get i with
            | own d => intro _ ⟨a, z, _⟩; exact ⟨a, z⟩
            | lent d => intro _ ⟨a, z, _⟩; exact ⟨a, z⟩
            | new c fs => intro _ ⟨a, _, _, _, z, _⟩; exact ⟨a, z⟩
            | _ => intro q; cases q
          obtain ⟨a, ha⟩ := this
          rw [(h3 i a ⟨q, ha⟩).1] at n
          cases n
      · exact h4 i hi
    cases r with
    | brw i =>
      simp only [pubAll] at e
      cases q : s.get i with
      | own d =>
        rw [q] at e
        obtain ⟨F1, st1, _⟩ := F.pubS q
        have hlt : i < s.env.length := S.get_lt (by rw [q]; exact fun z => nomatch z)
        refine go F1 st1 rfl (fun j a h => ?_) (fun j hj => ?_) e
        · by_cases hj : j = i
          · subst hj
            have := h.1
            rw [S.get_eq hlt] at this
            cases this
          · exact ⟨by rw [← S.get_ne (s := s) (x := .pub d) hj]; exact h.1, h.2⟩
        · cases hj
          have z := F.slots i
          rw [q] at z
          obtain ⟨a, z, _⟩ := z
          exact ⟨by rw [S.get_eq hlt]; rfl, _, z⟩
      | pub d =>
        rw [q] at e
        have z := F.slots i
        rw [q] at z
        obtain ⟨v, z, _⟩ := z
        exact go F .refl rfl (fun _ _ h => h) (fun j hj => by cases hj; exact ⟨by rw [q]; rfl, _, z⟩) e
      | _ => rw [q] at e; cases e
    | d x => exact go F .refl rfl (fun _ _ h => h) (fun j hj => by cases hj) e
    | own x => exact go F .refl rfl (fun _ _ h => h) (fun j hj => by cases hj) e
    | cell k => exact go F .refl rfl (fun _ _ h => h) (fun j hj => by cases hj) e
/-- what is barred behind the call was barred within, or was passed and is a list or a dict -/
theorem bars_pub (F : FR G fc fm ex σ s H) {rs : List RV} (ho : ∀ i a, OwnA s2 σ i a → OwnA s σ i a) (hn : ∀ i, RV.brw i ∈ rs → owns (s2.get i) = false) : ∀ a, Br fm ex s2 σ a → CB fm (exC fm ex s σ rs) a := fun a h => by
  rcases h with h | h | ⟨j, h⟩
  · exact .inl h
  · exact .inr ⟨.inr (.inl h), F.exF a h, fun ⟨i, _, z⟩ => (F.apF i a z).2 h⟩
  · have h' := ho j a h
    refine .inr ⟨.inr (.inr ⟨j, h'⟩), (F.apF j a h').1, fun ⟨i, hi, z⟩ => ?_⟩
    have := F.apO i j a z h'
    subst this
    have := hn i hi
    rw [h.1] at this
    cases this
theorem bars_safe (F : FR G fc fm ex σ s H) {rs : List RV} (hr : ∀ i, RV.brw i ∈ rs → ∃ d, rdat s (.brw i) = some d) (keep : ∀ a o, H a = some o → a ∉ fm → H' a = some o) : ∀ a, Br fm ex s σ a → CB fm (exC fm ex s σ rs) a ∨ (∃ vs, H' a = some (.lst vs)) ∨ ∃ kws, H' a = some (.dK kws) := fun a h => by
  by_cases hl : Lent rs s σ a
  · obtain ⟨i, hi, z⟩ := hl
    have nf := (F.apF i a z).1
    have q := F.slots i
    obtain ⟨d, hd⟩ := hr i hi
    simp only [rdat] at hd
    have own : ∀ d, (∃ a, σ[i]? = some (some (.ref a)) ∧ OwnAt G H (Br fm ex s σ) a d) → (∃ vs, H' a = some (.lst vs)) ∨ ∃ kws, H' a = some (.dK kws) := by
      intro d ⟨b, eb, w⟩
      rw [z.2] at eb
      cases eb
      cases d with
      | lst xs => obtain ⟨vs, w, _⟩ := w; exact .inl ⟨vs, keep a _ w nf⟩
      | dic xs => obtain ⟨vs, w, _⟩ := w; exact .inr ⟨vs, keep a _ w nf⟩
      | _ => exact False.elim w
    have z1 := z.1
    cases e : s.get i with
    | own d => rw [e] at q; exact .inr (own d q)
    | lent d => rw [e] at q; exact .inr (own d q)
    | new c fs => rw [e] at hd; cases hd
    | _ => rw [e] at z1; cases z1
  · left
    rcases h with h | h | ⟨j, h⟩
    · exact .inl h
    · exact .inr ⟨.inr (.inl h), F.exF a h, hl⟩
    · exact .inr ⟨.inr (.inr ⟨j, h⟩), (F.apF j a h).1, hl⟩
theorem hasBrw_no : ∀ {rs : List RV}, hasBrw rs = false → ∀ i, RV.brw i ∉ rs
  | [], _, _, h => by cases h
  | r :: rs, e, i, h => by
    cases r with
    | brw j => cases e
    | _ =>
      rcases List.mem_cons.mp h with h | h
      · cases h
      · exact hasBrw_no (rs := rs) e i h
theorem agsOf_rd : ∀ {rs : List RV} {as : List Ag}, agsOf s rs = some as → ∀ i, RV.brw i ∈ rs → ∃ d, rdat s (.brw i) = some d
  | [], _, _, _, h => by cases h
  | r :: rs, _, e, i, h => by
    obtain ⟨x, h1, h2⟩ := Option.bind_eq_some_iff.mp (show (agOf s r).bind (fun x => (agsOf s rs).map fun xs => x :: xs) = some _ from e)
    obtain ⟨xs, h3, rfl⟩ := Option.map_eq_some_iff.mp h2
    rcases List.mem_cons.mp h with h | h
    · subst h
      simp only [agOf] at h1
      obtain ⟨d, h1, _⟩ := Option.map_eq_some_iff.mp h1
      exact ⟨d, h1⟩
    · exact agsOf_rd h3 i h
/-- the state behind a call -/
theorem behind {rs : List RV} {as : List Ag} {cs : List (List D)} (F : FR G fc fm ex σ s H) (ha : agsOf s rs = some as) (p : CPost G H fm cs H') {safe : Bool} {α : Type} {k : S → Out α} {Q : Out α → Prop}
    (h : Q (match hasBrw rs && !safe with
      | false => k { s with cells := cs }
      | true => (match pubAll s rs with
        | some s1 => k { s1 with cells := cs }
        | none => .stuck))) (hns : ¬ Q .stuck) : ∃ s2, Q (k { s2 with cells := cs }) ∧ FR G fc fm ex σ s2 H ∧ Stp fm ex σ s H s2 H ∧
      ((∀ a, Br fm ex s2 σ a → CB fm (exC fm ex s σ rs) a) ∨ (safe = true ∧ ∀ a, Br fm ex s2 σ a → CB fm (exC fm ex s σ rs) a ∨ (∃ vs, H' a = some (.lst vs)) ∨ ∃ kws, H' a = some (.dK kws))) := by
  cases hb : hasBrw rs with
  | false =>
    rw [hb] at h
    exact ⟨s, h, F, .refl, .inl (bars_pub F (fun _ _ h => h) fun i hi => absurd hi (hasBrw_no hb i))⟩
  | true =>
    cases safe with
    | true =>
      rw [hb] at h
      exact ⟨s, h, F, .refl, .inr ⟨rfl, bars_safe F (agsOf_rd ha) p.keep⟩⟩
    | false =>
      rw [hb] at h
      cases e : pubAll s rs with
      | none => rw [e] at h; exact absurd h hns
      | some s2 =>
        rw [e] at h
        obtain ⟨F2, st2, _, h3, h4⟩ := pubAll_ok F e
        exact ⟨s2, h, F2, st2, .inl (bars_pub F h3 h4)⟩
theorem DR.bars {n : Nat} {B B' : Bar} {d : D} {v : V} {safe : Bool} (hs : safe = true → Py.noRef n d = true) (h : DR G H B d v)
    (hB : (∀ a, B' a → B a) ∨ (safe = true ∧ ∀ a, B' a → B a ∨ (∃ vs, H a = some (.lst vs)) ∨ ∃ kws, H a = some (.dK kws))) : DR G H B' d v := by
  rcases hB with hB | ⟨e, hB⟩
  · exact h.mono fun a o n z => ⟨z, fun q => n (hB a q)⟩
  · exact DR.noRef hB n (hs e) h
/-- an answer -/
theorem after_ok {rs : List RV} {as : List Ag} {ro : RO} {Q : VK} (F : FR G fc fm ex σ s H) (ha : agsOf s rs = some as) (h : Pst G fc fm ex σ W (RE G fc fm ex σ) s H (after s rs ro) Q) :
    SpR G H fm (exC fm ex s σ rs) ro Q (WE W σ) := by
  cases ro with
  | stuck => exact h
  | ok t cs =>
    intro v H' p r
    obtain ⟨s2, q, F2, st2, hB⟩ := behind (k := fun z => .ok (rvOf t) z) (Q := fun o => Pst G fc fm ex σ W (RE G fc fm ex σ) s H o Q) F ha p (safe := safeRt t) h (fun z => z)
    have st : Stp fm ex σ s H { s2 with cells := cs } H' := st2.trans (.call p)
    have F3 : FR G fc fm ex σ { s2 with cells := cs } H' := F2.call p fun _ h => .inl h
    refine q v H' st F3 ?_
    cases t with
    | d x => exact DR.bars (n := 8) (fun e => e) r hB
    | cell k => exact r
    | own x =>
      obtain ⟨a, rfl, w, hn⟩ := r
      have hal : H' a ≠ none := by
        cases x with
        | lst xs => obtain ⟨vs, w, _⟩ := w; rw [w]; simp
        | dic xs => obtain ⟨vs, w, _⟩ := w; rw [w]; simp
        | _ => exact False.elim w
      refine ⟨a, rfl, ?_, F2.call p fun b hb => ?_, fun z => F2.brH z hn, .inl (F2.fresh0 hn)⟩
      · have hB2 : (∀ b, Br fm (fun b => ex b ∨ b = a) { s2 with cells := cs } σ b → (CB fm (exC fm ex s σ rs) b ∨ b = a)) ∨ (safeRt (.own x) = true ∧ ∀ b, Br fm (fun b => ex b ∨ b = a) { s2 with cells := cs } σ b → (CB fm (exC fm ex s σ rs) b ∨ b = a) ∨ (∃ vs, H' b = some (.lst vs)) ∨ ∃ kws, H' b = some (.dK kws)) := by
          have sp : ∀ b, Br fm (fun b => ex b ∨ b = a) { s2 with cells := cs } σ b → Br fm ex s2 σ b ∨ b = a := fun b hb => by
            rcases hb with hb | (hb | hb) | hb
            · exact .inl (.inl hb)
            · exact .inl (.inr (.inl hb))
            · exact .inr hb
            · exact .inl (.inr (.inr hb))
          rcases hB with hB | ⟨e, hB⟩
          · exact .inl fun b hb => (sp b hb).elim (fun z => .inl (hB b z)) .inr
          · refine .inr ⟨e, fun b hb => ?_⟩
            rcases sp b hb with z | z
            · rcases hB b z with z | z
              · exact .inl (.inl z)
              · exact .inr z
            · exact .inl (.inr z)
        cases x with
        | lst xs =>
          obtain ⟨vs, w, t⟩ := w
          refine ⟨vs, w, ?_⟩
          rcases hB2 with hB2 | ⟨e, hB2⟩
          · exact t.mono fun b o n z => ⟨z, fun q => n (hB2 b q)⟩
          · exact DRs.noRef hB2 8 (by simpa [safeRt] using e) t
        | dic xs =>
          obtain ⟨vs, w, t⟩ := w
          refine ⟨vs, w, ?_⟩
          rcases hB2 with hB2 | ⟨e, hB2⟩
          · exact t.mono fun b o n z => ⟨z, fun q => n (hB2 b q)⟩
          · cases e
        | _ => exact False.elim w
      · rcases hb with hb | hb
        · exact .inl hb
        · rw [hb]; exact .inr ⟨hn, hal⟩
  | exc c fs cs =>
    intro C d H' p r
    obtain ⟨s2, q, F2, st2, hB⟩ := behind (k := fun z => .exc c fs z) (Q := fun o => Pst G fc fm ex σ W (RE G fc fm ex σ) s H o Q) F ha p (safe := fs.all (noRef 8)) h (fun z => z)
    have st : Stp fm ex σ s H { s2 with cells := cs } H' := st2.trans (.call p)
    have F3 : FR G fc fm ex σ { s2 with cells := cs } H' := F2.call p fun _ h => .inl h
    refine q C d H' st F3 ?_
    obtain ⟨ca, h1, h2, h3, h4⟩ := r
    refine ⟨ca, h1, h2, h3, ?_⟩
    rcases h4 with h4 | ⟨dx, gs, e1, e2, e3, t⟩
    · exact .inl h4
    · refine .inr ⟨dx, gs, e1, e2, fun z => ?_, ?_⟩
      · rcases hB with hB | ⟨e, hB⟩
        · exact e3 (hB dx z)
        · rcases hB dx z with w | ⟨vs, w⟩ | ⟨vs, w⟩
          · exact e3 w
          · rw [e2] at w; cases w
          · rw [e2] at w; cases w
      · rcases hB with hB | ⟨e, hB⟩
        · exact t.mono fun a o n z => ⟨z, fun q => n (hB a q)⟩
        · refine FRs.noRef hB 8 (fun x y hxy => ?_) t
          have := List.all_eq_true.mp e y (List.of_mem_zip hxy).2
          exact this
theorem call_imp {f np : Nat} {rs : List RV} {vs : List V} {Q : VK} (F : FR G fc fm ex σ s H) (r : RL G fc fm ex σ s H rs vs) (hl : vs.length = np) (h : Pst G fc fm ex σ W (RE G fc fm ex σ) s H (callU run f rs s) Q) : SpF G run f np vs H Q (WE W σ) := by
  unfold callU at h
  cases e : agsOf s rs with
  | none => rw [e] at h; exact h.elim
  | some as =>
    rw [e] at h
    exact ⟨hl, as, s.cells, fm, exC fm ex s σ rs, F.cpre rs, agRs_of F rs (fun _ h => h) r e, after_ok F e h⟩
end
end Py
end SB10
section SB11
set_option autoImplicit false
set_option linter.all false
set_option maxRecDepth 100000
set_option maxHeartbeats 4000000
/-! The evaluator over the hand layer, 11: how arguments are bound. -/
namespace Py
open PySem L2

/-- plain parameters alone -/
structure PlainP (fd : FuncData) (ps : List Str) : Prop where
  po : fd.params.posonlyargs = []
  ar : fd.params.args.map (·.arg) = ps
  ko : fd.params.kwonlyargs = []
  va : fd.params.vararg = none
  kw : fd.params.kwarg = none
/-- the keywords are parameters, each once, none of those that stand by place -/
def kwOk (ps : List Str) : List Str → List Str → Bool
  | _, [] => true
  | have_, k :: r => ps.contains k && !have_.contains k && kwOk ps (have_ ++ [k]) r
theorem lookup_none {have_ : List Str} : ∀ {l : List (Str × Value)} {k : Str}, (∀ p ∈ l, p.1 ∈ have_) → have_.contains k = false → l.lookup k = none
  | [], _, _, _ => rfl
  | (a, v) :: r, k, h, n => by
    have h1 : (k == a) = false := by
      cases q : k == a with
      | false => rfl
      | true =>
        have e : k = a := by simpa using q
        rw [e, List.contains_iff_mem.mpr (h (a, v) List.mem_cons_self)] at n
        cases n
    rw [List.lookup_cons, h1]
    exact lookup_none (fun p hp => h p (List.mem_cons_of_mem _ hp)) n
theorem kw_loop {ps : List Str} (f : Str × Value → List (Str × Value) × List (Str × Value) → Sem (ForInStep (List (Str × Value) × List (Str × Value))))
    (hf : ∀ x st, ps.contains x.1 = true → (st.1.lookup x.1).isSome = false → f x st = pure (.yield (st.1 ++ [x], st.2))) :
    ∀ (kw : List (Str × Value)) (have_ : List Str) (sl ext : List (Str × Value)), (∀ p ∈ sl, p.1 ∈ have_) → kwOk ps have_ (kw.map (·.1)) = true → forIn kw (sl, ext) f = (pure (sl ++ kw, ext) : Sem _)
  | [], _, sl, ext, _, _ => by simp
  | x :: kw, have_, sl, ext, h, e => by
    simp only [List.map_cons, kwOk, Bool.and_eq_true, Bool.not_eq_true'] at e
    have hl := lookup_none h e.1.2
    rw [List.forIn_cons, hf x (sl, ext) e.1.1 (by rw [hl]; rfl), pure_bind]
    have ih := kw_loop f hf kw (have_ ++ [x.1]) (sl ++ [x]) ext (fun p hp => by
      rcases List.mem_append.mp hp with hp | hp
      · exact List.mem_append_left _ (h p hp)
      · rw [List.mem_singleton.mp hp]; simp) e.2
    simpa using ih
/-- the slots with the defaults that lack -/
def fillD (sl : List (Str × Value)) : List (Str × Value) → List (Str × Value)
  | [] => sl
  | (n, d) :: r => fillD (if (sl.lookup n).isNone then sl ++ [(n, d)] else sl) r
theorem fill_loop (f : Str × Value → List (Str × Value) → Sem (ForInStep (List (Str × Value)))) (hf : ∀ x sl, f x sl = pure (.yield (if (sl.lookup x.1).isNone then sl ++ [x] else sl))) :
    ∀ (ds : List (Str × Value)) (sl : List (Str × Value)), forIn ds sl f = (pure (fillD sl ds) : Sem _)
  | [], sl => by simp [fillD]
  | x :: ds, sl => by
    rw [List.forIn_cons, hf, pure_bind]
    exact fill_loop f hf ds _
/-- what is bound -/
def bound (ps : List Str) (us : List Value) (kw : List (Str × Value)) (its : List Value) : List (Str × Value) :=
  ps.filterMap fun n => ((fillD (ps.zip us ++ kw) ((ps.drop (ps.length - its.length)).zip its)).lookup n).map (n, ·)
theorem bind_plain {fd : FuncData} {ps : List Str} (h : PlainP fd ps) {us : List Value} {kw : List (Str × Value)} (hu : us.length ≤ ps.length) (hk : kwOk ps (ps.take us.length) (kw.map (·.1)) = true) (nd : Nat) (hnd : nd ≤ ps.length)
    (hm : ((ps.take (ps.length - nd)).filter fun n => ((ps.zip us ++ kw).lookup n).isNone) = []) :
    ∃ k, bindArgs fd ⟨us, kw⟩ = seqItems? fd.defaults >>= k ∧ ∀ o : Option (Array Value), ((o.getD #[]).toList).length = nd → k o = pure (bound ps us kw (o.getD #[]).toList) := by
  unfold bindArgs
  simp only [h.po, h.ar, h.ko, h.va, h.kw, List.map_nil, List.nil_append, List.append_nil, Option.isNone_none, Bool.and_true]
  rw [kw_loop (ps := ps) _ ?_ kw (ps.take us.length) (ps.zip us) [] ?_ hk]
  · simp only [pure_bind]
    refine ⟨_, rfl, fun o ho => ?_⟩
    have h1 : decide (us.length > ps.length) = false := by simp; omega
    have h2 : nd - ps.length = 0 := by omega
    generalize (o.getD #[]).toList = its at ho ⊢
    subst ho
    rw [h1, if_neg (by decide)]
    simp only [h2, List.drop_zero, hm, List.isEmpty_nil, Bool.not_true, Bool.false_eq_true, if_false]
    rw [fill_loop _ (fun x sl => by split <;> simp_all)]
    simp only [pure_bind, List.forIn_nil, List.isEmpty_nil, Bool.not_true, Bool.false_eq_true, if_false]
    rfl
  · intro x st h1 h2
    simp only [h1, h2, Bool.true_or, if_true, Bool.false_eq_true, if_false]
  · intro p hp
    obtain ⟨i, hi⟩ := List.getElem?_of_mem hp
    rw [List.getElem?_zip_eq_some] at hi
    refine List.mem_of_getElem? (i := i) ?_
    have := (List.getElem?_eq_some_iff.mp hi.2).1
    rw [List.getElem?_take_of_lt this]
    exact hi.1

/-! ### what is bound, by place -/
theorem lookup_zip {names : List Str} : ∀ {vals : List Value} {j : Nat} {p : Str} {v : Value}, names.Nodup → names[j]? = some p → vals[j]? = some v → (names.zip vals).lookup p = some v := by
  induction names with
  | nil => intro _ _ _ _ _ h _; simp at h
  | cons a r ih =>
    intro vals j p v nd h1 h2
    cases vals with
    | nil => simp at h2
    | cons u us =>
      cases j with
      | zero =>
        simp at h1 h2
        subst h1 h2
        simp [List.lookup_cons]
      | succ j =>
        simp at h1 h2
        have : (p == a) = false := by
          cases q : p == a with
          | false => rfl
          | true =>
            have e : p = a := by simpa using q
            exact absurd (e ▸ List.mem_of_getElem? h1) (List.nodup_cons.mp nd).1
        rw [List.zip_cons_cons, List.lookup_cons, this]
        exact ih (List.nodup_cons.mp nd).2 h1 h2
theorem lookup_out {names : List Str} : ∀ {vals : List Value} {p : Str}, p ∉ names → (names.zip vals).lookup p = none := by
  induction names with
  | nil => intro _ _ _; rfl
  | cons a r ih =>
    intro vals p h
    cases vals with
    | nil => rfl
    | cons u us =>
      have : (p == a) = false := by
        cases q : p == a with
        | false => rfl
        | true => exact absurd (by rw [show p = a by simpa using q]; exact List.mem_cons_self) h
      rw [List.zip_cons_cons, List.lookup_cons, this]
      exact ih fun z => h (List.mem_cons_of_mem _ z)
theorem lookup_app {l m : List (Str × Value)} {p : Str} : (l ++ m).lookup p = (l.lookup p).or (m.lookup p) := by
  induction l with
  | nil => rfl
  | cons a r ih =>
    obtain ⟨n, v⟩ := a
    rw [List.cons_append, List.lookup_cons, List.lookup_cons]
    cases p == n with
    | true => rfl
    | false => exact ih
theorem fillD_keep {p : Str} {v : Value} : ∀ {ds sl : List (Str × Value)}, sl.lookup p = some v → (fillD sl ds).lookup p = some v
  | [], _, h => h
  | (n, d) :: ds, sl, h => by
    unfold fillD
    refine fillD_keep ?_
    split
    · rw [lookup_app, h]; rfl
    · exact h
theorem fillD_new {p : Str} : ∀ {ds sl : List (Str × Value)}, sl.lookup p = none → (fillD sl ds).lookup p = ds.lookup p
  | [], _, h => h
  | (n, d) :: ds, sl, h => by
    unfold fillD
    rw [List.lookup_cons]
    cases q : p == n with
    | true =>
      have e : p = n := by simpa using q
      subst e
      rw [h]
      simp only [Option.isNone_none, if_true]
      refine fillD_keep ?_
      rw [lookup_app, h]
      simp [List.lookup_cons]
    | false =>
      refine fillD_new ?_
      split
      · rw [lookup_app, h]
        simp [List.lookup_cons, q]
      · exact h
/-- a placed value -/
def placeV (vs : List V) : List (Nat ⊕ D) → Option (List V)
  | [] => some []
  | .inl j :: r => (vs[j]?).bind fun x => (placeV vs r).map (x :: ·)
  | .inr d :: r => (conV d).bind fun x => (placeV vs r).map (x :: ·)
/-- places by the names: the given ones, then the defaults (dn their parameters, dd their data) -/
def ixOk (names dn : List Str) (dd : List D) : List Str → List (Nat ⊕ D) → Bool
  | [], [] => true
  | p :: ps, .inl j :: r => names[j]? == some p && ixOk names dn dd ps r
  | p :: ps, .inr d :: r => !names.contains p && (match (dn.zip dd).lookup p, conV d with
      | some d', some _ => (match d, d' with
        | .int i, .int j => i == j
        | .str i, .str j => i == j
        | .bl i, .bl j => i == j
        | .non, .non => true
        | _, _ => false)
      | _, _ => false) && ixOk names dn dd ps r
  | _, _ => false
/-- how a call's arguments come to stand -/
structure KBd (K : PySem.W.Frag) (fd : FuncData) (ps ks : List Str) (n : Nat) (pl : List V → Option (List V)) : Prop where
  to : ∀ (s : Shared) (us ws : List Value), K.In s.heap → us.length = n → ws.length = ks.length → ∃ zs, BindsTo s fd ⟨us, ks.zip ws⟩ (ps.zip zs) ∧ ∀ vs vs', Vals vs (us ++ ws) → pl vs = some vs' → Vals vs' zs
theorem Vals.getB {vs : List V} {us : List Value} (r : Vals vs us) {i : Nat} {v : V} {u : Value} (h1 : vs[i]? = some v) (h2 : us[i]? = some u) : RelV v u := by
  obtain ⟨u', e, q⟩ := r.get h1
  rw [h2] at e
  cases e
  exact q
/-- the values by place -/
theorem zs_of {names dn : List Str} {dd : List D} {us its : List Value} {dvs : List V} {kw : List (Str × Value)} (hn : names.Nodup) (hkw : kw = names.zip us) (hl : names.length = us.length) (hd : dd.map conV = dvs.map some) (rd : Vals dvs its) (hdl : dn.length = dd.length) (hdn : dn.Nodup) :
    ∀ {ps : List Str} {ix : List (Nat ⊕ D)}, ixOk names dn dd ps ix = true → ∃ zs, (ps.filterMap fun n => ((fillD kw (dn.zip its)).lookup n).map (n, ·)) = ps.zip zs ∧ ∀ vs vs', Vals vs us → placeV vs ix = some vs' → Vals vs' zs
  | [], [], _ => ⟨[], rfl, fun _ _ _ h => by cases h; exact .nil⟩
  | p :: ps, .inl j :: r, h => by
    simp only [ixOk, Bool.and_eq_true, beq_iff_eq] at h
    obtain ⟨zs, e, k⟩ := zs_of hn hkw hl hd rd hdl hdn h.2
    have hj : j < us.length := by rw [← hl]; exact (List.getElem?_eq_some_iff.mp h.1).1
    have lk : (fillD kw (dn.zip its)).lookup p = some us[j] := fillD_keep (by rw [hkw]; exact lookup_zip hn h.1 (List.getElem?_eq_getElem hj))
    refine ⟨us[j] :: zs, ?_, fun vs vs' rv hp => ?_⟩
    · rw [List.filterMap_cons, lk]
      simp only [Option.map_some]
      rw [e]; rfl
    · obtain ⟨x, h1, h2⟩ := Option.bind_eq_some_iff.mp (show (vs[j]?).bind (fun x => (placeV vs r).map (x :: ·)) = some vs' from hp)
      obtain ⟨ws, h3, rfl⟩ := Option.map_eq_some_iff.mp h2
      exact .cons (Vals.getB rv h1 (List.getElem?_eq_getElem hj)) (k vs ws rv h3)
  | p :: ps, .inr d :: r, h => by
    simp only [ixOk, Bool.and_eq_true, Bool.not_eq_true'] at h
    obtain ⟨zs, e, k⟩ := zs_of hn hkw hl hd rd hdl hdn h.2
    have no : p ∉ names := fun z => by
      have := List.contains_iff_mem.mpr z
      rw [this] at h; exact absurd h.1.1 (by decide)
    have lk0 : kw.lookup p = none := by rw [hkw]; exact lookup_out no
    have h2 := h.1.2
    split at h2
    · rename_i d' v' e1 e2
      have key : ∃ (j : Nat), dn[j]? = some p ∧ dd[j]? = some d' := by
        clear k e h h2 e2 hd rd
        revert dd
        induction dn with
        | nil => intro dd hdl e1; simp at e1
        | cons a dn ih =>
          intro dd hdl e1
          cases dd with
          | nil => simp at e1
          | cons b dd =>
            rw [List.zip_cons_cons, List.lookup_cons] at e1
            cases q : p == a with
            | true => rw [q] at e1; cases e1; exact ⟨0, by simp [show p = a by simpa using q], rfl⟩
            | false =>
              rw [q] at e1
              obtain ⟨j, h1, h2⟩ := ih (List.nodup_cons.mp hdn).2 (by simpa using hdl) e1
              exact ⟨j + 1, by simpa using h1, by simpa using h2⟩
      obtain ⟨j, hj1, hj2⟩ := key
      have hdd : conV d' = conV d := by
        revert h2
        cases d <;> cases d' <;> simp [conV] <;> (intro h; subst h; rfl)
      have hv : dvs[j]? = some v' := by
        have z := congrArg (fun l => l[j]?) hd
        simp only [List.getElem?_map, hj2, Option.map_some] at z
        rw [hdd, e2] at z
        cases q : dvs[j]? with
        | none => rw [q] at z; cases z
        | some w => rw [q] at z; simpa using z.symm
      obtain ⟨u, hu, ru⟩ := rd.get hv
      have lk : (fillD kw (dn.zip its)).lookup p = some u := by
        rw [fillD_new lk0]
        exact lookup_zip hdn hj1 hu
      refine ⟨u :: zs, ?_, fun vs vs' rv hp => ?_⟩
      · rw [List.filterMap_cons, lk]
        simp only [Option.map_some]
        rw [e]; rfl
      · obtain ⟨x, h1, h3⟩ := Option.bind_eq_some_iff.mp (show (conV d).bind (fun x => (placeV vs r).map (x :: ·)) = some vs' from hp)
        obtain ⟨ws, h4, rfl⟩ := Option.map_eq_some_iff.mp h3
        rw [e2] at h1
        cases h1
        exact .cons ru (k vs ws rv h4)
    · cases h2
  | [], _ :: _, h => by cases h
  | _ :: _, [], h => by cases h
/-- a call of a def of plain parameters -/
theorem kbd_of {K : PySem.W.Frag} {x qual : Str} {params : Arguments} {body : List Stmt} {scope : Scope} {dvs : List V} {f : Addr} {fd : FuncData} {ps ks : List Str} {n : Nat} {ix : List (Nat ⊕ D)} {dd : List D}
    (F : FunD K x qual params body scope dvs [] f fd) (hP : params.posonlyargs = [] ∧ params.args.map (·.arg) = ps ∧ params.kwonlyargs = [] ∧ params.vararg = none ∧ params.kwarg = none) (hps : ps.Nodup)
    (hd : dd.map conV = dvs.map some) (hn : n ≤ ps.length) (hk : kwOk ps (ps.take n) ks = true) (hdl : dd.length ≤ ps.length) (hall : (ps.take (ps.length - dd.length)).all (fun p => (ps.take n ++ ks).contains p) = true) (hnd : (ps.take n ++ ks).Nodup)
    (hix : ixOk (ps.take n ++ ks) (ps.drop (ps.length - dd.length)) dd ps ix = true) : KBd K fd ps ks n (fun vs => placeV vs ix) := by
  obtain ⟨oc, od, dV, kV, doc, pm, an, cdv, ct, osl, rfl, lk, hcd, hD, hK⟩ := F.ex
  have PP : PlainP (PySem.W.fnOf x qual params body scope dV kV doc pm an cdv ct) ps := ⟨hP.1, hP.2.1, hP.2.2.1, hP.2.2.2.1, hP.2.2.2.2⟩
  have hdl2 : dd.length = dvs.length := by simpa using congrArg List.length hd
  refine ⟨fun s us ws X l1 l2 => ?_⟩
  have lt : (ps.take n).length = n := by rw [List.length_take]; omega
  have hzip : ps.zip us ++ ks.zip ws = (ps.take n ++ ks).zip (us ++ ws) := by
    rw [List.zip_append (by rw [lt, l1])]
    congr 1
    conv => lhs; rw [← List.take_append_drop n ps]
    have : us = us ++ [] := by simp
    conv => lhs; rw [this]
    rw [List.zip_append (by rw [lt, l1])]
    simp
  have hks : (ks.zip ws).map (·.1) = ks := by rw [List.map_fst_zip]; omega
  have hm : ((ps.take (ps.length - dvs.length)).filter fun q => ((ps.zip us ++ ks.zip ws).lookup q).isNone) = [] := by
    rw [List.filter_eq_nil_iff]
    intro q hq hn2
    have h1 := List.all_eq_true.mp hall q (by rw [hdl2]; exact hq)
    have h2 : q ∈ ps.take n ++ ks := by simpa using h1
    obtain ⟨j, hj⟩ := List.getElem?_of_mem h2
    have hjl : j < (us ++ ws).length := by
      have := (List.getElem?_eq_some_iff.mp hj).1
      rw [List.length_append, lt] at this
      rw [List.length_append]; omega
    rw [hzip, lookup_zip hnd hj (List.getElem?_eq_getElem hjl)] at hn2
    cases hn2
  obtain ⟨k, e1, e2⟩ := bind_plain PP (us := us) (kw := ks.zip ws) (by omega) (by rw [l1, hks]; exact hk) dvs.length (by omega) hm
  have fin : ∀ its : List Value, Vals dvs its → ∃ zs, bound ps us (ks.zip ws) its = ps.zip zs ∧ ∀ vs vs', Vals vs (us ++ ws) → placeV vs ix = some vs' → Vals vs' zs := fun its r => by
    have l3 := r.length
    refine zs_of (names := ps.take n ++ ks) (dn := ps.drop (ps.length - its.length)) (dd := dd) hnd hzip (by rw [List.length_append, List.length_append, lt]; omega) hd r (by rw [List.length_drop]; omega) (hps.sublist (List.drop_sublist _ _)) ?_
    rw [← l3, ← hdl2]; exact hix
  rcases hD with ⟨e, rfl⟩ | ⟨e, T, o, its, m, rfl, lT, oT, rT⟩
  · obtain ⟨zs, h1, h2⟩ := fin [] (by rw [e]; exact .nil)
    refine ⟨zs, ?_, h2⟩
    rw [← h1]
    refine BindsTo.of_looks fun M => ?_
    rw [e1]
    show PySem.W.Looks M s.heap (seqItems? .none >>= k) _
    rw [show (seqItems? .none : Sem _) = pure none from rfl, pure_bind, e2 none (by rw [e]; rfl)]
    exact PySem.W.Looks.of_pure rfl
  · obtain ⟨zs, h1, h2⟩ := fin its rT
    refine ⟨zs, ?_, h2⟩
    rw [← h1]
    refine BindsTo.of_looks fun M => ?_
    rw [e1]
    exact looks_items X lT oT (.of_pure (by rw [e2 (some its.toArray) (by simpa using rT.length.symm)]; simp))
end Py
end SB11
section SB12
set_option autoImplicit false
set_option linter.all false
set_option maxRecDepth 100000
set_option maxHeartbeats 4000000
/-! The evaluator over the hand layer, 12: call expressions. -/
namespace Py
open PySem L2

def noStar : Expr → Bool
  | .Starred _ _ => false
  | _ => true
theorem star1 {e : Expr} (h : noStar e = true) (es : List Expr) (env : Env) : starEach (e :: es) env = (false, eval e env) :: starEach es env := by
  cases e <;> first | rfl | cases h
theorem star_any (pos : Pos) (env : Env) : ∀ {es : List Expr}, es.all noStar = true → (backTo pos (starEach es env)).any (·.1) = false
  | [], _ => rfl
  | e :: es, h => by
    rw [List.all_cons, Bool.and_eq_true] at h
    rw [star1 h.1]
    show (false || (backTo pos (starEach es env)).any (·.1)) = false
    rw [star_any pos env h.2]; rfl
/-- the keywords' names -/
def kwNames : List Keyword → Option (List Str)
  | [] => some []
  | ⟨some n, _, _⟩ :: r => (kwNames r).map (n :: ·)
  | ⟨none, _, _⟩ :: _ => none
theorem kw_all {pos : Pos} {env : Env} : ∀ {kws : List Keyword} {ks : List Str}, kwNames kws = some ks → (backToKw pos (keywordEach kws env)).all (·.1.isSome) = true ∧ (backToKw pos (keywordEach kws env)).any (·.1.isNone) = false ∧ (backToKw pos (keywordEach kws env)).filterMap (·.1) = ks ∧ ks.length = kws.length
  | [], _, h => by cases h; exact ⟨rfl, rfl, rfl, rfl⟩
  | ⟨some n, e, p⟩ :: r, _, h => by
    obtain ⟨ks, h1, rfl⟩ := Option.map_eq_some_iff.mp h
    obtain ⟨a, b, c, d⟩ := kw_all (pos := pos) (env := env) h1
    refine ⟨?_, ?_, ?_, by simp [d]⟩
    · show (true && (backToKw pos (keywordEach r env)).all (·.1.isSome)) = true
      rw [a]; rfl
    · show (false || (backToKw pos (keywordEach r env)).any (·.1.isNone)) = false
      rw [b]; rfl
    · show n :: (backToKw pos (keywordEach r env)).filterMap (·.1) = _
      rw [c]
  | ⟨none, e, p⟩ :: r, _, h => by cases h
section
variable {G : Gx} {fc : Fc} {fm : List Addr} {ex ex2 : Bar} {σ σ' : L2.St} {s s' s1 s2 : S} {H H1 H' : Hp} {W : WX} {run : Run} {X : Cx} {pos apos p : Pos} {e o : Expr} {es : List Expr} {es' es1 es2 : List E} {kws : List Keyword} {o' : E}
variable {k n : Nat} {fa C : Addr} {fd : FuncData} {ps ks : List Str} {pl : List V → Option (List V)} {x m : Str} {f np : Nat} {ix : List (Nat ⊕ D)}

theorem cw {K : PySem.W.Frag} {h₀ : Heap} {fv : Value} {first : List Value} {sh : Shared} {Q : Value → Shared → Prop} {A : Around} {Ex : Value → Shared → Prop} {M : Model} {env : Env} (X0 : K.In h₀) (hk : PySem.W.keepIn K fv = true) (hes : es.all noStar = true) (hkw : kwNames kws = some ks)
    (h0 : es = [] → wpAny M A (evalAll ((backToKw pos (keywordEach kws env)).map (·.2))) (fun ws s2 => K.In s2.heap ∧ wpAny M A (call fv (first ++ []) (ks.zip ws)) Q Ex s2) Ex sh)
    (h : wpAny M A (spliced (backTo pos (starEach es env))) (fun us s1 => wpAny M A (evalAll ((backToKw pos (keywordEach kws env)).map (·.2))) (fun ws s2 => K.In s2.heap ∧ wpAny M A (call fv (first ++ us) (ks.zip ws)) Q Ex s2) Ex s1) Ex sh) :
    wpAny M A (callWith pos fv first (backTo pos (starEach es env)) (backToKw pos (keywordEach kws env))) Q Ex sh := by
  obtain ⟨a, b, c, d⟩ := kw_all (pos := pos) (env := env) hkw
  cases es with
  | nil =>
    refine PySem.W.callWith_KW0 (h₀ := h₀) X0 hk a ?_ (by rw [b]; rfl)
    rw [c]
    exact h0 rfl
  | cons e es =>
    rw [List.all_cons, Bool.and_eq_true] at hes
    refine PySem.W.callWith_KW (h₀ := h₀) X0 hk a ?_ ?_ (star1 hes.1 es env)
    · rw [c]; exact h
    · rw [b, star1 hes.1]
      show ((false || (backTo pos (starEach es env)).any (·.1)) || false) = false
      rw [star_any pos env hes.2]; rfl
/-! ### keywords' values -/
def tAK (G : Gx) (run : Run) (W : WX) (es : List E) : TA := tA G run W es
theorem PK.imp {t t' : TA} (h : PK X kws t) (f : ∀ σ H Q, t' σ H Q → t σ H Q) : PK X kws t' := ⟨fun pos pins s σ H Q I q => h.run pos pins s σ H Q I (f σ H Q q)⟩
theorem k_nil : PK X [] (tA G run W []) := by
  refine PK.imp pk_nil fun σ H Q h => ?_
  obtain ⟨fc, fm, ex, s, F, p⟩ := h
  simp only [evEs] at p
  exact p.ok F rfl
theorem k_cons {nm : Option Str} {kp : Pos} {a : Expr} {a' : E} (ha : PE X a (tI G run W a')) (hr : PK X kws (tA G run W es')) : PK X (⟨nm, a, kp⟩ :: kws) (tA G run W (a' :: es')) := by
  refine PK.imp (pk_cons ha hr) fun σ H Q h => ?_
  obtain ⟨fc, fm, ex, s, F, p⟩ := h
  simp only [evEs] at p
  exact ⟨fc, fm, ex, s, F, p.bind.imp fun v H1 ⟨ra, s1, _, st1, F1, r1, p1⟩ => ⟨fc, fm, ex, s1, F1, p1.bind.imp fun ws H2 ⟨rs, s2, _, st2, F2, r2, p2⟩ => p2.ok F2 ⟨v, ws, rfl, wk_wk ra, r1.wk.stp st2, r2⟩⟩⟩
theorem evEs_app (P : Prog) : ∀ (es1 es2 : List E) (s : S), evEs P run (es1 ++ es2) s = (evEs P run es1 s).bind fun rs s1 => (evEs P run es2 s1).bind fun qs s2 => .ok (rs ++ qs) s2
  | [], es2, s => by
    simp only [List.nil_append, evEs, Out.bind]
    cases evEs P run es2 s <;> rfl
  | e :: es1, es2, s => by
    simp only [List.cons_append, evEs, Out.bind_assoc]
    congr 1
    funext x s1
    rw [evEs_app P es1 es2 s1]
    simp only [Out.bind_assoc]
    rfl
theorem RL.append : ∀ {rs qs : List RV} {vs ws : List V}, RL G fc fm ex σ s H rs vs → RL G fc fm ex σ s H qs ws → RL G fc fm ex σ s H (rs ++ qs) (vs ++ ws)
  | [], _, _, _, h, q => by cases h; exact q
  | r :: rs, _, _, _, ⟨v, _, e, k, h, t⟩, q => by subst e; exact ⟨v, _, rfl, k, h, RL.append t q⟩
theorem RL.get : ∀ {rs : List RV} {vs : List V} {i : Nat} {r : RV}, RL G fc fm ex σ s H rs vs → rs[i]? = some r → ∃ v, vs[i]? = some v ∧ wk r = r ∧ RR G fc fm ex σ s H r v
  | _ :: _, _, 0, _, ⟨v, _, e, k, h, _⟩, q => by subst e; simp at q; subst q; exact ⟨v, rfl, k, h⟩
  | _ :: _, _, i + 1, _, ⟨_, _, e, _, _, t⟩, q => by
    subst e
    obtain ⟨v, h1, h2⟩ := RL.get (i := i) t (by simpa using q)
    exact ⟨v, by simpa using h1, h2⟩
theorem RL.place {rs : List RV} {vs : List V} (h : RL G fc fm ex σ s H rs vs) : ∀ {ix : List (Nat ⊕ D)} {qs : List RV}, (∀ d, Sum.inr d ∈ ix → (conV d).isSome = true) → place rs ix = some qs → ∃ ws, placeV vs ix = some ws ∧ RL G fc fm ex σ s H qs ws
  | [], _, _, e => by cases e; exact ⟨[], rfl, rfl⟩
  | .inl j :: r, _, hd, e => by
    obtain ⟨x, h1, h2⟩ := Option.bind_eq_some_iff.mp (show (rs[j]?).bind (fun x => (Py.place rs r).map (x :: ·)) = some _ from e)
    obtain ⟨qs, h3, rfl⟩ := Option.map_eq_some_iff.mp h2
    obtain ⟨v, g1, g2, g3⟩ := h.get h1
    obtain ⟨ws, g4, g5⟩ := RL.place h (fun d hd' => hd d (List.mem_cons_of_mem _ hd')) h3
    exact ⟨v :: ws, by simp [placeV, g1, g4], v, ws, rfl, g2, g3, g5⟩
  | .inr d :: r, _, hd, e => by
    obtain ⟨qs, h3, rfl⟩ := Option.map_eq_some_iff.mp (show (Py.place rs r).map (RV.d d :: ·) = some _ from e)
    obtain ⟨ws, g4, g5⟩ := RL.place h (fun d hd' => hd d (List.mem_cons_of_mem _ hd')) h3
    obtain ⟨v, hv⟩ := Option.isSome_iff_exists.mp (hd d List.mem_cons_self)
    exact ⟨v :: ws, by simp [placeV, hv, g4], v, ws, rfl, rfl, conV_DR hv, g5⟩
/-- what a call's arguments are, in the parameters' order -/
def plc : Option (List (Nat ⊕ D)) → List RV → Option (List RV)
  | none, rs => some rs
  | some ix, rs => place rs ix
def plcV : Option (List (Nat ⊕ D)) → List V → Option (List V)
  | none, vs => some vs
  | some ix, vs => placeV vs ix
def conIx : Option (List (Nat ⊕ D)) → Bool
  | none => true
  | some ix => ix.all fun z => match z with
    | .inl _ => true
    | .inr d => (conV d).isSome
theorem RL.plc {oi : Option (List (Nat ⊕ D))} {rs qs : List RV} {vs : List V} (h : RL G fc fm ex σ s H rs vs) (hc : conIx oi = true) (e : Py.plc oi rs = some qs) : ∃ ws, plcV oi vs = some ws ∧ RL G fc fm ex σ s H qs ws := by
  cases oi with
  | none => cases e; exact ⟨vs, rfl, h⟩
  | some ix => exact h.place (fun d hd => List.all_eq_true.mp hc _ hd) e
/-- the callee runs -/
theorem run_G {pins : List (Addr × Obj)} {sh : Shared} {Q : VK} {us ws : List Value} {vs vs' : List V} {sp : Sp} (F : FnOk X.prog X.w X.K X.mg X.base (L2.CX X.prog X.w) k fa fd ps sp) (hr : Room k X.A) (tk : Takes X W) (B : KBd X.K fd ps ks n pl)
    (I : Inv X pins σ H sh) (r : Vals vs (us ++ ws)) (h1 : us.length = n) (h2 : ws.length = ks.length) (hp : pl vs = some vs') (h : sp vs' H Q (WE W σ)) : wpAny (model X.prog X.w) X.A (call (.ref fa) us (ks.zip ws)) (EP X pins σ Q) X.xe sh := by
  obtain ⟨zs, hb, hz⟩ := B.to sh us ws I.kIn h1 h2
  refine wpAny_call (codeAny_mono (F.run X.A X.stack sh H ⟨us, ks.zip ws⟩ zs vs' Q (WE W σ) hr I.env0 hb (hz vs vs' r hp) h) fun r s' hq => ?_)
  cases r with
  | error e => exact passAt tk σ pins H sh e s' I hq
  | ok fl =>
    cases fl with
    | ret u => exact I.after hq
    | next => exact False.elim hq
    | brk => exact False.elim hq
    | cont => exact False.elim hq
/-- a call's reading: the arguments, then the placed values go to the callee -/
def evCall (P : Prog) (run : Run) (es : List E) (k : List RV → S → Out RV) (s : S) : Out RV := (evEs P run es s).bind k
theorem args_imp {es1 es2 : List E} {kk : List RV → S → Out RV} {Q : VK} {R : List V → Hp → Prop}
    (F : FR G fc fm ex σ s H) (p : Pst G fc fm ex σ W (RE G fc fm ex σ) s H ((evEs G.P run (es1 ++ es2) s).bind kk) Q)
    (hR : ∀ s1 H1 rs vs, Stp fm ex σ s H s1 H1 → FR G fc fm ex σ s1 H1 → RL G fc fm ex σ s1 H1 rs vs → Pst G fc fm ex σ W (RE G fc fm ex σ) s1 H1 (kk rs s1) Q → R vs H1) :
    tA G run W es1 σ H fun vs H1 => tA G run W es2 σ H1 fun ws H2 => R (vs ++ ws) H2 := by
  rw [evEs_app, Out.bind_assoc] at p
  refine ⟨fc, fm, ex, s, F, p.bind.imp fun vs H1 ⟨rs, s1, _, st1, F1, r1, p1⟩ => ⟨fc, fm, ex, s1, F1, ?_⟩⟩
  rw [Out.bind_assoc] at p1
  refine p1.bind.imp fun ws H2 ⟨qs, s2, _, st2, F2, r2, p2⟩ => ?_
  exact hR s2 H2 (rs ++ qs) (vs ++ ws) (st1.trans st2) F2 ((r1.stp st2).append r2) p2
theorem tA_nil {Q : List V → Hp → Prop} (h : tA G run W [] σ H Q) : Q [] H := by
  obtain ⟨fc, fm, ex, s, F, p⟩ := h
  simp only [evEs] at p
  exact p.ok F rfl
/-- the arguments run, then f -/
theorem args_run {pins : List (Addr × Obj)} {sh : Shared} {fv : Value} {first : List Value} {Q : VK} {R : List V → Hp → Prop} (hes : es.all noStar = true) (hkw : kwNames kws = some ks) (hk : PySem.W.keepIn X.K fv = true) (ha : PA X es (tA G run W es1)) (hkws : PK X kws (tA G run W es2))
    (hl : es = [] → es1 = []) (I : Inv X pins σ H sh) (h : tA G run W es1 σ H fun vs H1 => tA G run W es2 σ H1 fun ws H2 => vs.length = es.length ∧ ws.length = kws.length ∧ R (vs ++ ws) H2)
    (fin : ∀ s2 H2 us ws vs, Inv X pins σ H2 s2 → Vals vs (us ++ ws) → us.length = es.length → ws.length = ks.length → R vs H2 → wpAny (model X.prog X.w) X.A (call fv (first ++ us) (ks.zip ws)) (EP X pins σ Q) X.xe s2) :
    wpAny (model X.prog X.w) X.A (callWith pos fv first (backTo pos (starEach es X.env)) (backToKw pos (keywordEach kws X.env))) (EP X pins σ Q) X.xe sh := by
  have hkl := (kw_all (pos := pos) (env := X.env) hkw).2.2.2
  refine cw I.ok.mod.kin hk hes hkw (fun e => ?_) ?_
  · have e1 := hl e
    subst e e1
    refine thn (hkws.run pos pins sh σ H _ I (tA_nil h)) fun ws s2 ⟨zs, H2, I2, rz, l1, l2, q⟩ => ⟨I2.kIn, ?_⟩
    exact fin s2 H2 [] ws ([] ++ zs) I2 (by simpa using rz) rfl (by rw [← rz.length, l2, hkl]) q
  · refine thn (ha.run pos pins sh σ H _ I h) fun us s1 ⟨vs, H1, I1, r, q⟩ => ?_
    refine thn (hkws.run pos pins s1 σ H1 _ I1 q) fun ws s2 ⟨zs, H2, I2, rz, l1, l2, q2⟩ => ⟨I2.kIn, ?_⟩
    exact fin s2 H2 us ws (vs ++ zs) I2 (r.append rz) (by rw [← r.length, l1]) (by rw [← rz.length, l2, hkl]) q2
theorem evEs_len {P : Prog} : ∀ {es : List E} {s s1 : S} {rs : List RV}, evEs P run es s = .ok rs s1 → rs.length = es.length
  | [], _, _, _, h => by cases h; rfl
  | e :: es, s, s1, rs, h => by
    simp only [evEs] at h
    obtain ⟨x, t, _, h⟩ := Out.bind_ok h
    obtain ⟨xs, t2, h2, h⟩ := Out.bind_ok h
    cases h
    simp [evEs_len h2]
theorem args_len {es1 es2 : List E} {R : List V → Hp → Prop} (h : tA G run W es1 σ H fun vs H1 => tA G run W es2 σ H1 fun ws H2 => R (vs ++ ws) H2) : tA G run W es1 σ H fun vs H1 => tA G run W es2 σ H1 fun ws H2 => vs.length = es1.length ∧ ws.length = es2.length ∧ R (vs ++ ws) H2 := by
  have one : ∀ {es : List E} {σ : L2.St} {H : Hp} {Q : List V → Hp → Prop}, tA G run W es σ H Q → tA G run W es σ H fun vs H1 => vs.length = es.length ∧ Q vs H1 := by
    intro es σ H Q ⟨fc, fm, ex, s, F, p⟩
    refine ⟨fc, fm, ex, s, F, ?_⟩
    cases e : evEs G.P run es s with
    | ok rs s1 =>
      rw [e] at p
      exact fun vs H1 a b c => ⟨(RL.length c).symm.trans (evEs_len e), p vs H1 a b c⟩
    | exc c fs s1 => rw [e] at p; exact p
    | stuck => rw [e] at p; exact p
  have mono : ∀ {es : List E} {σ : L2.St} {H : Hp} {Q Q' : List V → Hp → Prop}, (∀ vs H, Q vs H → Q' vs H) → tA G run W es σ H Q → tA G run W es σ H Q' := by
    intro es σ H Q Q' hq ⟨fc, fm, ex, s, F, p⟩
    exact ⟨fc, fm, ex, s, F, p.imp hq⟩
  refine mono (fun vs H1 ⟨l1, q⟩ => mono (fun ws H2 ⟨l2, q⟩ => ⟨l1, l2, q⟩) (one q)) (one h)
/-- f(e, .., k = v, ..) -/
theorem e_callG {oi : Option (List (Nat ⊕ D))} (F : FnOk X.prog X.w X.K X.mg X.base (L2.CX X.prog X.w) k fa fd ps (SpF G run f ps.length)) (hr : Room k X.A) (tk : Takes X W) (hg : Gl X x) (hm : X.mg x = some (.ref fa)) (hk : PySem.W.keepIn X.K (.ref fa) = true) (hdb : (x == ("__debug__" : Str)) = false)
    (B : KBd X.K fd ps ks es.length (plcV oi)) (hci : conIx oi = true) (hes : es.all noStar = true) (hkw : kwNames kws = some ks) (ha : PA X es (tA G run W es1)) (hkws : PK X kws (tA G run W es2)) (hl1 : es1.length = es.length) (hl2 : es2.length = kws.length)
    (hpl : ∀ vs ws, vs.length = es.length + kws.length → plcV oi vs = some ws → ws.length = ps.length)
    {ee : E} (hee : ∀ s, evE G.P run ee s = (evEs G.P run (es1 ++ es2) s).bind fun rs s1 => match plc oi rs with
      | some qs => callU run f qs s1
      | none => .stuck) : PE X (.Call (.Name x p) es kws pos) (tI G run W ee) := by
  refine ⟨fun pins s σ H Q I h => ?_⟩
  refine wpAny_Call_Name_kw (ld_glob I hg hm ?_ hdb)
  obtain ⟨fc, fm, ex, s0, F0, p0⟩ := h
  rw [hee] at p0
  have h2 := args_len (R := fun vs H2 => vs.length = es.length + kws.length → ∃ ws, plcV oi vs = some ws ∧ SpF G run f ps.length ws H2 Q (WE W σ)) (args_imp (R := fun vs H2 => vs.length = es.length + kws.length → ∃ ws, plcV oi vs = some ws ∧ SpF G run f ps.length ws H2 Q (WE W σ)) F0 p0 fun s1 H1 rs vs st1 F1 r1 p1 hvl => by
    cases e : plc oi rs with
    | none => rw [e] at p1; exact p1.elim
    | some qs =>
      rw [e] at p1
      obtain ⟨ws, h1, h2⟩ := r1.plc hci e
      exact ⟨ws, h1, call_imp F1 h2 (hpl vs ws hvl h1) p1⟩)
  rw [hl1, hl2] at h2
  refine args_run (R := fun vs H2 => vs.length = es.length + kws.length → ∃ ws, plcV oi vs = some ws ∧ SpF G run f ps.length ws H2 Q (WE W σ)) hes hkw hk ha hkws (fun e => by subst e; exact List.eq_nil_of_length_eq_zero hl1) I h2 fun s2 H2 us ws vs I2 r l1 l2 hh => ?_
  obtain ⟨zs, h3, h4⟩ := hh (by rw [r.length, List.length_append, l1, l2, (kw_all (pos := pos) (env := X.env) hkw).2.2.2])
  exact run_G F hr tk B I2 r l1 l2 h3 h4
/-- o.m(e, ..) of an instance -/
theorem e_meth {mi : Nat} {pls : Sem Bool} (hK : X.K = G.K) (he : PE X o (tI G run W o')) (hes : es.all noStar = true) (ha : PA X es (tA G run W es1)) (hl1 : es1.length = es.length)
    (hM : ∀ c C f, ClsOk G c C → G.P.meth c mi = some f → ∃ fa fd ps, Meth X.K C m fa ∧ FnOk X.prog X.w X.K X.mg X.base (L2.CX X.prog X.w) k fa fd ps (SpF G run f ps.length) ∧ ps.length = es.length + 1 ∧ KBd X.K fd ps [] (es.length + 1) some)
    (hnf : ∀ c, G.L.fld c ≠ m) (hr : Room k X.A) (tk : Takes X W)
    (ht : eval (.Call (.Attribute o m apos) es [] pos) X.env = (do
      let ov ← eval o X.env
      standAt apos.atName
      let (f, first) ← holding [ov] (getMethod ov m pls)
      callWith pos f first (backTo pos (starEach es X.env)) (backToKw pos (keywordEach [] X.env)))) : PE X (.Call (.Attribute o m apos) es [] pos) (tI G run W (.meth o' mi es1)) := by
  refine ⟨fun pins s σ H Q I h => ?_⟩
  obtain ⟨fc, fm, ex, s0, F0, p0⟩ := h
  simp only [evE] at p0
  refine PySem.W.methodCall_KW (pl := pls) (thn (he.run pins s σ H _ I ⟨fc, fm, ex, s0, F0, p0.bind⟩) fun u s1 ⟨v, H1, I1, rx, r0, s2, _, st1, F1, r1, p1⟩ => ?_) ht
  split at p1
  · rename_i c fs ed
    split at p1
    · rename_i f em
      obtain ⟨a, C, dx, gs, rfl, nb, q, o, t⟩ := (show DR G H1 (Br fm ex s2 σ) (.obj c fs) v from r1.data F1 ed)
      obtain ⟨fa, fd, ps, M, F, hps, B⟩ := hM c C f o em
      obtain rfl : u = Value.ref a := rx
      have lk : gs.lookup m = none := by
        clear p1 q r1 ed
        revert fs
        induction gs with
        | nil => intro fs _; rfl
        | cons g gs ih =>
          intro fs t
          cases fs with
          | nil => cases t
          | cons p fs =>
            obtain ⟨w, ws, e, _, t⟩ := t
            cases e
            rw [List.lookup_cons]
            have : (m == G.L.fld p.1) = false := by
              cases q : m == G.L.fld p.1 with
              | false => rfl
              | true => exact absurd (show m = G.L.fld p.1 by simpa using q).symm (hnf p.1)
            rw [this]
            exact ih fs t
      refine getmeth_ok I1 q (by rw [hK]; exact o.cls) M lk ?_
      have h2 := args_len (es2 := []) (R := fun vs H2 => vs.length = es.length → SpF G run f ps.length (.ref a :: vs) H2 Q (WE W σ)) (args_imp (es2 := []) (R := fun vs H2 => vs.length = es.length → SpF G run f ps.length (.ref a :: vs) H2 Q (WE W σ)) F1 (by rw [List.append_nil]; exact p1) fun s3 H3 rs vs st3 F3 r3 p3 hl => by
        refine call_imp F3 (rs := .d (.obj c fs) :: rs) ⟨_, _, rfl, rfl, DR.stp st3 (r1.data F1 ed), r3⟩ ?_ p3
        rw [hps, List.length_cons, hl])
      rw [hl1] at h2
      refine args_run (R := fun vs H2 => vs.length = es.length → SpF G run f ps.length (.ref a :: vs) H2 Q (WE W σ)) (first := [.ref a]) hes (ks := []) rfl M.kp ha k_nil (fun e => by subst e; exact List.eq_nil_of_length_eq_zero hl1) I1 h2 fun s2 H2 us ws vs I2 r l1 l2 h4 => ?_
      have : ws = [] := List.eq_nil_of_length_eq_zero l2
      subst this
      rw [List.append_nil] at r
      exact run_G (us := .ref a :: us) (ws := []) F hr tk B I2 (vs := .ref a :: vs) (show L2.Vals (V.ref a :: vs) ((Value.ref a :: us) ++ []) from by rw [List.append_nil]; exact .cons rfl r) (by simp [l1]) rfl rfl (h4 (by rw [r.length, l1]))
    · exact p1.elim
  · exact p1.elim
/-- C(e, .., k = v, ..): a new instance -/
theorem e_mkG {c : Nat} {oi : Option (List (Nat ⊕ D))} (M : Mk X.K C fa) (hC : ClsOk G c C) (hinit : G.P.init c = some f) (F : FnOk X.prog X.w X.K X.mg X.base (L2.CX X.prog X.w) k fa fd ps (SpI G run c f ps.length)) (hr : Room (k + 1) X.A) (tk : Takes X W) (hg : Gl X x) (hm : X.mg x = some (.ref C)) (hdb : (x == ("__debug__" : Str)) = false)
    (B : KBd X.K fd ps ks (es.length + 1) pl) (hpl0 : ∀ v vs ws, plcV oi vs = some ws → pl (v :: vs) = some (v :: ws)) (hci : conIx oi = true) (hes : es.all noStar = true) (hkw : kwNames kws = some ks) (ha : PA X es (tA G run W es1)) (hkws : PK X kws (tA G run W es2)) (hl1 : es1.length = es.length) (hl2 : es2.length = kws.length)
    (hpl : ∀ vs ws, vs.length = es.length + kws.length → plcV oi vs = some ws → ws.length + 1 = ps.length)
    {ee : E} (hee : ∀ s, evE G.P run ee s = (evEs G.P run (es1 ++ es2) s).bind fun rs s1 => match plc oi rs with
      | some qs => mkU G.P run c qs s1
      | none => .stuck) : PE X (.Call (.Name x p) es kws pos) (tI G run W ee) := by
  refine ⟨fun pins s σ H Q I h => ?_⟩
  refine wpAny_Call_Name_kw (ld_glob I hg hm ?_ hdb)
  obtain ⟨fc, fm, ex, s0, F0, p0⟩ := h
  rw [hee] at p0
  have h2 := args_len (R := fun vs H2 => vs.length = es.length + kws.length → ∃ ws, plcV oi vs = some ws ∧ ∀ y dx, H2 y = none → H2 dx = none → dx ≠ y → SpI G run c f ps.length (.ref y :: ws) (upd (upd H2 dx (.own y)) y (.ins C dx [])) (fun v H3 => v = .non ∧ Q (.ref y) H3) (WE W σ)) (args_imp (R := fun vs H2 => vs.length = es.length + kws.length → ∃ ws, plcV oi vs = some ws ∧ ∀ y dx, H2 y = none → H2 dx = none → dx ≠ y → SpI G run c f ps.length (.ref y :: ws) (upd (upd H2 dx (.own y)) y (.ins C dx [])) (fun v H3 => v = .non ∧ Q (.ref y) H3) (WE W σ)) F0 p0 fun s1 H1 rs vs st1 F1 r1 p1 hvl => by
    cases e : plc oi rs with
    | none => rw [e] at p1; exact p1.elim
    | some qs =>
      rw [e] at p1
      obtain ⟨ws, h1, h2⟩ := r1.plc hci e
      refine ⟨ws, h1, fun y dx hy hdx hne => ?_⟩
      simp only [mkU, hinit] at p1
      cases e2 : agsOf s1 qs with
      | none => rw [e2] at p1; exact p1.elim
      | some as =>
        rw [e2] at p1
        refine ⟨by rw [List.length_cons]; exact hpl vs ws hvl h1, y, ws, as, s1.cells, fm, exC fm ex s1 σ qs, H1, dx, C, rfl, hC, hy, hdx, hne, rfl, F1.cpre qs, agRs_of F1 qs (fun _ h => h) h2 e2, ?_⟩
        have a := after_ok F1 e2 p1
        revert a
        cases run f (.new c :: as) s1.cells with
        | stuck => exact fun z => z
        | exc c' fs cs => exact fun z => z
        | ok t cs =>
          intro a
          split
          · rename_i heq
            cases heq
            rename_i c'' fs' cs''
            intro ec H' p r
            subst ec
            exact ⟨rfl, a _ H' p r⟩
          · trivial
          · rename_i heq; cases heq
          · rename_i heq; cases heq)
  rw [hl1, hl2] at h2
  refine args_run (R := fun vs H2 => vs.length = es.length + kws.length → ∃ ws, plcV oi vs = some ws ∧ ∀ y dx, H2 y = none → H2 dx = none → dx ≠ y → SpI G run c f ps.length (.ref y :: ws) (upd (upd H2 dx (.own y)) y (.ins C dx [])) (fun v H3 => v = .non ∧ Q (.ref y) H3) (WE W σ)) hes hkw M.kp ha hkws (fun e => by subst e; exact List.eq_nil_of_length_eq_zero hl1) I h2 fun s2 H2 us ws vs I2 r l1 l2 hh => ?_
  obtain ⟨zs, h3, h4⟩ := hh (by rw [r.length, List.length_append, l1, l2, (kw_all (pos := pos) (env := X.env) hkw).2.2.2])
  have hq := h4 (s2.heap.objs.size + 1) s2.heap.objs.size (I2.hok.fresh (Nat.le_succ _)) (I2.hok.fresh (Nat.le_refl _)) (Nat.ne_of_lt (Nat.lt_succ_self _))
  have I3 := Inv.made (C := C) I2
  obtain ⟨zz, hb, hz⟩ := B.to _ (Value.ref (s2.heap.objs.size + 1) :: us) ws I3.kIn (by simp [l1]) l2
  have r2 := hz (V.ref (s2.heap.objs.size + 1) :: vs) _ (.cons rfl r) (hpl0 _ _ _ h3)
  refine wpAny_call (make_map (f := fa) I2.kIn M.makes M.init (beq_iff_eq.mp M.fn) (codeAny_mono (F.run _ X.stack _ _ ⟨Value.ref (s2.heap.objs.size + 1) :: us, ks.zip ws⟩ zz _ _ (WE W σ) (hr.make C us (ks.zip ws))
    (I3.env0.make C us (ks.zip ws)) hb r2 hq) fun r s' hq' => ?_))
  cases r with
  | error e => exact passAt tk σ pins _ _ e s' I3 hq'
  | ok fl =>
    cases fl with
    | ret u =>
      obtain ⟨v, H', I4, rv, ev, q3⟩ := I3.after hq'
      subst ev
      exact ⟨rv, ⟨V.ref (s2.heap.objs.size + 1), H', I4, rfl, q3⟩⟩
    | next => exact False.elim hq'
    | brk => exact False.elim hq'
    | cont => exact False.elim hq'
end
end Py
end SB12
section SB13
set_option autoImplicit false
set_option linter.all false
set_option maxRecDepth 100000
set_option maxHeartbeats 4000000
/-! The evaluator over the hand layer, 13: a loop's own frame; what is walked. -/
namespace Py
open PySem L2

/-! ### lent slots -/
def lentOf : Sl → Sl
  | .own d => .lent d
  | x => x
def ownOf : Sl → Sl
  | .lent d => .own d
  | x => x
theorem S.len_set (s : S) (i : Nat) (x : Sl) : (s.set i x).env.length = s.env.length := by simp [S.set]
theorem lend_get : ∀ (ls : List Nat) (s : S), (lend s ls).cells = s.cells ∧ (lend s ls).env.length = s.env.length ∧ ∀ i, (lend s ls).get i = if i ∈ ls then lentOf (s.get i) else s.get i
  | [], s => ⟨rfl, rfl, fun i => by simp [lend]⟩
  | k :: ls, s => by
    have no : ∀ (x : Sl), lentOf x = x → s.get k = x → (lend s ls).cells = s.cells ∧ (lend s ls).env.length = s.env.length ∧ ∀ i, (lend s ls).get i = if i ∈ k :: ls then lentOf (s.get i) else s.get i := fun x hx e => by
      obtain ⟨h1, h2, h3⟩ := lend_get ls s
      refine ⟨h1, h2, fun i => ?_⟩
      rw [h3]
      by_cases q : i ∈ ls
      · rw [if_pos q, if_pos (List.mem_cons_of_mem _ q)]
      · rw [if_neg q]
        by_cases q2 : i = k
        · subst q2; rw [if_pos List.mem_cons_self, e, hx]
        · rw [if_neg (by simp [q, q2])]
    unfold lend
    cases e : s.get k with
    | own d =>
      have hk : k < s.env.length := S.get_lt (by rw [e]; exact fun z => nomatch z)
      obtain ⟨h1, h2, h3⟩ := lend_get ls (s.set k (.lent d))
      refine ⟨h1, h2.trans (S.len_set _ _ _), fun i => ?_⟩
      simp only
      rw [h3]
      by_cases q2 : i = k
      · subst q2
        rw [S.get_eq hk, if_pos List.mem_cons_self, e]
        split <;> rfl
      · rw [S.get_ne q2]
        by_cases q : i ∈ ls
        · rw [if_pos q, if_pos (List.mem_cons_of_mem _ q)]
        · rw [if_neg q, if_neg (by simp [q, q2])]
    | rng xs => exact no _ rfl e
    | itr xs => exact no _ rfl e
    | non => exact no _ rfl e
    | pub d => exact no _ rfl e
    | lent d => exact no _ rfl e
    | cell k => exact no _ rfl e
    | new c fs => exact no _ rfl e
    | exc c fs => exact no _ rfl e
theorem unlend_get : ∀ (ls : List Nat) (s : S), (unlend s ls).cells = s.cells ∧ (unlend s ls).env.length = s.env.length ∧ ∀ i, (unlend s ls).get i = if i ∈ ls then ownOf (s.get i) else s.get i
  | [], s => ⟨rfl, rfl, fun i => by simp [unlend]⟩
  | k :: ls, s => by
    have no : ∀ (x : Sl), ownOf x = x → s.get k = x → (unlend s ls).cells = s.cells ∧ (unlend s ls).env.length = s.env.length ∧ ∀ i, (unlend s ls).get i = if i ∈ k :: ls then ownOf (s.get i) else s.get i := fun x hx e => by
      obtain ⟨h1, h2, h3⟩ := unlend_get ls s
      refine ⟨h1, h2, fun i => ?_⟩
      rw [h3]
      by_cases q : i ∈ ls
      · rw [if_pos q, if_pos (List.mem_cons_of_mem _ q)]
      · rw [if_neg q]
        by_cases q2 : i = k
        · subst q2; rw [if_pos List.mem_cons_self, e, hx]
        · rw [if_neg (by simp [q, q2])]
    unfold unlend
    cases e : s.get k with
    | lent d =>
      have hk : k < s.env.length := S.get_lt (by rw [e]; exact fun z => nomatch z)
      obtain ⟨h1, h2, h3⟩ := unlend_get ls (s.set k (.own d))
      refine ⟨h1, h2.trans (S.len_set _ _ _), fun i => ?_⟩
      simp only
      rw [h3]
      by_cases q2 : i = k
      · subst q2
        rw [S.get_eq hk, if_pos List.mem_cons_self, e]
        split <;> rfl
      · rw [S.get_ne q2]
        by_cases q : i ∈ ls
        · rw [if_pos q, if_pos (List.mem_cons_of_mem _ q)]
        · rw [if_neg q, if_neg (by simp [q, q2])]
    | rng xs => exact no _ rfl e
    | itr xs => exact no _ rfl e
    | non => exact no _ rfl e
    | pub d => exact no _ rfl e
    | own d => exact no _ rfl e
    | cell k => exact no _ rfl e
    | new c fs => exact no _ rfl e
    | exc c fs => exact no _ rfl e
theorem owns_lent (x : Sl) : owns (lentOf x) = owns x := by cases x <;> rfl
theorem owns_own (x : Sl) : owns (ownOf x) = owns x := by cases x <;> rfl
theorem muts_owns {x : Sl} (h : muts x = true) : owns x = true := by cases x <;> first | rfl | cases h
theorem ownIn_own (s : S) : ∀ {ls : List Nat} {i : Nat}, i ∈ ownIn s ls → ∃ d, s.get i = .own d
  | [], i, h => by cases h
  | k :: ls, i, h => by
    unfold ownIn at h
    split at h
    · rename_i d e
      rcases List.mem_cons.mp h with h | h
      · exact ⟨d, by rw [h]; exact e⟩
      · exact ownIn_own s h
    · exact ownIn_own s h

section
variable {G : Gx} {fc : Fc} {fm fm2 : List Addr} {ex ex2 : Bar} {σ σ2 : L2.St} {s s' s1 s2 : S} {H H1 H2 : Hp} {W : WX} {run : Run} {X : Cx} {ls : List Nat}

/-- a loop's frame: what stands at its start -/
def reb (fc : Fc) (fm : List Addr) (s : S) (ls : List Nat) (σ : L2.St) (H : Hp) : Fc :=
  ⟨H, Mu fm (lend s ls) σ, fm, fc.self, fun i a => OwnA s σ i a ∧ muts ((lend s ls).get i) = false⟩
theorem ownA_lend {i : Nat} {a : Addr} : OwnA (lend s ls) σ i a ↔ OwnA s σ i a := by
  unfold OwnA
  rw [(lend_get ls s).2.2]
  split
  · rw [owns_lent]
  · rfl
theorem ownA_unlend {i : Nat} {a : Addr} : OwnA (unlend s ls) σ i a ↔ OwnA s σ i a := by
  unfold OwnA
  rw [(unlend_get ls s).2.2]
  split
  · rw [owns_own]
  · rfl
theorem br_lend {a : Addr} : Br fm ex (lend s ls) σ a ↔ Br fm ex s σ a := by
  unfold Br
  simp only [ownA_lend]
theorem br_unlend {a : Addr} : Br fm ex (unlend s ls) σ a ↔ Br fm ex s σ a := by
  unfold Br
  simp only [ownA_unlend]
theorem mutA_lend {i : Nat} {a : Addr} (h : MutA (lend s ls) σ i a) : MutA s σ i a := by
  refine ⟨?_, h.2⟩
  have q := h.1
  rw [(lend_get ls s).2.2] at q
  split at q
  · revert q; cases s.get i <;> simp [lentOf, muts]
  · exact q
theorem mu_lend {a : Addr} (h : Mu fm (lend s ls) σ a) : Mu fm s σ a := h.elim .inl fun ⟨i, h⟩ => .inr ⟨i, mutA_lend h⟩
theorem SlOk.chg {fc fc' : Fc} {B B' : Bar} {x : Option (Option V)} (hf : fc'.self = fc.self) (hb : ∀ a, B' a → B a) : ∀ {z : Sl}, SlOk G fc fm H B x z → SlOk G fc' fm H B' x z
  | .non, _ => trivial
  | .rng xs, ⟨r, lo, hi, e, nb, q, z⟩ => ⟨r, lo, hi, e, fun w => nb (hb r w), q, z⟩
  | .itr _, h => h
  | .pub d, ⟨v, e, r⟩ => ⟨v, e, r.mono fun a o n z => ⟨z, fun q => n (hb a q)⟩⟩
  | .own d, ⟨a, e, r⟩ => ⟨a, e, r.mono (fun a o n z => ⟨z, fun q => n (hb a q)⟩) fun _ z => z⟩
  | .lent d, ⟨a, e, r⟩ => ⟨a, e, r.mono (fun a o n z => ⟨z, fun q => n (hb a q)⟩) fun _ z => z⟩
  | .cell k, h => h
  | .new c fs, ⟨a, C, dx, gs, e, q, m, r⟩ => ⟨a, C, dx, gs, e, q, ⟨m.1, hf ▸ m.2⟩, r.mono fun a o n z => ⟨z, fun q => n (hb a q)⟩⟩
  | .exc c fs, ⟨a, e, r⟩ => ⟨a, e, r.mono fun a o n z => ⟨z, fun q => n (hb a q)⟩⟩
theorem SlOk.lent {B : Bar} {x : Option (Option V)} {z : Sl} (h : SlOk G fc fm H B x z) : SlOk G fc fm H B x (lentOf z) := by
  cases z <;> exact h
theorem SlOk.own {B : Bar} {x : Option (Option V)} {z : Sl} (h : SlOk G fc fm H B x z) : SlOk G fc fm H B x (ownOf z) := by
  cases z <;> exact h
theorem FR.reb (F : FR G fc fm ex σ s H) (ls : List Nat) : FR G (reb fc fm s ls σ H) fm ex σ (lend s ls) H where
  len := by rw [(lend_get ls s).2.1]; exact F.len
  fml := by rw [(lend_get ls s).1]; exact F.fml
  nd := F.nd
  cells := by rw [(lend_get ls s).1]; exact F.cells
  slots := fun i => by
    have q := (F.slots i).chg (fc' := Py.reb fc fm s ls σ H) (B' := Br fm ex (lend s ls) σ) rfl fun a h => br_lend.mp h
    rw [(lend_get ls s).2.2]
    split
    · exact q.lent
    · exact q
  apF := fun i a h => F.apF i a (ownA_lend.mp h)
  apO := fun i j a h1 h2 => F.apO i j a (ownA_lend.mp h1) (ownA_lend.mp h2)
  exF := F.exF
  exH := F.exH
  base := fun a o h _ => h
  newO := fun i a h => .inr (.inr ⟨i, h⟩)
  newL := fun i a h m => ⟨ownA_lend.mp h, m⟩
  newF := fun k a h => .inr (.inl (List.mem_of_getElem? h))
  pre := ⟨[], by simp [Py.reb]⟩
  m0 := fun a h => F.brH (mu_lend h).br
  m1 := fun a h => F.brH (mu_lend h).br
/-- what stood at the start and was not to change stands -/
theorem FR.rebH (F2 : FR G (Py.reb fc fm s ls σ H) fm2 ex2 σ2 s2 H2) {a : Addr} {o : HO} (h : H a = some o) (n : ¬ Mu fm (lend s ls) σ a) : H2 a = some o := F2.base a o h n
theorem FR.rebL (F2 : FR G (Py.reb fc fm s ls σ H) fm2 ex2 σ2 s2 H2) {a : Addr} (h : H a ≠ none) : H2 a ≠ none := by
  by_cases n : Mu fm (lend s ls) σ a
  · exact F2.m1 a n
  · obtain ⟨o, e⟩ := Option.ne_none_iff_exists'.mp h
    rw [F2.base a o e n]; simp
theorem FR.rebO (F : FR G fc fm ex σ s H) {a : Addr} (h : H a = none ∨ Mu fm (lend s ls) σ a) : fc.H0 a = none ∨ fc.M0 a := by
  rcases h with h | h | ⟨i, h⟩
  · cases e : fc.H0 a with
    | none => exact .inl rfl
    | some o =>
      by_cases m : fc.M0 a
      · exact .inr m
      · rw [F.base a o e m] at h; cases h
  · obtain ⟨k, hk⟩ := List.getElem?_of_mem h
    exact F.newF k a hk
  · exact F.newO i a (mutA_lend h)
theorem FR.rebB (F : FR G fc fm ex σ s H) (F2 : FR G (Py.reb fc fm s ls σ H) fm2 ex2 σ2 s2 H2) (hx : ∀ a, ex2 a → Br fm ex s σ a ∨ H a = none) : ∀ a, Br fm2 ex2 s2 σ2 a → Br fm ex s σ a ∨ H a = none := fun a h => by
  rcases h with h | h | ⟨i, h⟩
  · obtain ⟨k, hk⟩ := List.getElem?_of_mem h
    rcases F2.newF k a hk with z | z
    · exact .inr z
    · exact .inl (mu_lend z).br
  · exact hx a h
  · cases m : muts (s2.get i) with
    | true =>
      rcases F2.newO i a ⟨m, h.2⟩ with z | z
      · exact .inr z
      · exact .inl (mu_lend z).br
    | false => exact .inl (.inr (.inr ⟨i, (F2.newL i a h m).1⟩))
/-- data that stood at the start stands -/
theorem FR.rebK (F : FR G fc fm ex σ s H) (F2 : FR G (Py.reb fc fm s ls σ H) fm2 ex2 σ2 s2 H2) (hx : ∀ a, ex2 a → Br fm ex s σ a ∨ H a = none) : Kp H H2 (Br fm ex s σ) (Br fm2 ex2 s2 σ2) := fun a o n h =>
  ⟨F2.base a o h fun z => n (mu_lend z).br, fun z => by
    rcases F.rebB F2 hx a z with z | z
    · exact n z
    · rw [h] at z; cases z⟩
/-- behind the loop -/
theorem FR.unreb (F : FR G fc fm ex σ s H) (hls : ∀ i ∈ ls, ∃ d, s.get i = .own d) (F2 : FR G (Py.reb fc fm s ls σ H) fm2 ex2 σ2 s2 H2) : FR G fc fm2 ex2 σ2 (unlend s2 ls) H2 where
  len := by rw [(unlend_get ls s2).2.1]; exact F2.len
  fml := by rw [(unlend_get ls s2).1]; exact F2.fml
  nd := F2.nd
  cells := by rw [(unlend_get ls s2).1]; exact F2.cells
  slots := fun i => by
    have q := (F2.slots i).chg (fc' := fc) (B' := Br fm2 ex2 (unlend s2 ls) σ2) rfl fun a h => br_unlend.mp h
    rw [(unlend_get ls s2).2.2]
    split
    · exact q.own
    · exact q
  apF := fun i a h => F2.apF i a (ownA_unlend.mp h)
  apO := fun i j a h1 h2 => F2.apO i j a (ownA_unlend.mp h1) (ownA_unlend.mp h2)
  exF := F2.exF
  exH := F2.exH
  base := fun a o h n => F2.base a o (F.base a o h n) fun z => by
    rcases F.rebO (.inr z) with w | w
    · rw [w] at h; cases h
    · exact n w
  newO := fun i a h => by
    have o : OwnA s2 σ2 i a := ownA_unlend.mp ⟨muts_owns h.1, h.2⟩
    cases m : muts (s2.get i) with
    | true => exact F.rebO (F2.newO i a ⟨m, h.2⟩)
    | false =>
      obtain ⟨z, _⟩ := F2.newL i a o m
      have hi : i ∈ ls := by
        refine Classical.byContradiction fun hi => ?_
        have q := h.1
        rw [(unlend_get ls s2).2.2, if_neg hi, m] at q
        cases q
      obtain ⟨d, hd⟩ := hls i hi
      exact F.newO i a ⟨by rw [hd]; rfl, z.2⟩
  newL := fun i a h m => by
    have o : OwnA s2 σ2 i a := ownA_unlend.mp h
    have hi : i ∉ ls := fun hi => by
      rw [(unlend_get ls s2).2.2, if_pos hi] at m
      have q := o.1
      revert m q
      cases s2.get i <;> simp [ownOf, muts, owns]
    rw [(unlend_get ls s2).2.2, if_neg hi] at m
    obtain ⟨z, w⟩ := F2.newL i a o m
    rw [(lend_get ls s).2.2, if_neg hi] at w
    exact F.newL i a z w
  newF := fun k a h => F.rebO (F2.newF k a h)
  pre := by
    obtain ⟨t, e⟩ := F.pre
    obtain ⟨t2, e2⟩ := F2.pre
    exact ⟨t ++ t2, by rw [e2, show (Py.reb fc fm s ls σ H).fm0 = fm from rfl, e, List.append_assoc]⟩
  m0 := F.m0
  m1 := fun a h => F2.rebL (F.m1 a h)
theorem RR.unreb (F : FR G fc fm ex σ s H) (hls : ∀ i ∈ ls, ∃ d, s.get i = .own d) {r : RV} {v : V} (h : RR G (Py.reb fc fm s ls σ H) fm2 ex2 σ2 s2 H2 r v) : RR G fc fm2 ex2 σ2 (unlend s2 ls) H2 r v := by
  cases r with
  | d x => exact DR.mono (fun a o n z => ⟨z, fun q => n (br_unlend.mp q)⟩) h
  | own x =>
    obtain ⟨a, rfl, h1, h2, h3, h4⟩ := h
    refine ⟨a, rfl, h1.mono (fun b o n z => ⟨z, fun q => n (br_unlend.mp q)⟩) fun _ z => z, F.unreb hls h2, fun z => h3 (br_unlend.mp z), F.rebO h4⟩
  | brw i => exact h
  | cell k => exact h
theorem XR.unreb {c : Nat} {fs : List D} {C : Value} {d : Option Addr} (h : XR G H2 (Br fm2 ex2 s2 σ2) c fs C d) : XR G H2 (Br fm2 ex2 (unlend s2 ls) σ2) c fs C d := by
  obtain ⟨ca, h1, h2, h3, h4⟩ := h
  refine ⟨ca, h1, h2, h3, h4.imp (fun z => z) fun ⟨dx, gs, e1, e2, e3, t⟩ => ⟨dx, gs, e1, e2, fun z => e3 (br_unlend.mp z), t.mono fun a o n z => ⟨z, fun q => n (br_unlend.mp q)⟩⟩⟩

/-! ### what is walked -/
/-- new things are laid -/
inductive Grow : Hp → Hp → Prop where
  | refl (H : Hp) : Grow H H
  | step {H H' : Hp} {p : Addr} {o : HO} (hp : H p = none) (h : Grow (upd H p o) H') : Grow H H'
theorem Grow.keep {H H' : Hp} (g : Grow H H') : ∀ a o, H a = some o → H' a = some o := by
  induction g with
  | refl => exact fun _ _ h => h
  | step hp _ ih => exact fun a o h => ih a o (upd_keep hp h)
theorem FR.grow (g : Grow H H2) (F : FR G fc fm ex σ s H) : FR G fc fm ex σ s H2 := by
  induction g with
  | refl => exact F
  | step hp _ ih => exact ih (F.alloc hp)
theorem Grow.stp (g : Grow H H2) : Stp fm ex σ s H s H2 := by
  induction g with
  | refl => exact .refl
  | step hp _ ih => exact (Stp.alloc hp).trans ih
def Bs (H1 : Hp) (M1 : Bar) (H : Hp) : Prop := ∀ a o, H1 a = some o → ¬ M1 a → H a = some o
/-- J walks the data xs -/
structure Src (G : Gx) (H1 : Hp) (B1 M1 : Bar) (J : L2.It) (xs : List D) : Prop where
  go : ∀ i H, Bs H1 M1 H → i < xs.length → J.go i H
  stop : ∀ i H, Bs H1 M1 H → xs.length ≤ i → J.stop i H
  yld : ∀ i H v H' x, Bs H1 M1 H → xs[i]? = some x → J.yld i H v H' → Grow H H' ∧ ∀ B', Kp H1 H' B1 B' → (∀ a, B' a → H a ≠ none) → DR G H' B' x v
def tIt (G : Gx) (run : Run) (W : WX) (it : Py.It) : TI := fun σ H R => ∃ fc fm ex s, FR G fc fm ex σ s H ∧ Pst G fc fm ex σ W (fun s H p J => Src G H (Br fm ex s σ) (Mu fm (lend s (ownIn s p.2)) σ) J p.1) s H (evI G.P run it s) R
theorem PI.imp {tg it : Expr} {t t' : TI} (h : PI X tg it t) (f : ∀ σ H R, t' σ H R → t σ H R) : PI X tg it t' := ⟨fun pins s σ H Q I q => h.run pins s σ H Q I (f σ H Q q)⟩
/-- a list that stands through the loop -/
theorem src_list {B1 M1 : Bar} {a : Addr} {vs : List V} {xs : List D} {K : PySem.W.Frag} (h : (Rd H a (.lst vs) ∧ ¬ M1 a) ∨ KL K a vs) (r : DRs G H B1 xs vs) : Src G H B1 M1 (Itl K a) xs := by
  have up : ∀ {H'}, Bs H M1 H' → SqL K H' a vs := fun {H'} b => by
    rcases h with ⟨h | ⟨o, h⟩, n⟩ | h
    · exact .inl (.inl (b a _ h n))
    · exact .inl (.inr ⟨o, b a _ h n⟩)
    · exact .inr h
  refine ⟨fun i H' b hi => ?_, fun i H' b hi => ⟨vs, up b, by rw [← r.length]; exact hi⟩, fun i H' v H'' x b hx ⟨e, y⟩ => ?_⟩
  · have hi' : i < vs.length := by rw [← r.length]; exact hi
    exact ⟨vs, vs[i], up b, List.getElem?_eq_getElem hi'⟩
  · subst e
    refine ⟨.refl _, fun B' kp _ => ?_⟩
    obtain ⟨w, h1, h2⟩ := r.get hx
    have := y vs (up b)
    rw [h1] at this
    cases this
    exact h2.mono kp
theorem src_tup {B1 M1 : Bar} {a : Addr} {vs : List V} {xs : List D} {K : PySem.W.Frag} (h : (Rd H a (.tup vs) ∧ ¬ M1 a) ∨ KT K a vs) (r : DRs G H B1 xs vs) : Src G H B1 M1 (Itt K a) xs := by
  have up : ∀ {H'}, Bs H M1 H' → SqT K H' a vs := fun {H'} b => by
    rcases h with ⟨h | ⟨o, h⟩, n⟩ | h
    · exact .inl (.inl (b a _ h n))
    · exact .inl (.inr ⟨o, b a _ h n⟩)
    · exact .inr h
  refine ⟨fun i H' b hi => ?_, fun i H' b hi => ⟨vs, up b, by rw [← r.length]; exact hi⟩, fun i H' v H'' x b hx ⟨e, y⟩ => ?_⟩
  · have hi' : i < vs.length := by rw [← r.length]; exact hi
    exact ⟨vs, vs[i], up b, List.getElem?_eq_getElem hi'⟩
  · subst e
    refine ⟨.refl _, fun B' kp _ => ?_⟩
    obtain ⟨w, h1, h2⟩ := r.get hx
    have := y vs (up b)
    rw [h1] at this
    cases this
    exact h2.mono kp
theorem src_str {B1 M1 : Bar} {z : List Nat} (hz : okS z = true) : Src G H B1 M1 (Its (ST z)) (z.map fun c => .str [c]) := by
  refine ⟨fun i H' b hi => ?_, fun i H' b hi => ?_, fun i H' v H'' x b hx ⟨e, c, y, e2⟩ => ?_⟩
  · simpa [Its, ST] using hi
  · simpa [Its, ST] using hi
  · subst e e2
    refine ⟨.refl _, fun B' kp _ => ?_⟩
    have y' : z[i]? = some c := by simpa [ST] using y
    rw [List.getElem?_map, y'] at hx
    cases hx
    refine ⟨rfl, okS_sub (a := z) ?_ ?_ hz⟩
    · have := (List.getElem?_eq_some_iff.mp y').1
      simp only [List.length_cons, List.length_nil]
      omega
    · intro c' hc
      have : c' = c := by simpa using hc
      subst this
      exact List.mem_of_getElem? y'
theorem rangeD_get (lo : Int) : ∀ (n i : Nat), (rangeD lo n)[i]? = if i < n then some (.int (lo + i)) else none := by
  intro n
  induction n generalizing lo with
  | zero => intro i; simp [rangeD]
  | succ n ih =>
    intro i
    cases i with
    | zero => simp [rangeD]
    | succ i =>
      rw [rangeD, List.getElem?_cons_succ, ih (lo + 1) i]
      by_cases h : i < n
      · rw [if_pos h, if_pos (by omega)]
        congr 2
        omega
      · rw [if_neg h, if_neg (by omega)]
theorem rangeD_length (lo : Int) (n : Nat) : (rangeD lo n).length = n := by
  induction n generalizing lo with
  | zero => rfl
  | succ n ih => simp [rangeD, ih]
theorem src_range {B1 M1 : Bar} (lo : Int) (n : Nat) : Src G H B1 M1 (Itr lo n) (rangeD lo n) := by
  refine ⟨fun i H' b hi => by rw [rangeD_length] at hi; exact hi, fun i H' b hi => by rw [rangeD_length] at hi; exact hi, fun i H' v H'' x b hx ⟨e, y⟩ => ?_⟩
  subst e y
  refine ⟨.refl _, fun B' kp _ => ?_⟩
  rw [rangeD_get] at hx
  split at hx
  · cases hx; rfl
  · cases hx
theorem rangeC_get (lo c : Int) : ∀ (n i : Nat), (rangeC lo c n)[i]? = if i < n then some (.int (lo + i * c)) else none := by
  intro n
  induction n generalizing lo with
  | zero => intro i; simp [rangeC]
  | succ n ih =>
    intro i
    cases i with
    | zero => simp [rangeC]
    | succ i =>
      rw [rangeC, List.getElem?_cons_succ, ih (lo + c) i]
      by_cases h : i < n
      · rw [if_pos h, if_pos (by omega)]
        congr 2
        rw [Int.natCast_succ, Int.add_mul]; omega
      · rw [if_neg h, if_neg (by omega)]
theorem rangeC_length (lo c : Int) (n : Nat) : (rangeC lo c n).length = n := by
  induction n generalizing lo with
  | zero => rfl
  | succ n ih => simp [rangeC, ih]
theorem src_rangeC {B1 M1 : Bar} (lo c : Int) (n : Nat) : Src G H B1 M1 (Itc lo c n) (rangeC lo c n) := by
  refine ⟨fun i H' b hi => by rw [rangeC_length] at hi; exact hi, fun i H' b hi => by rw [rangeC_length] at hi; exact hi, fun i H' v H'' x b hx ⟨e, y⟩ => ?_⟩
  subst e y
  refine ⟨.refl _, fun B' kp _ => ?_⟩
  rw [rangeC_get] at hx
  split at hx
  · cases hx; rfl
  · cases hx
end
end Py
end SB13
section SB14
set_option autoImplicit false
set_option linter.all false
set_option maxRecDepth 100000
set_option maxHeartbeats 4000000
/-! The evaluator over the hand layer, 14: stores, for. -/
namespace Py
open PySem L2

section
variable {G : Gx} {fc fc' : Fc} {fm fm2 : List Addr} {ex ex2 : Bar} {σ σ2 σ' : L2.St} {s s' s1 s2 : S} {H H1 H2 H' : Hp} {W : WX} {run : Run} {X : Cx} {ls : List Nat} {De : Ends} {pos : Pos}

/-! ### behind statements -/
def PstS (G : Gx) (fc : Fc) (ex : Bar) (W : WX) (D : Ends) : Out Fl → Prop
  | .ok .nx s' => ∀ fm σ H, FR G fc fm ex σ s' H → D.nx σ H
  | .ok .brk s' => ∀ fm σ H, FR G fc fm ex σ s' H → D.bk σ H
  | .ok .cnt s' => ∀ fm σ H, FR G fc fm ex σ s' H → D.ct σ H
  | .ok (.ret r) s' => ∀ fm σ H v, FR G fc fm ex σ s' H → RR G fc fm ex σ s' H r v → D.rt v H
  | .exc c fs s' => ∀ fm σ C d H, FR G fc fm ex σ s' H → XR G H (Br fm ex s' σ) c fs C d → W C d σ H
  | .stuck => False
noncomputable def tSt (G : Gx) (run : Run) (W : WX) (t : T) : TS := fun D σ H => ∃ fc fm ex s, FR G fc fm ex σ s H ∧ PstS G fc ex W D (exT whileL G.P run t s)
noncomputable def tSs (G : Gx) (run : Run) (W : WX) (ts : List T) : TS := fun D σ H => ∃ fc fm ex s, FR G fc fm ex σ s H ∧ PstS G fc ex W D (exTs whileL G.P run ts s)
theorem PS.imp {st : Stmt} {t t' : TS} (h : PS X st t) (f : ∀ D σ H, t' D σ H → t D σ H) : PS X st t' := ⟨fun pins s σ H Q I q => h.run pins s σ H Q I (f Q σ H q)⟩
theorem PSs.imp {st : List Stmt} {t t' : TS} (h : PSs X st t) (f : ∀ D σ H, t' D σ H → t D σ H) : PSs X st t' := ⟨fun pins s σ H Q I q => h.run pins s σ H Q I (f Q σ H q)⟩
theorem PG.imp {e : Expr} {t t' : TG} (h : PG X e t) (f : ∀ v σ H Q, t' v σ H Q → t v σ H Q) : PG X e t' := ⟨fun pins s σ H v u Q I r q => h.run pins s σ H v u Q I r (f v σ H Q q)⟩
theorem PGs.imp {e : List Expr} {t t' : TGs} (h : PGs X e t) (f : ∀ v σ H Q, t' v σ H Q → t v σ H Q) : PGs X e t' := ⟨fun pins s σ H v u Q I r q => h.run pins s σ H v u Q I r (f v σ H Q q)⟩
/-- an expression ahead -/
theorem PstS.bind {α β : Type} {RA : S → Hp → α → β → Prop} {o : Out α} {k : α → S → Out Fl} (h : PstS G fc ex W De (o.bind k)) :
    Pst G fc fm ex σ W RA s H o fun b H1 => ∃ a s1, o = .ok a s1 ∧ Stp fm ex σ s H s1 H1 ∧ FR G fc fm ex σ s1 H1 ∧ RA s1 H1 a b ∧ PstS G fc ex W De (k a s1) := by
  cases o with
  | ok a s' => exact fun b H' h1 h2 h3 => ⟨a, s', rfl, h1, h2, h3, h⟩
  | exc c fs s' => exact fun C d H' _ h2 h3 => h fm σ C d H' h2 h3
  | stuck => exact h

/-! ### stores -/
theorem getσ_ne {i j : Nat} {x : Option V} (h : j ≠ i) : (σ.set i x)[j]? = σ[j]? := List.getElem?_set_ne (Ne.symm h)
theorem FR.less (F : FR G fc fm ex σ s H) (sub : ∀ a, ex2 a → ex a) : FR G fc fm ex2 σ s H := by
  have hb : ∀ a, Br fm ex2 s σ a → Br fm ex s σ a := fun a h => by
    rcases h with h | h | h
    · exact .inl h
    · exact .inr (.inl (sub a h))
    · exact .inr (.inr h)
  exact F.slot s.env.length rfl rfl rfl (fun _ _ => rfl) (fun _ _ => rfl) sub hb ((F.slots _).chg rfl hb) fun a h => ⟨(F.apF _ a h).1, fun z => (F.apF _ a h).2 (sub a z), fun j hj z => hj (F.apO _ _ a z h), fun m => F.newO _ a ⟨m, h.2⟩, F.newL _ a h⟩
theorem FR.setPub (F : FR G fc fm ex σ s H) (i : Nat) {d : D} {v : V} (r : DR G H (Br fm ex s σ) d v) : FR G fc fm ex (σ.set i (some v)) (s.set i (.pub d)) H := by
  by_cases hi : i < s.env.length
  · have old : ∀ j a, OwnA (s.set i (.pub d)) (σ.set i (some v)) j a → j ≠ i ∧ OwnA s σ j a := fun j a h => by
      by_cases q : j = i
      · subst q
        have := h.1
        rw [S.get_eq hi] at this
        cases this
      · exact ⟨q, by rw [← S.get_ne (s := s) (x := .pub d) q]; exact h.1, by rw [← getσ_ne q]; exact h.2⟩
    have hb : ∀ a, Br fm ex (s.set i (.pub d)) (σ.set i (some v)) a → Br fm ex s σ a := fun a h => by
      rcases h with h | h | ⟨j, h⟩
      · exact .inl h
      · exact .inr (.inl h)
      · exact .inr (.inr ⟨j, (old j a h).2⟩)
    refine F.slot i (by simp) (S.len_set _ _ _) rfl (fun j h => getσ_ne h) (fun j h => S.get_ne h) (fun _ h => h) hb ?_ fun a h => absurd rfl (old i a h).1
    rw [S.get_eq hi]
    exact ⟨v, by rw [List.getElem?_set_self (by rw [F.len]; exact hi)], r.mono fun a o n z => ⟨z, fun q => n (hb a q)⟩⟩
  · have h1 : s.env.length ≤ i := Nat.le_of_not_lt hi
    rw [S.set_out h1, List.set_eq_of_length_le (by rw [F.len]; exact h1)]
    exact F
theorem FR.setOwn (i : Nat) {d : D} {v : V} (F : FR G fc fm ex σ s H) (r : RR G fc fm ex σ s H (.own d) v) : FR G fc fm ex (σ.set i (some v)) (s.set i (.own d)) H := by
  obtain ⟨a, rfl, h1, h2, h3, h4⟩ := r
  by_cases hi : i < s.env.length
  · have old : ∀ j b, OwnA (s.set i (.own d)) (σ.set i (some (.ref a))) j b → (j = i ∧ b = a) ∨ (j ≠ i ∧ OwnA s σ j b) := fun j b h => by
      by_cases q : j = i
      · subst q
        have := h.2
        rw [List.getElem?_set_self (by rw [F.len]; exact hi)] at this
        cases this
        exact .inl ⟨rfl, rfl⟩
      · exact .inr ⟨q, by rw [← S.get_ne (s := s) (x := .own d) q]; exact h.1, by rw [← getσ_ne q]; exact h.2⟩
    have hb : ∀ b, Br fm ex (s.set i (.own d)) (σ.set i (some (.ref a))) b → Br fm (fun b => ex b ∨ b = a) s σ b := fun b h => by
      rcases h with h | h | ⟨j, h⟩
      · exact .inl h
      · exact .inr (.inl (.inl h))
      · rcases old j b h with ⟨_, z⟩ | ⟨_, z⟩
        · exact .inr (.inl (.inr z))
        · exact .inr (.inr ⟨j, z⟩)
    refine h2.slot i (by simp) (S.len_set _ _ _) rfl (fun j h => getσ_ne h) (fun j h => S.get_ne h) (fun _ h => .inl h) hb ?_ fun b h => ?_
    · rw [S.get_eq hi]
      exact ⟨a, by rw [List.getElem?_set_self (by rw [F.len]; exact hi)], h1.mono (fun b o n z => ⟨z, fun q => n (hb b q)⟩) fun _ z => z⟩
    · rcases old i b h with ⟨_, rfl⟩ | ⟨z, _⟩
      · refine ⟨fun z => h3 (.inl z), fun z => h3 (.inr (.inl z)), fun j hj z => h3 (.inr (.inr ⟨j, z⟩)), fun _ => h4, fun m => ?_⟩
        rw [S.get_eq hi] at m
        cases m
      · exact absurd rfl z
  · have hl : s.env.length ≤ i := Nat.le_of_not_lt hi
    rw [S.set_out hl, List.set_eq_of_length_le (by rw [F.len]; exact hl)]
    exact F
/-! ### targets -/
mutual
def tgSlots : Tg → List Nat
  | .nm i => [i]
  | .tup ts => tgsSlots ts
def tgsSlots : List Tg → List Nat
  | [] => []
  | t :: ts => tgSlots t ++ tgsSlots ts
end
/-- what a store to the slots ts leaves -/
structure TgS (fm : List Addr) (ex : Bar) (ts : List Nat) (σ : L2.St) (s : S) (H : Hp) (σ' : L2.St) (s' : S) (H' : Hp) : Prop where
  hk : ∀ a o, H a = some o → H' a = some o
  kp : Kp H H' (Br fm ex s σ) (Br fm ex s' σ')
  len : σ'.length = σ.length
  len2 : s'.env.length = s.env.length
  out : ∀ j, j ∉ ts → σ'[j]? = σ[j]?
  outs : ∀ j, j ∉ ts → s'.get j = s.get j
  own : ∀ i a, OwnA s' σ' i a → OwnA s σ i a
  mutt : ∀ i a, MutA s' σ' i a → MutA s σ i a
def tTg (G : Gx) (t : Tg) : TG := fun v σ H Q => ∃ fc fm ex s d, FR G fc fm ex σ s H ∧ DR G H (Br fm ex s σ) d v ∧ ∃ s', tgD t d s = some s' ∧ ∀ σ' H', FR G fc fm ex σ' s' H' → TgS fm ex (tgSlots t) σ s H σ' s' H' → Q σ' H'
def tTgs (G : Gx) (ts : List Tg) : TGs := fun vs σ H Q => ∃ fc fm ex s ds, FR G fc fm ex σ s H ∧ DRs G H (Br fm ex s σ) ds vs ∧ ∃ s', tgDs ts ds s = some s' ∧ ∀ σ' H', FR G fc fm ex σ' s' H' → TgS fm ex (tgsSlots ts) σ s H σ' s' H' → Q σ' H'
/-- a store of public data leaves data as it is -/
theorem br_set {i : Nat} {v : V} {d : D} : ∀ a, Br fm ex (s.set i (.pub d)) (σ.set i (some v)) a → Br fm ex s σ a := fun a h => by
  rcases h with h | h | ⟨j, h⟩
  · exact .inl h
  · exact .inr (.inl h)
  · refine .inr (.inr ⟨j, ?_⟩)
    by_cases q : j = i
    · subst q
      by_cases hi : j < s.env.length
      · have := h.1
        rw [S.get_eq hi] at this
        cases this
      · have := h.1
        rw [S.set_out (Nat.le_of_not_lt hi)] at this
        have : owns (s.get j) = false := by simp [S.get, List.getD_eq_getElem?_getD, List.getElem?_eq_none (Nat.le_of_not_lt hi), owns]
        simp_all
    · exact ⟨by rw [← S.get_ne (s := s) (x := .pub d) q]; exact h.1, by rw [← getσ_ne q]; exact h.2⟩
theorem own_set {i j : Nat} {v : V} {d : D} {a : Addr} (h : OwnA (s.set i (.pub d)) (σ.set i (some v)) j a) : j ≠ i ∧ OwnA s σ j a := by
  by_cases q : j = i
  · subst q
    by_cases hi : j < s.env.length
    · have := h.1
      rw [S.get_eq hi] at this
      cases this
    · have := h.1
      rw [S.set_out (Nat.le_of_not_lt hi)] at this
      have : owns (s.get j) = false := by simp [S.get, List.getD_eq_getElem?_getD, List.getElem?_eq_none (Nat.le_of_not_lt hi), owns]
      simp_all
  · exact ⟨q, by rw [← S.get_ne (s := s) (x := .pub d) q]; exact h.1, by rw [← getσ_ne q]; exact h.2⟩
theorem g_name {i : Nat} {x : Str} (h : PG X (.Name x pos) (gName i)) : PG X (.Name x pos) (tTg G (.nm i)) := by
  refine PG.imp h fun v σ H Q ⟨fc, fm, ex, s, d, F, r, s', e, k⟩ => ?_
  simp only [tgD] at e
  cases e
  refine k _ _ (F.setPub i r) ⟨fun _ _ h => h, fun a o n z => ⟨z, fun q => n (br_set a q)⟩, by simp, S.len_set _ _ _, fun j hj => getσ_ne (by simpa [tgSlots] using hj), fun j hj => S.get_ne (by simpa [tgSlots] using hj), fun j a h => (own_set h).2, fun j a h => ?_⟩
  obtain ⟨hj, h2⟩ := own_set (s := s) (d := d) ⟨muts_owns h.1, h.2⟩
  exact ⟨by rw [← S.get_ne (s := s) (x := .pub d) hj]; exact h.1, h2.2⟩
theorem gs_nil : PGs X [] (tTgs G []) := by
  refine PGs.imp pgs_nil fun v σ H Q ⟨fc, fm, ex, s, ds, F, r, s', e, k⟩ => ?_
  cases ds with
  | nil => cases r; cases e; exact ⟨rfl, k _ _ F ⟨fun _ _ h => h, fun a o n z => ⟨z, n⟩, rfl, rfl, fun _ _ => rfl, fun _ _ => rfl, fun _ _ h => h, fun _ _ h => h⟩⟩
  | cons d ds => cases e
theorem gs_cons {t : Expr} {ts : List Expr} {t' : Tg} {ts' : List Tg} (h : PG X t (tTg G t')) (h2 : PGs X ts (tTgs G ts')) (hs : (assignEach (t :: ts) X.env).map (·.2) = assign t X.env :: (assignEach ts X.env).map (·.2)) : PGs X (t :: ts) (tTgs G (t' :: ts')) := by
  refine PGs.imp (pgs_cons h h2 hs) fun v σ H Q ⟨fc, fm, ex, s, ds, F, r, s', e, k⟩ => ?_
  cases ds with
  | nil => cases e
  | cons d ds =>
    obtain ⟨w, ws, rfl, r1, r2⟩ := r
    obtain ⟨s1, e1, e2⟩ := Option.bind_eq_some_iff.mp (show (tgD t' d s).bind (fun s1 => tgDs ts' ds s1) = some s' from e)
    refine ⟨w, ws, rfl, fc, fm, ex, s, d, F, r1, s1, e1, fun σ1 H1 F1 k1 => ?_⟩
    exact ⟨fc, fm, ex, s1, ds, F1, r2.mono k1.kp, s', e2, fun σ' H' F' k' => k σ' H' F' ⟨fun a o h => k'.hk a o (k1.hk a o h), fun a o n z => let ⟨z1, n1⟩ := k1.kp a o n z; k'.kp a o n1 z1, k'.len.trans k1.len, k'.len2.trans k1.len2,
      fun j hj => (k'.out j fun z => hj (by simp [tgsSlots, z])).trans (k1.out j fun z => hj (by simp [tgsSlots, z])), fun j hj => (k'.outs j fun z => hj (by simp [tgsSlots, z])).trans (k1.outs j fun z => hj (by simp [tgsSlots, z])),
      fun i a h => k1.own i a (k'.own i a h), fun i a h => k1.mutt i a (k'.mutt i a h)⟩⟩
theorem tgDs_len : ∀ {ts : List Tg} {xs : List D} {s s' : S}, tgDs ts xs s = some s' → xs.length = ts.length
  | [], [], _, _, _ => rfl
  | [], _ :: _, _, _, e => by cases e
  | _ :: _, [], _, _, e => by cases e
  | t :: ts, x :: xs, s, s', e => by
    obtain ⟨s1, e1, e2⟩ := Option.bind_eq_some_iff.mp (show (tgD t x s).bind (fun s1 => tgDs ts xs s1) = some s' from e)
    simp [tgDs_len e2]
theorem g_tup {es : List Expr} {k0 : Nat} {ts : List Tg} (hc : X.calm = true) (hK : X.K = G.K) (h : PGs X es (tTgs G ts)) (hn : (assignEach es X.env).length = ts.length) (hst : (assignEach es X.env).findIdx? (·.1) = none) : PG X (.Tuple es k0 pos) (tTg G (.tup ts)) := by
  refine PG.imp (pg_tup hc h hn hst) fun v σ H Q ⟨fc, fm, ex, s, d, F, r, s', e, k⟩ => ?_
  cases d with
  | tup xs =>
    have e : tgDs ts xs s = some s' := e
    obtain ⟨a, vs, rfl, q, t⟩ := r
    have hl : vs.length = ts.length := by rw [← t.length]; exact tgDs_len e
    have q := q.sq
    rw [← hK] at q
    exact ⟨a, vs, rfl, q, hl, fc, fm, ex, s, xs, F, t, s', e, k⟩
  | _ => cases e
/-! ### for -/
theorem Out.ends_bind {α β : Type} (o : Out α) (k : α → S → Out β) (f : S → S) : (o.bind k).ends f = (match o with
    | .ok a s => (k a s).ends f
    | .exc c fs s => .exc c fs (f s)
    | .stuck => .stuck) := by cases o <;> rfl
theorem for_ok {J : L2.It} {xs : List D} {f : D → S → Out Fl} {g : TG} {tb : TS} (F : FR G fc fm ex σ s H) (hls : ∀ i ∈ ls, ∃ d, s.get i = .own d) (S0 : Src G H (Br fm ex s σ) (Mu fm (lend s ls) σ) J xs)
    (h : PstS G fc ex W De ((forGo f xs (lend s ls)).ends fun t => unlend t ls))
    (hf : ∀ x v fm' σ' s' H' De', FR G (reb fc fm s ls σ H) fm' ex σ' s' H' → DR G H' (Br fm' ex s' σ') x v → PstS G (reb fc fm s ls σ H) ex W De' (f x s') → g v σ' H' fun σ2 H2 => tb De' σ2 H2) :
    ∃ W0 : Nat → Nat → L2.St → Hp → Prop, (∃ m, W0 0 m σ H) ∧ ∀ i m σ H, W0 i m σ H →
      (J.stop i H ∧ De.nx σ H) ∨ (J.go i H ∧ ∃ N : L2.St → Hp → Prop, (∀ σ' H', N σ' H' → ∃ m', m' < m ∧ W0 (i + 1) m' σ' H') ∧ ∀ x H', J.yld i H x H' → g x σ H' fun σ2 H2 => tb { De with nx := N, ct := N, bk := De.nx } σ2 H2) := by
  refine ⟨fun i m σ' H' => m = xs.length - i ∧ i ≤ xs.length ∧ ∃ fm' s', FR G (reb fc fm s ls σ H) fm' ex σ' s' H' ∧ PstS G fc ex W De ((forGo f (xs.drop i) s').ends fun t => unlend t ls), ⟨xs.length, by simp, Nat.zero_le _, fm, _, F.reb ls, by simpa using h⟩, ?_⟩
  rintro i m σ' H' ⟨rfl, hi, fm', s', F', p⟩
  by_cases hlt : i < xs.length
  · refine .inr ⟨S0.go i H' F'.base hlt, fun σ2 H2 => (xs.length - (i + 1) = xs.length - (i + 1)) ∧ i + 1 ≤ xs.length ∧ ∃ fm' s', FR G (reb fc fm s ls σ H) fm' ex σ2 s' H2 ∧ PstS G fc ex W De ((forGo f (xs.drop (i + 1)) s').ends fun t => unlend t ls), fun σ2 H2 n => ⟨_, by omega, n⟩, fun v H5 y => ?_⟩
    have hx : xs[i]? = some xs[i] := List.getElem?_eq_getElem hlt
    obtain ⟨gr, dr⟩ := S0.yld i H' v H5 xs[i] F'.base hx y
    have F5 := F'.grow gr
    refine hf xs[i] v fm' σ' s' H5 _ F5 (dr _ (F.rebK F5 fun a h => .inl (.inr (.inl h))) fun a h => F'.brH h) ?_
    rw [List.drop_eq_getElem_cons hlt, forGo, Out.ends_bind] at p
    revert p
    cases f xs[i] s' with
    | stuck => exact fun p => p
    | exc c fs s1 => exact fun p fm2 σ2 C d H2 F2 r => p fm2 σ2 C d H2 (F.unreb hls F2) r.unreb
    | ok fl s1 =>
      cases fl with
      | nx => exact fun p fm2 σ2 H2 F2 => ⟨rfl, hlt, fm2, s1, F2, p⟩
      | cnt => exact fun p fm2 σ2 H2 F2 => ⟨rfl, hlt, fm2, s1, F2, p⟩
      | brk => exact fun p fm2 σ2 H2 F2 => p fm2 σ2 H2 (F.unreb hls F2)
      | ret r => exact fun p fm2 σ2 H2 v F2 rr => p fm2 σ2 H2 v (F.unreb hls F2) (rr.unreb F hls)
  · have e : i = xs.length := by omega
    subst e
    refine .inl ⟨S0.stop _ H' F'.base (Nat.le_refl _), ?_⟩
    rw [List.drop_length, forGo] at p
    exact p fm' σ' H' (F.unreb hls F')
theorem ss_nil : PSs X [] (tSs G run W []) := by
  refine PSs.imp pss_nil fun De σ H ⟨fc, fm, ex, s, F, p⟩ => ?_
  rw [exTs] at p
  exact p fm σ H F
theorem s_for {tg iter : Expr} {body : List Stmt} {t : Tg} {it : Py.It} {b : List T} (hp : PassesOwn (model X.prog X.w) X.A X.env X.xe) (hc : X.calm = true) (hi : PI X tg iter (tIt G run W it)) (hg : PG X tg (tTg G t)) (hb : PSs X body (tSs G run W b))
    (hs : ∀ x, foldedSetIterable iter X.env x = pure x) : PS X (.For tg iter body [] pos) (tSt G run W (.for_ t it b)) := by
  refine PS.imp (ps_for hp hc hi hg hb hs) fun De σ H ⟨fc, fm, ex, s, F, p⟩ => ?_
  rw [exT] at p
  refine ⟨fc, fm, ex, s, F, p.bind.imp fun J H1 ⟨pr, s1, _, st1, F1, S1, p1⟩ => ?_⟩
  refine for_ok F1 (fun i hi => ownIn_own s1 hi) S1 p1 fun x v fm' σ' s' H' De' F' r q => ?_
  cases e : tgD t x s' with
  | none => rw [e] at q; exact q.elim
  | some u1 =>
    rw [e] at q
    exact ⟨_, fm', ex, s', x, F', r, u1, e, fun σ2 H2 F2 _ => ⟨_, fm', ex, u1, F2, q⟩⟩
end
end Py
end SB14
section SB15
set_option autoImplicit false
set_option linter.all false
set_option maxRecDepth 100000
set_option maxHeartbeats 4000000
/-! The evaluator over the hand layer, 15: list comprehensions. -/
namespace Py
open PySem L2

section
variable {G : Gx} {fc fc' : Fc} {fm fm2 : List Addr} {ex ex2 : Bar} {σ σ2 σ' : L2.St} {s s' s0 s1 s2 : S} {H H1 H2 H' : Hp} {W : WX} {run : Run} {X : Cx} {ls own : List Nat} {De : Ends} {pos : Pos}

theorem wipe_get (σ : L2.St) : ∀ (vs : List Nat) (j : Nat), (j ∉ vs → (wipe σ vs)[j]? = σ[j]?) ∧ (j ∈ vs → j < σ.length → (wipe σ vs)[j]? = some none)
  | [], j => ⟨fun _ => rfl, fun h => by cases h⟩
  | v :: vs, j => by
    obtain ⟨h1, h2⟩ := wipe_get σ vs j
    unfold wipe
    refine ⟨fun h => ?_, fun h hl => ?_⟩
    · rw [List.getElem?_set_ne (by intro e; exact h (by simp [e]))]
      exact h1 fun z => h (List.mem_cons_of_mem _ z)
    · by_cases e : v = j
      · subst e
        exact List.getElem?_set_self (by rw [wipe_length]; exact hl)
      · rw [List.getElem?_set_ne e]
        rcases List.mem_cons.mp h with z | z
        · exact absurd z.symm e
        · exact h2 z hl
theorem wipe_out' {vs : List Nat} {j : Nat} (h : σ.length ≤ j) : (wipe σ vs)[j]? = none := List.getElem?_eq_none (by rw [wipe_length]; exact h)
theorem wipeE_get (s : S) : ∀ (vs : List Nat), (wipeE s vs).cells = s.cells ∧ (wipeE s vs).env.length = s.env.length ∧ ∀ j, (j ∉ vs → (wipeE s vs).get j = s.get j) ∧ (j ∈ vs → (wipeE s vs).get j = .non)
  | [] => ⟨rfl, rfl, fun j => ⟨fun _ => rfl, fun h => by cases h⟩⟩
  | v :: vs => by
    obtain ⟨h1, h2, h3⟩ := wipeE_get s vs
    refine ⟨h1, (S.len_set _ _ _).trans h2, fun j => ⟨fun h => ?_, fun h => ?_⟩⟩
    · show ((wipeE s vs).set v .non).get j = _
      rw [S.get_ne (by intro e; exact h (by simp [e]))]
      exact (h3 j).1 fun z => h (List.mem_cons_of_mem _ z)
    · show ((wipeE s vs).set v .non).get j = _
      by_cases e : j = v
      · subst e
        by_cases hl : j < (wipeE s vs).env.length
        · exact S.get_eq hl
        · rw [S.set_out (Nat.le_of_not_lt hl)]
          simp [S.get, List.getD_eq_getElem?_getD, List.getElem?_eq_none (Nat.le_of_not_lt hl)]
      · rw [S.get_ne e]
        rcases List.mem_cons.mp h with z | z
        · exact absurd z e
        · exact (h3 j).2 z
theorem restoreE_get (s0 s : S) (hl : s0.env.length = s.env.length) : ∀ (vs : List Nat), (restoreE s0 s vs).cells = s.cells ∧ (restoreE s0 s vs).env.length = s.env.length ∧ ∀ j, (j ∉ vs → (restoreE s0 s vs).get j = s.get j) ∧ (j ∈ vs → (restoreE s0 s vs).get j = s0.get j)
  | [] => ⟨rfl, rfl, fun j => ⟨fun _ => rfl, fun h => by cases h⟩⟩
  | v :: vs => by
    obtain ⟨h1, h2, h3⟩ := restoreE_get s0 s hl vs
    refine ⟨h1, (S.len_set _ _ _).trans h2, fun j => ⟨fun h => ?_, fun h => ?_⟩⟩
    · show ((restoreE s0 s vs).set v (s0.get v)).get j = _
      rw [S.get_ne (by intro e; exact h (by simp [e]))]
      exact (h3 j).1 fun z => h (List.mem_cons_of_mem _ z)
    · show ((restoreE s0 s vs).set v (s0.get v)).get j = _
      by_cases e : j = v
      · subst e
        by_cases hlt : j < (restoreE s0 s vs).env.length
        · exact S.get_eq hlt
        · have z : s0.env.length ≤ j := by rw [hl, ← h2]; exact Nat.le_of_not_lt hlt
          rw [S.set_out (Nat.le_of_not_lt hlt)]
          simp [S.get, List.getD_eq_getElem?_getD, List.getElem?_eq_none (Nat.le_of_not_lt hlt), List.getElem?_eq_none z]
      · rw [S.get_ne e]
        rcases List.mem_cons.mp h with z | z
        · exact absurd z e
        · exact (h3 j).2 z
/-- many slots change: each is forgotten, kept, or holds what is public -/
theorem FR.slots' (F : FR G fc fm ex σ s H) (hl : σ'.length = σ.length) (hl2 : s'.env.length = s.env.length) (hc : s'.cells = s.cells)
    (hs : ∀ i, (σ'[i]? = σ[i]? ∧ s'.get i = s.get i) ∨ s'.get i = .non ∨ ∃ d v, s'.get i = .pub d ∧ σ'[i]? = some (some v) ∧ DR G H (Br fm ex s σ) d v) : FR G fc fm ex σ' s' H ∧ (∀ i a, OwnA s' σ' i a → OwnA s σ i a) ∧ (∀ i a, MutA s' σ' i a → MutA s σ i a) := by
  have old : ∀ i a, OwnA s' σ' i a → OwnA s σ i a := fun i a h => by
    rcases hs i with ⟨h1, h2⟩ | h1 | ⟨d, v, h1, _⟩
    · exact ⟨by rw [← h2]; exact h.1, by rw [← h1]; exact h.2⟩
    · have := h.1; rw [h1] at this; cases this
    · have := h.1; rw [h1] at this; cases this
  have oldm : ∀ i a, MutA s' σ' i a → MutA s σ i a := fun i a h => by
    rcases hs i with ⟨h1, h2⟩ | h1 | ⟨d, v, h1, _⟩
    · exact ⟨by rw [← h2]; exact h.1, by rw [← h1]; exact h.2⟩
    · have := h.1; rw [h1] at this; cases this
    · have := h.1; rw [h1] at this; cases this
  have hb : ∀ a, Br fm ex s' σ' a → Br fm ex s σ a := fun a h => by
    rcases h with h | h | ⟨j, h⟩
    · exact .inl h
    · exact .inr (.inl h)
    · exact .inr (.inr ⟨j, old j a h⟩)
  refine ⟨{
    len := by rw [hl, hl2]; exact F.len
    fml := by rw [hc]; exact F.fml
    nd := F.nd
    cells := by rw [hc]; exact F.cells
    slots := fun i => by
      rcases hs i with ⟨h1, h2⟩ | h1 | ⟨d, v, h1, h2, h3⟩
      · rw [h1, h2]; exact (F.slots i).chg rfl hb
      · rw [h1]; trivial
      · rw [h1, h2]; exact ⟨v, rfl, h3.mono fun a o n z => ⟨z, fun q => n (hb a q)⟩⟩
    apF := fun i a h => F.apF i a (old i a h)
    apO := fun i j a h1 h2 => F.apO i j a (old i a h1) (old j a h2)
    exF := F.exF
    exH := F.exH
    base := F.base
    newO := fun i a h => F.newO i a (oldm i a h)
    newL := fun i a h m => by
      rcases hs i with ⟨h1, h2⟩ | h1 | ⟨d, v, h1, _⟩
      · exact F.newL i a (old i a h) (by rw [← h2]; exact m)
      · have := h.1; rw [h1] at this; cases this
      · have := h.1; rw [h1] at this; cases this
    newF := F.newF
    pre := F.pre
    m0 := F.m0
    m1 := F.m1 }, old, oldm⟩
theorem FR.wipe (F : FR G fc fm ex σ s H) (own : List Nat) : FR G fc fm ex (wipe σ own) (wipeE s own) H ∧ (∀ i a, OwnA (wipeE s own) (wipe σ own) i a → OwnA s σ i a) ∧ (∀ i a, MutA (wipeE s own) (wipe σ own) i a → MutA s σ i a) := by
  obtain ⟨h1, h2, h3⟩ := wipeE_get s own
  refine F.slots' (wipe_length σ own) h2 h1 fun i => ?_
  by_cases h : i ∈ own
  · exact .inr (.inl ((h3 i).2 h))
  · exact .inl ⟨(wipe_get σ own i).1 h, (h3 i).1 h⟩
theorem pubOwn_ok : ∀ {own : List Nat} {s s1 : S}, FR G fc fm ex σ s H → pubOwn s own = some s1 → FR G fc fm ex σ s1 H ∧ Stp fm ex σ s H s1 H ∧ s1.env.length = s.env.length ∧ (∀ i, (∃ d, s.get i = .own d ∧ s1.get i = .pub d) ∨ s1.get i = s.get i) ∧ ∀ i ∈ own, s1.get i = .non ∨ ∃ d, s1.get i = .pub d
  | [], s, s1, F, e => by cases e; exact ⟨F, .refl, rfl, fun i => .inr rfl, fun _ h => by cases h⟩
  | k :: own, s, s1, F, e => by
    have stay : ∀ {s1 : S} {own : List Nat} {x : Sl}, (x = .non ∨ ∃ d, x = .pub d) → s.get k = x → (∀ i, (∃ d, s.get i = .own d ∧ s1.get i = .pub d) ∨ s1.get i = s.get i) → s1.get k = .non ∨ ∃ d, s1.get k = .pub d := by
      intro s1 own x hx e h
      rcases h k with ⟨d, h1, h2⟩ | h1
      · exact .inr ⟨d, h2⟩
      · rw [h1, e]; exact hx
    unfold pubOwn at e
    split at e
    · rename_i d ek
      have hk : k < s.env.length := S.get_lt (by rw [ek]; exact fun z => nomatch z)
      obtain ⟨F1, st1, _⟩ := F.pubS ek
      obtain ⟨F2, st2, l2, h3, h4⟩ := pubOwn_ok F1 e
      refine ⟨F2, st1.trans st2, l2.trans (S.len_set _ _ _), fun i => ?_, fun i hi => ?_⟩
      · by_cases q : i = k
        · subst q
          left
          refine ⟨d, ek, ?_⟩
          rcases h3 i with ⟨d', h5, h6⟩ | h5
          · rw [S.get_eq hk] at h5; cases h5
          · rw [h5, S.get_eq hk]
        · rcases h3 i with ⟨d', h5, h6⟩ | h5
          · rw [S.get_ne q] at h5; exact .inl ⟨d', h5, h6⟩
          · rw [S.get_ne q] at h5; exact .inr h5
      · rcases List.mem_cons.mp hi with hi | hi
        · subst hi
          rcases h3 i with ⟨d', h5, h6⟩ | h5
          · exact .inr ⟨d', h6⟩
          · rw [S.get_eq hk] at h5; exact .inr ⟨d, h5⟩
        · exact h4 i hi
    · rename_i d ek
      obtain ⟨F2, st2, l2, h3, h4⟩ := pubOwn_ok F e
      exact ⟨F2, st2, l2, h3, fun i hi => (List.mem_cons.mp hi).elim (fun z => by rw [z]; exact stay (own := own) (.inr ⟨d, rfl⟩) ek h3) (h4 i)⟩
    · rename_i ek
      obtain ⟨F2, st2, l2, h3, h4⟩ := pubOwn_ok F e
      exact ⟨F2, st2, l2, h3, fun i hi => (List.mem_cons.mp hi).elim (fun z => by rw [z]; exact stay (own := own) (.inl rfl) ek h3) (h4 i)⟩
    · cases e
theorem Src.mono {B1 B1' M1 M1' : Bar} {J : L2.It} {xs : List D} (h : Src G H B1 M1 J xs) (hb : ∀ a, B1' a → B1 a) (hm : ∀ a, M1' a → M1 a) : Src G H B1' M1' J xs :=
  ⟨fun i H' b => h.go i H' fun a o e n => b a o e fun z => n (hm a z), fun i H' b => h.stop i H' fun a o e n => b a o e fun z => n (hm a z),
   fun i H' v H'' x b hx y => let ⟨g, k⟩ := h.yld i H' v H'' x (fun a o e n => b a o e fun z => n (hm a z)) hx y; ⟨g, fun B' kp => k B' fun a o n z => kp a o (fun q => n (hb a q)) z⟩⟩
/-- a barred object changes -/
theorem FR.updEx (F : FR G fc fm ex σ s H) {p : Addr} {o : HO} (hp : ex p) (h0 : fc.H0 p = none) : FR G fc fm ex σ s (upd H p o) := by
  have ne : ∀ b u, ¬ Br fm ex s σ b → H b = some u → upd H p o b = some u := fun b u n z => by rw [upd_ne (show b ≠ p from fun e => n (.inr (.inl (by rw [e]; exact hp))))]; exact z
  have live : ∀ b, H b ≠ none → upd H p o b ≠ none := fun b h => upd_live h
  exact {
    len := F.len
    fml := F.fml
    nd := F.nd
    cells := fun k xs e => let ⟨a, vs, h1, h2, h3, h4⟩ := F.cells k xs e; ⟨a, vs, h1, by rw [upd_ne (show a ≠ p from fun e => F.exF p hp (by rw [← e]; exact List.mem_of_getElem? h1))]; exact h2, h3.flat h4, h4⟩
    slots := fun i => by
      have q := F.slots i
      have keep : ∀ a u, OwnA s σ i a → H a = some u → upd H p o a = some u := fun a u h z => by rw [upd_ne (show a ≠ p from fun e => (F.apF i a h).2 (by rw [e]; exact hp))]; exact z
      have up : Kp H (upd H p o) (Br fm ex s σ) (Br fm ex s σ) := fun a u n z => ⟨ne a u n z, n⟩
      cases e : s.get i with
      | non => trivial
      | rng xs => rw [e] at q; obtain ⟨r, lo, hi, e1, nb, e2, e3⟩ := q; exact ⟨r, lo, hi, e1, (up r _ nb e2).2, (up r _ nb e2).1, e3⟩
      | itr xs => rw [e] at q; exact q
      | pub d => rw [e] at q; obtain ⟨v, e1, r⟩ := q; exact ⟨v, e1, r.mono up⟩
      | own d => rw [e] at q; obtain ⟨a, e1, r⟩ := q; exact ⟨a, e1, r.mono up fun o z => keep a o ⟨by rw [e]; rfl, e1⟩ z⟩
      | lent d => rw [e] at q; obtain ⟨a, e1, r⟩ := q; exact ⟨a, e1, r.mono up fun o z => keep a o ⟨by rw [e]; rfl, e1⟩ z⟩
      | cell k => rw [e] at q; exact q
      | new c fs => rw [e] at q; obtain ⟨a, C, dx, gs, e1, e2, o, r⟩ := q; exact ⟨a, C, dx, gs, e1, keep a _ ⟨by rw [e]; rfl, e1⟩ e2, o, r.mono up⟩
      | exc c fs => rw [e] at q; obtain ⟨a, e1, r⟩ := q; exact ⟨a, e1, r.mono up⟩
    apF := F.apF
    apO := F.apO
    exF := F.exF
    exH := fun a h => live a (F.exH a h)
    base := fun a u h n => by
      rw [upd_ne (show a ≠ p from fun e => by rw [e, h0] at h; cases h)]
      exact F.base a u h n
    newO := F.newO
    newL := F.newL
    newF := F.newF
    pre := F.pre
    m0 := F.m0
    m1 := fun a h => live a (F.m1 a h) }
/-! ### the tests of a clause -/
def tTs (G : Gx) (run : Run) (W : WX) (es : List E) : TT := fun σ H Q => ∃ fc fm ex s, FR G fc fm ex σ s H ∧ Pst G fc fm ex σ W RB s H (evC G.P run es s) Q
theorem PTs.imp {es : List Expr} {t t' : TT} (h : PTs X es t) (f : ∀ σ H Q, t' σ H Q → t σ H Q) : PTs X es t' := ⟨fun pins s σ H Q I q => h.run pins s σ H Q I (f σ H Q q)⟩
theorem c_nil : PTs X [] (tTs G run W []) := by
  refine PTs.imp pts_nil fun σ H Q ⟨fc, fm, ex, s, F, p⟩ => ?_
  simp only [evC] at p
  exact p.ok F rfl
theorem c_one {c : Expr} {c' : E} (h : PT X c (tT G run W c')) : PTs X [c] (tTs G run W [c']) := by
  refine PTs.imp (pts_one h) fun σ H Q ⟨fc, fm, ex, s, F, p⟩ => ⟨fc, fm, ex, s, F, ?_⟩
  have e : evC G.P run [c'] s = evT G.P run c' s := by
    unfold evT
    simp only [evC]
    congr 1
    funext x s1
    cases q : (rdat s1 x).bind Py.truthy with
    | none => rfl
    | some t => cases t <;> rfl
  rw [← e]; exact p
/-! ### comprehensions -/
theorem own_stp (F2 : FR G fc fm ex σ s2 H2) (st : Stp fm ex σ s1 H1 s2 H2) : (∀ i a, OwnA s2 σ i a → ∃ k, OwnA s1 σ k a) ∧ ∀ i a, MutA s2 σ i a → ∃ k, MutA s1 σ k a := by
  refine ⟨fun i a h => ?_, fun i a h => ?_⟩
  · rcases st.bsub a (.inr (.inr ⟨i, h⟩)) with z | z | z
    · exact absurd z (F2.apF i a h).1
    · exact absurd z (F2.apF i a h).2
    · exact z
  · rcases st.msub a (.inr ⟨i, h⟩) with z | z
    · exact absurd z (F2.apF i a ⟨muts_owns h.1, h.2⟩).1
    · exact z
/-- one turn of the evaluator -/
def lcF (P : Prog) (run : Run) (elt : E) (tg : Tg) (ifs : List E) (own : List Nat) : D → S → Out (Option D) := fun x t => match tgD tg x (wipeE t own) with
  | none => .stuck
  | some t1 => (evC P run ifs t1).bind fun b t2 => match b with
    | false => .ok none t2
    | true => (evE P run elt t2).bind fun r t3 => match esc t3 r with
      | some q => .ok (some q.1) q.2
      | none => .stuck
theorem Pst.okD {α β : Type} {RA : S → Hp → α → β → Prop} {o : Out α} {a : α} {Q : β → Hp → Prop} (e : o = .ok a s') (h : ∀ b H', Stp fm ex σ s H s' H' → FR G fc fm ex σ s' H' → RA s' H' a b → Q b H') : Pst G fc fm ex σ W RA s H o Q := by
  rw [e]; exact h
theorem mu_pub (h3 : ∀ i, (∃ d, s0.get i = .own d ∧ s1.get i = .pub d) ∨ s1.get i = s0.get i) (p2 : List Nat) : ∀ a, Mu fm (lend s1 (ownIn s1 p2)) σ a → Mu fm (lend s0 (ownIn s0 p2)) σ a := fun a h => by
  have inn : ∀ (s : S) (l : List Nat) (i : Nat), i ∈ l → (∃ d, s.get i = .own d) → i ∈ ownIn s l := by
    intro s l
    induction l with
    | nil => intro i h; cases h
    | cons k l ih =>
      intro i h ⟨d, e⟩
      unfold ownIn
      rcases List.mem_cons.mp h with h | h
      · subst h; rw [e]; exact List.mem_cons_self
      · split
        · exact List.mem_cons_of_mem _ (ih i h ⟨d, e⟩)
        · exact ih i h ⟨d, e⟩
  have sub : ∀ (s : S) (l : List Nat) (i : Nat), i ∈ ownIn s l → i ∈ l := by
    intro s l
    induction l with
    | nil => intro i h; cases h
    | cons k l ih =>
      intro i h
      unfold ownIn at h
      split at h
      · rcases List.mem_cons.mp h with h | h
        · rw [h]; exact List.mem_cons_self
        · exact List.mem_cons_of_mem _ (ih i h)
      · exact List.mem_cons_of_mem _ (ih i h)
  rcases h with h | ⟨i, h1, h2⟩
  · exact .inl h
  · refine .inr ⟨i, ?_, h2⟩
    rw [(lend_get _ _).2.2] at h1 ⊢
    rcases h3 i with ⟨d, e1, e2⟩ | e
    · rw [e2] at h1
      split at h1 <;> cases h1
    · rw [← e]
      split at h1
      · rename_i hin
        obtain ⟨d, hd⟩ := ownIn_own s1 hin
        rw [hd] at h1; cases h1
      · rename_i hin
        have : i ∉ ownIn s0 p2 := fun z => hin (inn s1 p2 i (sub s0 p2 i z) (by rw [e]; exact ownIn_own s0 z))
        rw [if_neg this]; exact h1
/-- the rest of a comprehension, its iterator made -/
def lcRest (P : Prog) (run : Run) (elt : E) (tg : Tg) (ifs : List E) (own : List Nat) (p : List D × List Nat) (s0 : S) : Out RV := match pubOwn s0 own with
    | none => .stuck
    | some s1 => (lcGo (lcF P run elt tg ifs own) p.1 (lend s1 (ownIn s1 p.2))).calm.bind fun xs s2 =>
          if xs.length ≤ 100000 then .ok (.own (.lst xs)) (unlend (restoreE s1 s2 own) (ownIn s1 p.2)) else .stuck
theorem evE_lc (P : Prog) (run : Run) (elt : E) (tg : Tg) (it : Py.It) (ifs : List E) (own : List Nat) (s : S) : evE P run (.lc elt tg it ifs own) s = (evI P run it s).bind fun p s0 => lcRest P run elt tg ifs own p s0 := by
  simp only [evE]
  congr 1
theorem lc_body {W' : WX} {J : L2.It} {elt : E} {tg : Tg} {ifs : List E} (hsub : ∀ j ∈ tgSlots tg, j ∈ own) {pr : List D × List Nat} {Q : VK} (F0 : FR G fc fm ex σ s0 H1) (S0 : Src G H1 (Br fm ex s0 σ) (Mu fm (lend s0 (ownIn s0 pr.2)) σ) J pr.1)
    (p0 : Pst G fc fm ex σ W (RE G fc fm ex σ) s0 H1 (lcRest G.P run elt tg ifs own pr s0) Q) : tLc (fun _ _ R => R J H1) (tTg G tg) (tTs G run W' ifs) (tI G run W' elt) own σ H1 Q := by
  intro D hD
  unfold lcRest at p0
  cases ep : pubOwn s0 own with
  | none => rw [ep] at p0; exact p0.elim
  | some s1 =>
  rw [ep] at p0
  obtain ⟨F1, st1, l1, h3, h4⟩ := pubOwn_ok F0 ep
  simp only at p0
  have S1 := S0.mono (fun a h => st1.bsub a h) (mu_pub (fm := fm) (σ := σ) h3 pr.2)
  have hls : ∀ i ∈ ownIn s1 pr.2, ∃ d, s1.get i = .own d := fun i hi => ownIn_own s1 hi
  revert p0
  generalize ownIn s1 pr.2 = ls at S1 hls
  cases el : lcGo (lcF G.P run elt tg ifs own) pr.1 (lend s1 ls) with
  | stuck => exact fun p0 => p0.elim
  | exc c fs s2 => exact fun p0 => p0.elim
  | ok ys s2 =>
  intro p0
  simp only [Out.calm, Out.bind] at p0
  split at p0
  · rename_i hz
    have hex : ∀ a, (ex a ∨ a = D) → Br fm ex s1 σ a ∨ H1 a = none := fun a h => h.imp (fun z => .inr (.inl z)) fun e => by rw [e]; exact hD
    refine ⟨fun i m H' => m = pr.1.length - i ∧ i ≤ pr.1.length ∧ ∃ t accD accV ysr, FR G (reb fc fm s1 ls σ H1) fm (fun b => ex b ∨ b = D) (wipe σ own) (wipeE t own) H' ∧ t.env.length = s1.env.length ∧
      (∀ i a, OwnA (wipeE t own) (wipe σ own) i a → ∃ j, OwnA s1 σ j a) ∧ (∀ i a, MutA (wipeE t own) (wipe σ own) i a → ∃ j, MutA (lend s1 ls) σ j a) ∧
      lcGo (lcF G.P run elt tg ifs own) (pr.1.drop i) t = .ok ysr s2 ∧ ys = accD ++ ysr ∧ H' D = some (.lst accV) ∧ DRs G H' (Br fm (fun b => ex b ∨ b = D) (wipeE t own) (wipe σ own)) accD accV, ⟨pr.1.length, by simp, Nat.zero_le _, ?_⟩, ?_⟩
    · obtain ⟨a1, a2, a3⟩ := ((F1.reb ls).bar (o := .lst []) hD).wipe own
      exact ⟨lend s1 ls, [], [], ys, a1, (lend_get ls s1).2.1, fun i a h => ⟨i, ownA_lend.mp (a2 i a h)⟩, fun i a h => ⟨i, a3 i a h⟩, by simpa using el, rfl, upd_same, rfl⟩
    rintro i m H' ⟨rfl, hi, t, accD, accV, ysr, F', tl, hO, hM, lg, ey, hDv, hDr⟩
    have accl : accD.length ≤ 100000 := by have := congrArg List.length ey; rw [List.length_append] at this; omega
    have accl2 : accV.length ≤ 100000 := by rw [← hDr.length]; exact accl
    by_cases hlt : i < pr.1.length
    · refine .inr ⟨S1.go i H' F'.base hlt, _, fun H2 n => ⟨pr.1.length - (i + 1), by omega, n⟩, fun v H5 y => ?_⟩
      have hx : pr.1[i]? = some pr.1[i] := List.getElem?_eq_getElem hlt
      obtain ⟨gr, dr⟩ := S1.yld i H' v H5 pr.1[i] F'.base hx y
      have F5 := F'.grow gr
      rw [List.drop_eq_getElem_cons hlt, lcGo] at lg
      obtain ⟨o, t4, ef, lg⟩ := Out.bind_ok lg
      obtain ⟨r, s2', lgr, lg2⟩ := Out.bind_ok lg
      simp only [Out.ok.injEq] at lg2
      obtain ⟨lg2, rfl⟩ := lg2
      unfold lcF at ef
      cases e1 : tgD tg pr.1[i] (wipeE t own) with
      | none => rw [e1] at ef; cases ef
      | some t1 =>
      rw [e1] at ef
      obtain ⟨b, t2, ec, ef⟩ := Out.bind_ok ef
      refine ⟨reb fc fm s1 ls σ H1, fm, _, wipeE t own, pr.1[i], F5, dr _ (F1.rebK F5 hex) (fun a h => F'.brH h), t1, e1, fun σ2 H2 F2 tgs => ?_⟩
      have wq : wipe σ2 own = wipe σ own := by
        refine List.ext_getElem? fun j => ?_
        by_cases hj : j ∈ own
        · by_cases hl : j < σ.length
          · rw [(wipe_get σ2 own j).2 hj (by rw [tgs.len, wipe_length]; exact hl), (wipe_get σ own j).2 hj hl]
          · rw [wipe_out' (by rw [tgs.len, wipe_length]; omega), wipe_out' (by omega)]
        · rw [(wipe_get σ2 own j).1 hj, tgs.out j fun z => hj (hsub j z)]
      refine ⟨wq, reb fc fm s1 ls σ H1, fm, _, t1, F2, Pst.okD ec fun b' H3 st3 F3 eb => ?_⟩
      cases (show b = b' from eb)
      have lenv : t1.env.length = s1.env.length := by rw [tgs.len2, (wipeE_get t own).2.1]; exact tl
      have O3 : (∀ i a, OwnA t2 σ2 i a → ∃ j, OwnA s1 σ j a) ∧ ∀ i a, MutA t2 σ2 i a → ∃ j, MutA (lend s1 ls) σ j a :=
        ⟨fun i a h => let ⟨k, hk⟩ := (own_stp F3 st3).1 i a h; hO k a (tgs.own k a hk), fun i a h => let ⟨k, hk⟩ := (own_stp F3 st3).2 i a h; hM k a (tgs.mutt k a hk)⟩
      have len3 : t2.env.length = s1.env.length := by rw [← F3.len, F2.len]; exact lenv
      have nMu : ∀ (t' : S) (τ : L2.St) (K : Hp), FR G (reb fc fm s1 ls σ H1) fm (fun b => ex b ∨ b = D) τ t' K → ¬ Mu fm t' τ D := fun t' τ K F z => by
        rcases z with z | ⟨k, z⟩
        · exact F.exF D (.inr rfl) z
        · exact (F.apF k D ⟨muts_owns z.1, z.2⟩).2 (.inr rfl)
      have D3 : H3 D = some (.lst accV) := st3.keep D _ (tgs.hk D _ (gr.keep D _ hDv)) (nMu _ _ _ F2)
      have R3 : DRs G H3 (Br fm (fun b => ex b ∨ b = D) t2 σ2) accD accV := ((hDr.mono fun a o n z => ⟨gr.keep a o z, n⟩).mono tgs.kp).stp st3
      have fin : ∀ {t4 : S} {H4 : Hp}, FR G (reb fc fm s1 ls σ H1) fm (fun b => ex b ∨ b = D) σ2 t4 H4 → t4.env.length = s1.env.length → (∀ i a, OwnA t4 σ2 i a → ∃ j, OwnA s1 σ j a) → (∀ i a, MutA t4 σ2 i a → ∃ j, MutA (lend s1 ls) σ j a) →
          ∀ (accD' : List Py.D) (accV' : List V) (r' : List Py.D), lcGo (lcF G.P run elt tg ifs own) (pr.1.drop (i + 1)) t4 = .ok r' s2' → ys = accD' ++ r' → H4 D = some (.lst accV') → DRs G H4 (Br fm (fun b => ex b ∨ b = D) t4 σ2) accD' accV' →
          pr.1.length - (i + 1) = pr.1.length - (i + 1) ∧ i + 1 ≤ pr.1.length ∧ ∃ t accD accV ysr, FR G (reb fc fm s1 ls σ H1) fm (fun b => ex b ∨ b = D) (wipe σ own) (wipeE t own) H4 ∧ t.env.length = s1.env.length ∧
            (∀ i a, OwnA (wipeE t own) (wipe σ own) i a → ∃ j, OwnA s1 σ j a) ∧ (∀ i a, MutA (wipeE t own) (wipe σ own) i a → ∃ j, MutA (lend s1 ls) σ j a) ∧
            lcGo (lcF G.P run elt tg ifs own) (pr.1.drop (i + 1)) t = .ok ysr s2' ∧ ys = accD ++ ysr ∧ H4 D = some (.lst accV) ∧ DRs G H4 (Br fm (fun b => ex b ∨ b = D) (wipeE t own) (wipe σ own)) accD accV := by
        intro t4 H4 F4 l4 o4 m4 accD' accV' r' g1 g2 g3 g4
        obtain ⟨a1, a2, a3⟩ := F4.wipe own
        rw [wq] at a1 a2 a3
        refine ⟨rfl, hlt, t4, accD', accV', r', a1, l4, fun i a h => let h' := a2 i a h; o4 i a h', fun i a h => m4 i a (a3 i a h), g1, g2, g3, g4.mono fun a o n z => ⟨z, fun q => n ?_⟩⟩
        rcases q with q | q | ⟨k, q⟩
        · exact .inl q
        · exact .inr (.inl q)
        · exact .inr (.inr ⟨k, a2 k a q⟩)
      cases b with
      | false =>
        simp only [Out.ok.injEq] at ef
        obtain ⟨rfl, rfl⟩ := ef
        exact fin F3 len3 O3.1 O3.2 accD accV r lgr (by rw [ey, ← lg2]) D3 R3
      | true =>
        simp only at ef
        obtain ⟨r0, t3, ee, ef⟩ := Out.bind_ok ef
        refine ⟨reb fc fm s1 ls σ H1, fm, _, t2, F3, Pst.okD ee fun yv H4 st4 F4 r4 => ⟨accV, st4.keep D _ D3 (nMu _ _ _ F3), by rw [sizeSZ]; unfold SZ; omega, ?_⟩⟩
        cases e5 : esc t3 r0 with
        | none => rw [e5] at ef; cases ef
        | some q =>
        obtain ⟨d, t5⟩ := q
        rw [e5] at ef
        simp only [Out.ok.injEq] at ef
        obtain ⟨rfl, rfl⟩ := ef
        obtain ⟨F5', st5, dr5⟩ := esc_ok F4 r4 e5
        have O5 : (∀ i a, OwnA t5 σ2 i a → ∃ j, OwnA s1 σ j a) ∧ ∀ i a, MutA t5 σ2 i a → ∃ j, MutA (lend s1 ls) σ j a :=
          ⟨fun i a h => let ⟨k, hk⟩ := (own_stp F5' (st4.trans st5)).1 i a h; O3.1 k a hk, fun i a h => let ⟨k, hk⟩ := (own_stp F5' (st4.trans st5)).2 i a h; O3.2 k a hk⟩
        have up : Kp H4 (upd H4 D (.lst (accV ++ [yv]))) (Br fm (fun b => ex b ∨ b = D) t5 σ2) (Br fm (fun b => ex b ∨ b = D) t5 σ2) := fun a o n z => ⟨by rw [upd_ne (show a ≠ D from fun e => n (.inr (.inl (.inr e))))]; exact z, n⟩
        refine fin (F5'.updEx (.inr rfl) hD) (by rw [← F5'.len, F3.len]; exact len3) O5.1 O5.2 (accD ++ [d]) _ r lgr (by rw [ey, ← lg2]; simp) upd_same ?_
        exact ((R3.stp (st4.trans st5)).append (show DRs G H4 _ [d] [yv] from ⟨yv, [], rfl, dr5, rfl⟩)).mono up
    · have ei : i = pr.1.length := by omega
      subst ei
      rw [List.drop_length, lcGo] at lg
      simp only [Out.ok.injEq] at lg
      obtain ⟨lg1, lg2⟩ := lg
      subst lg1 lg2
      refine .inl ⟨S1.stop _ H' F'.base (Nat.le_refl _), ?_⟩
      rw [List.append_nil] at ey
      subst ey
      obtain ⟨r1, r2, r3⟩ := restoreE_get s1 t tl.symm own
      have K := F1.rebK F' hex
      obtain ⟨b1, b2, b3⟩ := F'.slots' (σ' := σ) (s' := restoreE s1 t own) (wipe_length σ own).symm (by rw [r2, (wipeE_get t own).2.1]) (by rw [r1, (wipeE_get t own).1]) fun j => by
        by_cases hj : j ∈ own
        · right
          rw [(r3 j).2 hj]
          rcases h4 j hj with z | ⟨d, z⟩
          · exact .inl z
          · right
            have q := F1.slots j
            rw [z] at q
            obtain ⟨v, q1, q2⟩ := q
            exact ⟨d, v, z, q1, q2.mono K⟩
        · left
          rw [(r3 j).1 hj, ((wipeE_get t own).2.2 j).1 hj, (wipe_get σ own j).1 hj]
          exact ⟨rfl, rfl⟩
      have F3 := F1.unreb hls b1
      have nbr : ¬ Br fm ex (unlend (restoreE s1 t own) ls) σ D := fun z => by
        rcases z with z | z | ⟨k, z⟩
        · exact F3.exF D (.inr rfl) z
        · exact F1.exH D z hD
        · exact (F3.apF k D z).2 (.inr rfl)
      refine p0 (.ref D) H' (st1.trans ⟨fun a o h n => F'.base a o h fun z => n (mu_lend z), fun a h => F'.rebL h, fun a h => ?_, fun a h => ?_⟩) (F3.less fun a h => .inl h) ⟨D, rfl, ⟨accV, hDv, hDr.mono fun a o n z => ⟨z, fun q => n ?_⟩⟩, F3, nbr, .inl (F1.fresh0 hD)⟩
      · rcases h with h | h | ⟨k, h⟩
        · exact .inl h
        · exact .inr (.inl h)
        · exact .inr (.inr (hO k a (b2 k a (ownA_unlend.mp h))))
      · rcases h with h | ⟨k, h⟩
        · exact .inl h
        · cases m : muts ((restoreE s1 t own).get k) with
          | true =>
            obtain ⟨j, hj⟩ := hM k a (b3 k a ⟨m, h.2⟩)
            exact .inr ⟨j, mutA_lend hj⟩
          | false =>
            have o : OwnA (restoreE s1 t own) σ k a := ownA_unlend.mp ⟨muts_owns h.1, h.2⟩
            obtain ⟨z, _⟩ := b1.newL k a o m
            have hk : k ∈ ls := by
              refine Classical.byContradiction fun hk => ?_
              have q := h.1
              rw [(unlend_get ls _).2.2, if_neg hk, m] at q
              cases q
            obtain ⟨d, hd⟩ := hls k hk
            exact .inr ⟨k, by rw [hd]; rfl, z.2⟩
      · rcases q with q | q | ⟨k, q⟩
        · exact .inl q
        · exact .inr (.inl q)
        · exact .inr (.inr ⟨k, b2 k a (ownA_unlend.mp q)⟩)
  · exact p0.elim
theorem lc_imp {W' : WX} {elt : E} {tg : Tg} {it : Py.It} {ifs : List E} (hsub : ∀ j ∈ tgSlots tg, j ∈ own) {Q : VK} (h : tI G run W (.lc elt tg it ifs own) σ H Q) :
    tLc (tIt G run W it) (tTg G tg) (tTs G run W' ifs) (tI G run W' elt) own σ H Q := by
  obtain ⟨fc, fm, ex, s, F, p⟩ := h
  rw [evE_lc] at p
  exact ⟨fc, fm, ex, s, F, p.bind.imp fun J H1 ⟨pr, s0, e0, st0, F0, S0, p0⟩ => lc_body hsub F0 S0 p0⟩
end
end Py
end SB15
section SB16
set_option autoImplicit false
set_option linter.all false
set_option maxRecDepth 100000
set_option maxHeartbeats 4000000
/-! The evaluator over the hand layer, 16: what is walked, comprehensions as expressions and stores. -/
namespace Py
open PySem L2

/-! ### any sequence -/
def iSeq (K : PySem.W.Frag) (te : TE) : TI := fun σ H R => te σ H fun x H1 => (∃ a xs, x = .ref a ∧ SqL K H1 a xs ∧ R (Itl K a) H1) ∨ (∃ a xs, x = .ref a ∧ SqT K H1 a xs ∧ R (Itt K a) H1) ∨ ∃ z, x = .str z ∧ R (Its z) H1
theorem pi_seq {X : Cx} {tg l : Expr} {tl : TE} (hl : PE X l tl) : PI X tg l (iSeq X.K tl) := by
  refine ⟨fun pins s σ H R I h => ?_⟩
  refine thn (hl.run pins s σ H _ I h) fun v s1 ⟨x, H1, I1, r1, q1⟩ => ?_
  rcases q1 with ⟨a, xs, e, hq, q⟩ | ⟨a, xs, e, hq, q⟩ | ⟨z, e, q⟩
  · subst e
    cases r1
    obtain ⟨its, rv, p, hz⟩ := I1.list hq
    refine wpAny_pyIter_list p.isList ?_
    refine ⟨s1.heap.objs.size, [s1.heap.objs.size], _, _, H1, rfl, I1.kept (t' := s1.toks) fun b o e => Heap.get?_push_of_some _ e, turn_list a _, ⟨_, Heap.get?_push_size _ rfl, rfl, rfl⟩, fun b hb => ?_, q⟩
    have e : b = s1.heap.objs.size := by simpa using hb
    subst e
    exact I1.fpOk (Nat.le_refl _) (I1.hok.fresh (Nat.le_refl _))
  · subst e
    cases r1
    obtain ⟨its, rv, p, hz⟩ := I1.tuple hq
    refine wpAny_pyIter_tuple (show s1.heap.IsTuple a its.toArray from p) ?_
    refine ⟨s1.heap.objs.size, [s1.heap.objs.size], _, _, H1, rfl, I1.kept (t' := s1.toks) fun b o e => Heap.get?_push_of_some _ e, turn_tuple a _, ⟨_, Heap.get?_push_size _ rfl, rfl, rfl⟩, fun b hb => ?_, q⟩
    have e : b = s1.heap.objs.size := by simpa using hb
    subst e
    exact I1.fpOk (Nat.le_refl _) (I1.hok.fresh (Nat.le_refl _))
  · subst e
    obtain ⟨t, rfl⟩ := r1
    cases ha : z.cps.all (· < 128)
    · exact wpAny_pyIter_wide ha (pi_one (tk := s1.toks) I1 _ (turn_str _ z t "str_iterator" (.inr rfl)) ⟨_, Heap.get?_push_size _ rfl, rfl, rfl⟩ q)
    · exact wpAny_pyIter_ascii ha (pi_one (tk := s1.toks) I1 _ (turn_str _ z t "str_ascii_iterator" (.inl rfl)) ⟨_, Heap.get?_push_size _ rfl, rfl, rfl⟩ q)

section
variable {G : Gx} {fc fc' : Fc} {fm fm2 : List Addr} {ex ex2 : Bar} {σ σ2 σ' : L2.St} {s s' s0 s1 s2 : S} {H H1 H2 H' : Hp} {W : WX} {run : Run} {X : Cx} {ls : List Nat} {De : Ends} {pos p : Pos} {tg a b c : Expr} {a' b' c' : E} {es : List Expr} {es' : List E}

/-- a value that is walked -/
theorem src_of {r : RV} {v : V} {xs : List D} (F : FR G fc fm ex σ s H) (r1 : RR G fc fm ex σ s H r v) (e : itD s r = some xs) :
    (∃ a ws, v = .ref a ∧ SqL G.K H a ws ∧ Src G H (Br fm ex s σ) (Mu fm (lend s (ownIn s (brwOf r))) σ) (Itl G.K a) xs) ∨ (∃ a ws, v = .ref a ∧ SqT G.K H a ws ∧ Src G H (Br fm ex s σ) (Mu fm (lend s (ownIn s (brwOf r))) σ) (Itt G.K a) xs) ∨
    ∃ z, v = .str z ∧ Src G H (Br fm ex s σ) (Mu fm (lend s (ownIn s (brwOf r))) σ) (Its z) xs := by
  have nc : ∀ k, r ≠ .cell k := fun k z => by rw [z] at e; cases e
  have e : (rdat s r).bind itemsOf = some xs := by cases r <;> first | exact e | exact absurd rfl (nc _)
  obtain ⟨d, e1, e2⟩ := Option.bind_eq_some_iff.mp e
  have pubL : ∀ {ys : List D}, DR G H (Br fm ex s σ) (.lst ys) v → d = .lst ys → ∃ a ws, v = .ref a ∧ SqL G.K H a ws ∧ Src G H (Br fm ex s σ) (Mu fm (lend s (ownIn s (brwOf r))) σ) (Itl G.K a) xs := by
    rintro ys ⟨a, vs, rfl, q, t⟩ rfl
    cases e2
    exact ⟨a, vs, rfl, q.sq, src_list (q.imp_left fun ⟨n, z⟩ => ⟨z, fun m => n (mu_lend m).br⟩) t⟩
  cases d with
  | lst ys =>
    left
    cases r with
    | d x => cases e1; exact pubL r1 rfl
    | own x => cases e1; exact pubL r1.pub rfl
    | cell k => exact absurd rfl (nc k)
    | brw i =>
      have hσ : σ[i]? = some (some v) := r1
      have q := F.slots i
      have own : (∃ d, s.get i = .own d ∨ s.get i = .lent d) → (∃ a, σ[i]? = some (some (.ref a)) ∧ OwnAt G H (Br fm ex s σ) a (.lst ys)) → ∃ a ws, v = .ref a ∧ SqL G.K H a ws ∧ Src G H (Br fm ex s σ) (Mu fm (lend s (ownIn s (brwOf (.brw i)))) σ) (Itl G.K a) xs := by
        rintro ⟨d, hd⟩ ⟨a, ea, vs, hv, t⟩
        rw [hσ] at ea
        cases ea
        cases e2
        have oa : OwnA s σ i a := ⟨by rcases hd with hd | hd <;> (rw [hd]; rfl), hσ⟩
        refine ⟨a, vs, rfl, .inl (.inl hv), src_list (.inl ⟨.inl hv, fun m => ?_⟩) t⟩
        rcases m with m | ⟨j, m⟩
        · exact (F.apF i a oa).1 m
        · have e := F.apO j i a ⟨muts_owns (mutA_lend m).1, m.2⟩ oa
          subst e
          have m1 := m.1
          rw [(lend_get _ _).2.2] at m1
          rcases hd with hd | hd
          · rw [if_pos (show j ∈ ownIn s (brwOf (.brw j)) from by simp [brwOf, ownIn, hd]), hd] at m1
            cases m1
          · split at m1 <;> (rw [hd] at m1; cases m1)
      simp only [rdat] at e1
      cases es : s.get i with
      | own d => rw [es] at e1 q; cases e1; exact own ⟨_, .inl es⟩ q
      | lent d => rw [es] at e1 q; cases e1; exact own ⟨_, .inr es⟩ q
      | pub d =>
        rw [es] at e1 q
        cases e1
        obtain ⟨w, ew, z⟩ := q
        rw [hσ] at ew
        cases ew
        exact pubL z rfl
      | _ => rw [es] at e1; cases e1
  | tup ys =>
    right; left
    obtain ⟨a, vs, rfl, q, t⟩ := (show DR G H (Br fm ex s σ) (.tup ys) v from r1.data F e1)
    cases e2
    exact ⟨a, vs, rfl, q.sq, src_tup (q.imp_left fun ⟨n, z⟩ => ⟨z, fun m => n (mu_lend m).br⟩) t⟩
  | str z =>
    right; right
    obtain ⟨rfl, hz⟩ := (show DR G H (Br fm ex s σ) (.str z) v from r1.data F e1)
    cases e2
    exact ⟨_, rfl, src_str hz⟩
  | _ => cases e2
theorem i_seq (hK : X.K = G.K) (ha : PE X a (tI G run W a')) : PI X tg a (tIt G run W (.seq a')) := by
  refine PI.imp (pi_seq ha) fun σ H R ⟨fc, fm, ex, s, F, p⟩ => ?_
  simp only [evI] at p
  refine ⟨fc, fm, ex, s, F, p.bind.imp fun v H1 ⟨r, s1, _, st1, F1, r1, p1⟩ => ?_⟩
  cases e : itD s1 r with
  | none => rw [e] at p1; exact p1.elim
  | some xs =>
    rw [e] at p1
    rw [hK]
    rcases src_of F1 r1 e with ⟨a, ws, h1, h2, h3⟩ | ⟨a, ws, h1, h2, h3⟩ | ⟨z, h1, h3⟩
    · exact .inl ⟨a, ws, h1, h2, p1.ok F1 h3⟩
    · exact .inr (.inl ⟨a, ws, h1, h2, p1.ok F1 h3⟩)
    · exact .inr (.inr ⟨z, h1, p1.ok F1 h3⟩)
theorem RDl.ints : ∀ {ds : List D} {vs : List V} {B : Bar}, RDl G H B ds vs → ∀ {ns : List Int}, ds = ns.map .int → vs = ns.map V.int
  | [], _, _, h, ns, e => by cases ns with
    | nil => cases h; rfl
    | cons n ns => cases e
  | d :: ds, _, _, ⟨v, ws, e1, r, t⟩, ns, e => by
    cases ns with
    | nil => cases e
    | cons n ns =>
      cases e
      cases (show v = .int n from r)
      rw [e1, RDl.ints t rfl]; rfl
theorem i_range1 (hg : Gl X "range") (hm : X.mg "range" = none) (hs : noStar a = true) (ha : PA X [a] (tA G run W [a'])) : PI X tg (.Call (.Name "range" p) [a] [] pos) (tIt G run W (.range [a'])) := by
  refine PI.imp (pi_range1 hg hm ha (star1 hs [] X.env)) fun σ H R ⟨fc, fm, ex, s, F, q⟩ => ?_
  simp only [evI] at q
  refine ⟨fc, fm, ex, s, F, q.bind.imp fun vs H1 ⟨rs, s1, ee, st1, F1, r1, p1⟩ => ?_⟩
  obtain ⟨pr, e, k⟩ := p1.of
  obtain ⟨ds, e1, e⟩ := Option.bind_eq_some_iff.mp e
  obtain ⟨xs, e2, rfl⟩ := Option.map_eq_some_iff.mp e
  have rd := RL.data F1 r1 e1
  have hl : ds.length = 1 := by
    have := RL.length r1
    have h2 := evEs_len ee
    have : ∀ {rs : List RV} {ds : List D}, rdats s1 rs = some ds → ds.length = rs.length := by
      intro rs
      induction rs with
      | nil => intro ds e; cases e; rfl
      | cons r rs ih =>
        intro ds e
        obtain ⟨x, h1, h2⟩ := Option.bind_eq_some_iff.mp (show (rdat s1 r).bind (fun x => (rdats s1 rs).map fun xs => x :: xs) = some _ from e)
        obtain ⟨xs, h3, rfl⟩ := Option.map_eq_some_iff.mp h2
        simp [ih h3]
    rw [this e1, h2]; rfl
  match ds, hl, e2, rd with
  | [d], _, e2, rd =>
    cases d with
    | int j =>
      simp only [rangeOf] at e2
      split at e2
      · rename_i hj
        cases e2
        simp only [small62, decide_eq_true_eq] at hj
        refine ⟨j, rd.ints (ns := [j]) rfl, by omega, by omega, k _ _ .refl F1 (src_range 0 j.toNat)⟩
      · cases e2
    | _ => cases e2
theorem i_range2 (hg : Gl X "range") (hm : X.mg "range" = none) (hs : noStar a = true) (hs2 : noStar b = true) (ha : PA X [a, b] (tA G run W [a', b'])) : PI X tg (.Call (.Name "range" p) [a, b] [] pos) (tIt G run W (.range [a', b'])) := by
  refine PI.imp (pi_range2 hg hm ha (by rw [star1 hs, star1 hs2]; rfl) (by rw [star1 hs2]; rfl)) fun σ H R ⟨fc, fm, ex, s, F, q⟩ => ?_
  simp only [evI] at q
  refine ⟨fc, fm, ex, s, F, q.bind.imp fun vs H1 ⟨rs, s1, ee, st1, F1, r1, p1⟩ => ?_⟩
  obtain ⟨pr, e, k⟩ := p1.of
  obtain ⟨ds, e1, e⟩ := Option.bind_eq_some_iff.mp e
  obtain ⟨xs, e2, rfl⟩ := Option.map_eq_some_iff.mp e
  have rd := RL.data F1 r1 e1
  have hl : ds.length = 2 := by
    have h2 := evEs_len ee
    have : ∀ {rs : List RV} {ds : List D}, rdats s1 rs = some ds → ds.length = rs.length := by
      intro rs
      induction rs with
      | nil => intro ds e; cases e; rfl
      | cons r rs ih =>
        intro ds e
        obtain ⟨x, h1, h2⟩ := Option.bind_eq_some_iff.mp (show (rdat s1 r).bind (fun x => (rdats s1 rs).map fun xs => x :: xs) = some _ from e)
        obtain ⟨xs, h3, rfl⟩ := Option.map_eq_some_iff.mp h2
        simp [ih h3]
    rw [this e1, h2]; rfl
  match ds, hl, e2, rd with
  | [d1, d2], _, e2, rd =>
    cases d1 with
    | int i =>
      cases d2 with
      | int j =>
        simp only [rangeOf] at e2
        split at e2
        · rename_i hj
          cases e2
          simp only [small62, Bool.and_eq_true, decide_eq_true_eq] at hj
          refine ⟨i, j, rd.ints (ns := [i, j]) rfl, ⟨by omega, by omega, by omega, by omega⟩, k _ _ .refl F1 (src_range i (j - i).toNat)⟩
        · cases e2
      | _ => cases e2
    | _ => cases e2
/-! ### comprehensions -/
theorem e_lc {elt iter : Expr} {ifs : List Expr} {scope : Scope} {own : List (Str × Nat)} {elt' : E} {tg' : Tg} {it' : Py.It} {ifs' : List E} {W' : WX} (hc : X.calm = true) (hN : X.N.Nodup) (hi : PI X tg iter (tIt G run W it')) (ok : BlkOk X.N X.env.scope scope own)
    (hg : ∀ (s : Shared) (H : Hp) (C : Addr) (cl : List (Str × Addr)) (fp : List Addr), PG (X.blk s H scope (compEnvC scope cl C X.env) fp) tg (tTg G tg')) (ht : ∀ (s : Shared) (H : Hp) (C : Addr) (cl : List (Str × Addr)) (fp : List Addr), PTs (X.blk s H scope (compEnvC scope cl C X.env) fp) ifs (tTs G run W' ifs'))
    (he : ∀ (s : Shared) (H : Hp) (C : Addr) (cl : List (Str × Addr)) (fp : List Addr), PE (X.blk s H scope (compEnvC scope cl C X.env) fp) elt (tI G run W' elt')) (hs : ∀ x, foldedSetIterable iter X.env x = pure x) (hsub : ∀ j ∈ tgSlots tg', j ∈ own.map (·.2)) :
    PE X (.ListComp elt [⟨tg, iter, ifs, 0⟩] scope pos) (tI G run W (.lc elt' tg' it' ifs' (own.map (·.2)))) :=
  PE.imp (pe_lc hc hN hi ok hg ht he hs) fun σ H Q h => lc_imp hsub h
end
end Py
end SB16
section SB17
set_option autoImplicit false
set_option linter.all false
set_option maxRecDepth 100000
set_option maxHeartbeats 4000000
/-! The evaluator over the hand layer, 17: own objects change; statements. -/
namespace Py
open PySem L2

section
variable {G : Gx} {fc fc' : Fc} {fm fm2 : List Addr} {ex ex2 : Bar} {σ σ2 σ' : L2.St} {s s' s0 s1 s2 : S} {H H1 H2 H' : Hp} {W : WX} {run : Run} {X : Cx} {ls : List Nat} {De : Ends} {pos p : Pos} {tg a b c : Expr} {a' b' c' : E} {es : List Expr} {es' : List E}

/-! ### an own object changes -/
theorem FR.mutO (F : FR G fc fm ex σ s H) {i : Nat} {d d' : D} {a : Addr} {o : HO} (e : s.get i = .own d) (ha : σ[i]? = some (some (.ref a))) (hd : OwnAt G (upd H a o) (Br fm ex s σ) a d') :
    FR G fc fm ex σ (s.set i (.own d')) (upd H a o) ∧ Stp fm ex σ s H (s.set i (.own d')) (upd H a o) := by
  have hi : i < s.env.length := S.get_lt (by rw [e]; exact fun z => nomatch z)
  have oi : OwnA s σ i a := ⟨by rw [e]; rfl, ha⟩
  have mi : MutA s σ i a := ⟨by rw [e]; rfl, ha⟩
  have own : ∀ j b, OwnA (s.set i (.own d')) σ j b ↔ OwnA s σ j b := fun j b => by
    unfold OwnA
    by_cases q : j = i
    · subst q; rw [S.get_eq hi, e]; rfl
    · rw [S.get_ne q]
  have mut' : ∀ j b, MutA (s.set i (.own d')) σ j b ↔ MutA s σ j b := fun j b => by
    unfold MutA
    by_cases q : j = i
    · subst q; rw [S.get_eq hi, e]; rfl
    · rw [S.get_ne q]
  have br : ∀ b, Br fm ex (s.set i (.own d')) σ b ↔ Br fm ex s σ b := fun b => by unfold Br; simp only [own]
  have ba : Br fm ex s σ a := .inr (.inr ⟨i, oi⟩)
  have live : ∀ b, H b ≠ none → upd H a o b ≠ none := fun b h => upd_live h
  have ne : ∀ b u, b ≠ a → H b = some u → upd H a o b = some u := fun b u n z => by rw [upd_ne n]; exact z
  have up : Kp H (upd H a o) (Br fm ex s σ) (Br fm ex (s.set i (.own d')) σ) := fun b u n z => ⟨ne b u (fun q => n (by rw [q]; exact ba)) z, fun q => n ((br b).mp q)⟩
  refine ⟨{
    len := by rw [S.len_set]; exact F.len
    fml := F.fml
    nd := F.nd
    cells := fun k xs ek => let ⟨b, vs, h1, h2, h3, h4⟩ := F.cells k xs ek; ⟨b, vs, h1, ne b _ (fun q => (F.apF i a oi).1 (by rw [← q]; exact List.mem_of_getElem? h1)) h2, h3.flat h4, h4⟩
    slots := fun j => by
      by_cases q : j = i
      · subst q
        rw [S.get_eq hi]
        exact ⟨a, ha, hd.mono (fun b u n z => ⟨z, fun q => n ((br b).mp q)⟩) fun _ z => z⟩
      · rw [S.get_ne q]
        have z := F.slots j
        have keep : ∀ b u, OwnA s σ j b → H b = some u → upd H a o b = some u := fun b u h z => ne b u (fun w => q (F.apO j i b h (by rw [w]; exact oi))) z
        cases ej : s.get j with
        | non => trivial
        | rng xs => rw [ej] at z; obtain ⟨r, lo, hi, e1, nb, e2, e3⟩ := z; exact ⟨r, lo, hi, e1, (up r _ nb e2).2, (up r _ nb e2).1, e3⟩
        | itr xs => rw [ej] at z; exact z
        | pub d => rw [ej] at z; obtain ⟨v, e1, r⟩ := z; exact ⟨v, e1, r.mono up⟩
        | own d => rw [ej] at z; obtain ⟨b, e1, r⟩ := z; exact ⟨b, e1, r.mono up fun o z => keep b o ⟨by rw [ej]; rfl, e1⟩ z⟩
        | lent d => rw [ej] at z; obtain ⟨b, e1, r⟩ := z; exact ⟨b, e1, r.mono up fun o z => keep b o ⟨by rw [ej]; rfl, e1⟩ z⟩
        | cell k => rw [ej] at z; exact z
        | new c fs => rw [ej] at z; obtain ⟨b, C, dx, gs, e1, e2, o, r⟩ := z; exact ⟨b, C, dx, gs, e1, keep b _ ⟨by rw [ej]; rfl, e1⟩ e2, o, r.mono up⟩
        | exc c fs => rw [ej] at z; obtain ⟨b, e1, r⟩ := z; exact ⟨b, e1, r.mono up⟩
    apF := fun j b h => F.apF j b ((own j b).mp h)
    apO := fun j k b h1 h2 => F.apO j k b ((own j b).mp h1) ((own k b).mp h2)
    exF := F.exF
    exH := fun b h => live b (F.exH b h)
    base := fun b u h n => ne b u (fun q => by
      rcases F.newO i a mi with z | z
      · rw [q, z] at h; cases h
      · exact n (by rw [q]; exact z)) (F.base b u h n)
    newO := fun j b h => F.newO j b ((mut' j b).mp h)
    newL := fun j b h m => F.newL j b ((own j b).mp h) (by
      by_cases q : j = i
      · subst q; rw [S.get_eq hi] at m; cases m
      · rw [S.get_ne q] at m; exact m)
    newF := F.newF
    pre := F.pre
    m0 := F.m0
    m1 := fun b h => live b (F.m1 b h) }, ⟨fun b u h n => ne b u (fun q => n (.inr ⟨i, by rw [q]; exact mi⟩)) h, live, fun b h => (br b).mp h, fun b h => ?_⟩⟩
  rcases h with h | ⟨j, h⟩
  · exact .inl h
  · exact .inr ⟨j, (mut' j b).mp h⟩
theorem getσ_own (F : FR G fc fm ex σ s H) {i : Nat} {d : D} (e : s.get i = .own d) : ∃ a, σ[i]? = some (some (.ref a)) ∧ OwnAt G H (Br fm ex s σ) a d := by
  have q := F.slots i
  rw [e] at q
  exact q
/-- the object of an own slot gets a new value: what is needed of the items -/
theorem DRs.upd {a : Addr} {o : HO} {B : Bar} {xs : List D} {vs : List V} (hB : B a) (r : DRs G H B xs vs) : DRs G (upd H a o) B xs vs := r.mono fun b u n z => ⟨by rw [upd_ne (show b ≠ a from fun q => n (by rw [q]; exact hB))]; exact z, n⟩
theorem DR.upd {a : Addr} {o : HO} {B : Bar} {x : D} {v : V} (hB : B a) (r : DR G H B x v) : DR G (L2.upd H a o) B x v := r.mono fun b u n z => ⟨by rw [upd_ne (show b ≠ a from fun q => n (by rw [q]; exact hB))]; exact z, n⟩
theorem KRs.upd {a : Addr} {o : HO} {B : Bar} {xs : List (D × D)} {vs : List (Key × V)} (hB : B a) (r : KRs G H B xs vs) : KRs G (L2.upd H a o) B xs vs := r.mono fun b u n z => ⟨by rw [upd_ne (show b ≠ a from fun q => n (by rw [q]; exact hB))]; exact z, n⟩
theorem br_own {i : Nat} {d : D} {a : Addr} (e : s.get i = .own d) (ha : σ[i]? = some (some (.ref a))) : Br fm ex s σ a := .inr (.inr ⟨i, by rw [e]; rfl, ha⟩)
theorem FR.mutL (F : FR G fc fm ex σ s H) {i : Nat} {d : D} {xs : List D} {a : Addr} {vs : List V} (e : s.get i = .own d) (ha : σ[i]? = some (some (.ref a))) (r : DRs G H (Br fm ex s σ) xs vs) :
    FR G fc fm ex σ (s.set i (.own (.lst xs))) (upd H a (.lst vs)) ∧ Stp fm ex σ s H (s.set i (.own (.lst xs))) (upd H a (.lst vs)) :=
  F.mutO e ha ⟨vs, upd_same, r.upd (br_own e ha)⟩
theorem KRs.any {B : Bar} {k : D} {kk : Key} (hk : keyD k = some kk) : ∀ {kvs : List (D × D)} {kws : List (Key × V)}, KRs G H B kvs kws → (kws.any fun kv => decide (kv.1 = kk)) = kvs.any fun p => eqD p.1 k
  | [], _, h => by cases h; rfl
  | p :: r, _, ⟨k', v, ws, e, h1, _, t⟩ => by
    subst e
    simp only [List.any_cons]
    rw [KRs.any hk t, keyD_eq (G := G) (H := H) (B := B) h1 hk]
theorem KRs.put {B : Bar} {k d : D} {kk : Key} {v : V} (hk : keyD k = some kk) (hd : DR G H B d v) {kvs : List (D × D)} {kws : List (Key × V)} (h : KRs G H B kvs kws) : KRs G H B (Py.putK kvs k d) (L2.putK kws kk v) := by
  unfold Py.putK L2.putK
  rw [KRs.any hk h]
  cases hx : kvs.any (fun p => eqD p.1 k) with
  | true =>
    simp only [if_true]
    clear hx
    induction kvs generalizing kws with
    | nil => cases h; rfl
    | cons p r ih =>
      obtain ⟨k', w, ws, rfl, h1, h2, t⟩ := h
      simp only [List.map_cons]
      have e := keyD_eq (G := G) (H := H) (B := B) h1 hk
      by_cases q : k' = kk
      · rw [if_pos (by rw [← e]; simp [q]), if_pos q]
        exact ⟨k', v, _, rfl, h1, hd, ih t⟩
      · rw [if_neg (by rw [← e]; simp [q]), if_neg q]
        exact ⟨k', w, _, rfl, h1, h2, ih t⟩
  | false =>
    simp only [Bool.false_eq_true, if_false]
    clear hx
    induction kvs generalizing kws with
    | nil => cases h; exact ⟨kk, v, [], rfl, hk, hd, rfl⟩
    | cons p r ih =>
      obtain ⟨k', w, ws, rfl, h1, h2, t⟩ := h
      exact ⟨k', w, _, rfl, h1, h2, ih t⟩
/-- a cell changes -/
theorem FR.mutC (F : FR G fc fm ex σ s H) {k : Nat} {a : Addr} {xs : List D} {vs : List V} (hk : fm[k]? = some a) (r : DRs G H (fun _ => False) xs vs) (hf : xs.all flat = true) : FR G fc fm ex σ { s with cells := s.cells.set k xs } (upd H a (.lst vs)) := by
  have hm : a ∈ fm := List.mem_of_getElem? hk
  have ne : ∀ b u, b ≠ a → H b = some u → upd H a (.lst vs) b = some u := fun b u n z => by rw [upd_ne n]; exact z
  have live : ∀ b, H b ≠ none → upd H a (.lst vs) b ≠ none := fun b h => upd_live h
  have up : Kp H (upd H a (.lst vs)) (Br fm ex s σ) (Br fm ex s σ) := fun b u n z => ⟨ne b u (fun q => n (.inl (by rw [q]; exact hm))) z, n⟩
  exact {
    len := F.len
    fml := by show fm.length = (s.cells.set k xs).length; rw [List.length_set]; exact F.fml
    nd := F.nd
    cells := fun j ys ej => by
      by_cases q : j = k
      · subst q
        have hl : j < s.cells.length := by rw [← F.fml]; exact (List.getElem?_eq_some_iff.mp hk).1
        rw [List.getElem?_set_self hl] at ej
        cases ej
        exact ⟨a, vs, hk, upd_same, r.flat hf, hf⟩
      · rw [List.getElem?_set_ne (Ne.symm q)] at ej
        obtain ⟨b, ws, h1, h2, h3, h4⟩ := F.cells j ys ej
        refine ⟨b, ws, h1, ne b _ (fun w => q ?_) h2, h3.flat h4, h4⟩
        subst w
        exact (List.getElem?_inj (List.getElem?_eq_some_iff.mp h1).1 F.nd).mp (h1.trans hk.symm)
    slots := fun j => by
      show SlOk G fc fm _ (Br fm ex s σ) σ[j]? (s.get j)
      have z := F.slots j
      have keep : ∀ b u, OwnA s σ j b → H b = some u → upd H a (.lst vs) b = some u := fun b u h z => ne b u (fun w => (F.apF j b h).1 (by rw [w]; exact hm)) z
      cases ej : s.get j with
      | non => trivial
      | rng xs => rw [ej] at z; obtain ⟨r, lo, hi, e1, nb, e2, e3⟩ := z; exact ⟨r, lo, hi, e1, (up r _ nb e2).2, (up r _ nb e2).1, e3⟩
      | itr xs => rw [ej] at z; exact z
      | pub d => rw [ej] at z; obtain ⟨v, e1, r⟩ := z; exact ⟨v, e1, r.mono up⟩
      | own d => rw [ej] at z; obtain ⟨b, e1, r⟩ := z; exact ⟨b, e1, r.mono up fun o z => keep b o ⟨by rw [ej]; rfl, e1⟩ z⟩
      | lent d => rw [ej] at z; obtain ⟨b, e1, r⟩ := z; exact ⟨b, e1, r.mono up fun o z => keep b o ⟨by rw [ej]; rfl, e1⟩ z⟩
      | cell k => rw [ej] at z; exact z
      | new c fs => rw [ej] at z; obtain ⟨b, C, dx, gs, e1, e2, o, r⟩ := z; exact ⟨b, C, dx, gs, e1, keep b _ ⟨by rw [ej]; rfl, e1⟩ e2, o, r.mono up⟩
      | exc c fs => rw [ej] at z; obtain ⟨b, e1, r⟩ := z; exact ⟨b, e1, r.mono up⟩
    apF := F.apF
    apO := F.apO
    exF := F.exF
    exH := fun b h => live b (F.exH b h)
    base := fun b u h n => ne b u (fun q => by
      rcases F.newF k a hk with z | z
      · rw [q, z] at h; cases h
      · exact n (by rw [q]; exact z)) (F.base b u h n)
    newO := F.newO
    newL := F.newL
    newF := F.newF
    pre := F.pre
    m0 := F.m0
    m1 := fun b h => live b (F.m1 b h) }

/-! ### statements -/
theorem s_ret0 : PS X (.Return none pos) (tSt G run W (.ret none)) := by
  refine PS.imp ps_retN fun De σ H ⟨fc, fm, ex, s, F, p⟩ => ?_
  rw [exT] at p
  exact p fm σ H .non F rfl
theorem s_ret (ha : PE X a (tI G run W a')) : PS X (.Return (some a) pos) (tSt G run W (.ret (some a'))) := by
  refine PS.imp (ps_ret ha) fun De σ H ⟨fc, fm, ex, s, F, p⟩ => ?_
  rw [exT] at p
  exact ⟨fc, fm, ex, s, F, p.bind.imp fun v H1 ⟨r, s1, _, st1, F1, r1, p1⟩ => p1 fm σ H1 v F1 r1⟩
theorem s_exp (hs : swapsWith a none pos.line X.env = pure false) (ha : PE X a (tI G run W a')) : PS X (.Expr a pos) (tSt G run W (.exp a')) := by
  refine PS.imp (ps_expr ha hs) fun De σ H ⟨fc, fm, ex, s, F, p⟩ => ?_
  rw [exT] at p
  exact ⟨fc, fm, ex, s, F, p.bind.imp fun v H1 ⟨r, s1, _, st1, F1, r1, p1⟩ => p1 fm σ H1 F1⟩
theorem s_pass : PS X (.Pass pos) (tSt G run W .pass) := by
  refine PS.imp ps_pass fun De σ H ⟨fc, fm, ex, s, F, p⟩ => ?_
  rw [exT] at p
  exact p fm σ H F
theorem s_brk : PS X (.Break pos) (tSt G run W .brk) := by
  refine PS.imp ps_break fun De σ H ⟨fc, fm, ex, s, F, p⟩ => ?_
  rw [exT] at p
  exact p fm σ H F
theorem s_cont : PS X (.Continue pos) (tSt G run W .cont) := by
  refine PS.imp ps_continue fun De σ H ⟨fc, fm, ex, s, F, p⟩ => ?_
  rw [exT] at p
  exact p fm σ H F
theorem s_if {x y : List Stmt} {x' y' : List T} (hc : PT X c (tT G run W c')) (hx : PSs X x (tSs G run W x')) (hy : PSs X y (tSs G run W y')) : PS X (.If c x y pos) (tSt G run W (.ite c' x' y')) := by
  refine PS.imp (ps_if hc hx hy) fun De σ H ⟨fc, fm, ex, s, F, p⟩ => ?_
  have e : exT whileL G.P run (.ite c' x' y') s = (evT G.P run c' s).bind fun t s1 => if t then exTs whileL G.P run x' s1 else exTs whileL G.P run y' s1 := by
    rw [exT]
    unfold evT
    rw [Out.bind_assoc]
    congr 1
    funext r s1
    cases q : (rdat s1 r).bind Py.truthy with
    | none => rfl
    | some t => cases t <;> rfl
  rw [e] at p
  refine ⟨fc, fm, ex, s, F, (p.bind (fm := fm) (σ := σ) (H := H) (RA := RB)).imp fun t H1 hh => ?_⟩
  obtain ⟨u, s1, _, st1, F1, r1, p1⟩ := hh
  cases (show u = t from r1)
  cases t with
  | true => exact ⟨fc, fm, ex, s1, F1, p1⟩
  | false => exact ⟨fc, fm, ex, s1, F1, p1⟩
theorem ss_cons {st : Stmt} {rest : List Stmt} {t : T} {ts : List T} (h : PS X st (tSt G run W t)) (hr : PSs X rest (tSs G run W ts)) : PSs X (st :: rest) (tSs G run W (t :: ts)) := by
  refine PSs.imp (pss_cons h hr) fun De σ H ⟨fc, fm, ex, s, F, p⟩ => ⟨fc, fm, ex, s, F, ?_⟩
  rw [exTs] at p
  revert p
  cases exT whileL G.P run t s with
  | stuck => exact fun p => p
  | exc c fs s1 => exact fun p => p
  | ok fl s1 =>
    cases fl with
    | nx => exact fun p fm2 σ2 H2 F2 => ⟨fc, fm2, ex, s1, F2, p⟩
    | brk => exact fun p => p
    | cnt => exact fun p => p
    | ret r => exact fun p => p
theorem s_while {body : List Stmt} {b : List T} (hp : PassesOwn (model X.prog X.w) X.A X.env X.xe) (hc : PT X c (tT G run W c')) (hb : PSs X body (tSs G run W b)) : PS X (.While c body [] pos) (tSt G run W (.while_ c' b)) := by
  refine PS.imp (ps_while hp hc hb) fun De σ H ⟨fc, fm, ex, s, F, p⟩ => ?_
  have e : exT whileL G.P run (.while_ c' b) s = whileL (fun u => (evT G.P run c' u).bind fun t u1 => if t then (exTs whileL G.P run b u1).bind fun fl u2 => .ok (match fl with
        | .nx => none
        | .cnt => none
        | .brk => some .nx
        | .ret r => some (.ret r)) u2 else .ok (some .nx) u1) s := by
    rw [exT]
    congr 1
    funext u
    unfold evT
    rw [Out.bind_assoc]
    congr 1
    funext r s1
    cases q : (rdat s1 r).bind Py.truthy with
    | none => rfl
    | some t => cases t <;> rfl
  rw [e] at p
  clear e
  revert p
  generalize hst : (fun u => (evT G.P run c' u).bind fun t u1 => if t then (exTs whileL G.P run b u1).bind fun fl u2 => Out.ok (match fl with
        | .nx => none
        | .cnt => none
        | .brk => some Fl.nx
        | .ret r => some (Fl.ret r)) u2 else Out.ok (some Fl.nx) u1) = step
  intro p
  by_cases ht : ∃ n r, wIter step n s = some r
  · obtain ⟨n, r, ht⟩ := ht
    rw [whileL_of ht] at p
    refine ⟨fun m σ' H' => ∃ fm' s', FR G fc fm' ex σ' s' H' ∧ ∃ r, wIter step m s' = some r ∧ PstS G fc ex W De r, ⟨n, fm, s, F, r, ht, p⟩, ?_⟩
    rintro m σ1 H1 ⟨fm1, t, F1, r, hr, pr⟩
    cases m with
    | zero => cases hr
    | succ m =>
      unfold wIter at hr
      have hs := congrFun hst t
      refine ⟨fc, fm1, ex, t, F1, ?_⟩
      revert hs
      cases ec : evT G.P run c' t with
      | stuck => intro hs; rw [← hs] at hr; cases hr; exact pr
      | exc c0 fs u1 => intro hs; rw [← hs] at hr; cases hr; exact fun C d H2 _ F2 r2 => pr fm1 σ1 C d H2 F2 r2
      | ok k u1 =>
        intro hs k' H2 st2 F2 ek
        cases (show k = k' from ek)
        cases k with
        | false =>
          rw [← hs] at hr
          cases hr
          exact pr fm1 σ1 H2 F2
        | true =>
          simp only [Out.bind, if_true] at hs
          rw [if_pos rfl]
          refine ⟨fun σ' H' => ∃ fm' s', FR G fc fm' ex σ' s' H' ∧ ∃ r, wIter step m s' = some r ∧ PstS G fc ex W De r, fun σ' H' h => ⟨m, Nat.lt_succ_self m, h⟩, fc, fm1, ex, u1, F2, ?_⟩
          revert hs
          cases exTs whileL G.P run b u1 with
          | stuck => intro hs; rw [← hs] at hr; cases hr; exact pr
          | exc c0 fs u2 => intro hs; rw [← hs] at hr; cases hr; exact pr
          | ok fl u2 =>
            intro hs
            rw [← hs] at hr
            cases fl with
            | nx => exact fun fm2 σ2 H3 F3 => ⟨fm2, u2, F3, r, hr, pr⟩
            | cnt => exact fun fm2 σ2 H3 F3 => ⟨fm2, u2, F3, r, hr, pr⟩
            | brk => cases hr; exact pr
            | ret r0 => cases hr; exact pr
  · unfold whileL at p
    rw [dif_neg ht] at p
    exact p.elim
end
end Py
end SB17
section SB18
set_option autoImplicit false
set_option linter.all false
set_option maxRecDepth 100000
set_option maxHeartbeats 4000000
/-! The evaluator over the hand layer, 18: stores. -/
namespace Py
open PySem L2

section
variable {G : Gx} {fc fc' : Fc} {fm fm2 : List Addr} {ex ex2 : Bar} {σ σ2 σ' : L2.St} {s s' s0 s1 s2 : S} {H H1 H2 H' : Hp} {W : WX} {run : Run} {X : Cx} {ls : List Nat} {De : Ends} {pos pos' p : Pos} {tg a b c e : Expr} {a' b' c' e' : E} {es : List Expr} {es' : List E} {x : Str} {i : Nat}

/-! ### a name -/
theorem asg_imp (h : tSt G run W (.asg (.nm i) e') De σ H) : tAsg (tI G run W e') (gName i) De σ H := by
  obtain ⟨fc, fm, ex, s, F, p⟩ := h
  rw [exT] at p
  refine ⟨fc, fm, ex, s, F, (p.bind (RA := RE G fc fm ex σ)).imp fun v H1 hh => ?_⟩
  obtain ⟨r, s1, _, st1, F1, r1, p1⟩ := hh
  show De.nx (σ.set i (some v)) H1
  cases q : tgR (.nm i) r s1 with
  | none => rw [q] at p1; exact p1.elim
  | some s2 =>
    rw [q] at p1
    have pub : (esc s1 r).bind (fun p => tgD (.nm i) p.1 p.2) = some s2 → De.nx (σ.set i (some v)) H1 := fun q => by
      obtain ⟨⟨d, s3⟩, e1, e2⟩ := Option.bind_eq_some_iff.mp q
      obtain ⟨F3, _, dr⟩ := esc_ok F1 r1 e1
      simp only [tgD] at e2
      cases e2
      exact p1 fm _ _ (F3.setPub i dr)
    cases r with
    | own d =>
      simp only [tgR] at q
      cases q
      exact p1 fm _ _ (F1.setOwn i r1)
    | d d => exact pub q
    | brw k => exact pub q
    | cell k => exact pub q
theorem s_set (hN : X.N.Nodup) (hi : X.N[i]? = some x) (hx : Loc X.env.scope x) (he : PE X e (tI G run W e')) (hs : swapsWith e (some (.Name x pos')) pos.line X.env = pure false) (hf : X.fn x = true ∨ X.env.scope.names.lookup x = some .local) :
    PS X (.Assign [.Name x pos'] e pos) (tSt G run W (.asg (.nm i) e')) :=
  PS.imp (ps_set hN hi hx he hs hf) fun De σ H h => asg_imp h
theorem s_setLc {elt iter : Expr} {ifs : List Expr} {scope : Scope} {own : List (Str × Nat)} {elt' : E} {tg' : Tg} {it' : Py.It} {ifs' : List E} {W' : WX} {lpos : Pos} (hc : X.calm = true) (hN : X.N.Nodup) (hy : X.N[i]? = some x) (hyl : X.env.scope.names.lookup x = some .local)
    (hsw : swapsWith (.ListComp elt [⟨tg, iter, ifs, 0⟩] scope lpos) (some (.Name x pos')) pos.line X.env = pure true) (hi : PI X tg iter (tIt G run W it')) (ok : BlkOk X.N X.env.scope scope own)
    (hg : ∀ (s : Shared) (H : Hp) (C : Addr) (cl : List (Str × Addr)) (fp : List Addr), PG (X.blk s H scope (compEnvC scope cl C X.env) fp) tg (tTg G tg')) (ht : ∀ (s : Shared) (H : Hp) (C : Addr) (cl : List (Str × Addr)) (fp : List Addr), PTs (X.blk s H scope (compEnvC scope cl C X.env) fp) ifs (tTs G run W' ifs'))
    (he : ∀ (s : Shared) (H : Hp) (C : Addr) (cl : List (Str × Addr)) (fp : List Addr), PE (X.blk s H scope (compEnvC scope cl C X.env) fp) elt (tI G run W' elt')) (hs : ∀ x, foldedSetIterable iter X.env x = pure x) (hsub : ∀ j ∈ tgSlots tg', j ∈ own.map (·.2)) :
    PS X (.Assign [.Name x pos'] (.ListComp elt [⟨tg, iter, ifs, 0⟩] scope lpos) pos) (tSt G run W (.asg (.nm i) (.lc elt' tg' it' ifs' (own.map (·.2))))) :=
  PS.imp (ps_setLc hc hN hy hyl hsw hi ok hg ht he hs) fun De σ H h => lc_imp hsub (asg_imp h)
/-- a tuple of names -/
theorem s_asgT {ts : List Tg} (he : PE X e (tI G run W e')) (hg : PG X tg (tTg G (.tup ts))) (hs : swapsWithSole [tg] e pos.line X.env = pure false) (hw : swappedStores [tg] e X.env = pure none) (h1 : (assignEach [tg] X.env).map (·.2) = [assign tg X.env]) :
    PS X (.Assign [tg] e pos) (tSt G run W (.asg (.tup ts) e')) := by
  refine PS.imp (ps_asg he hg hs hw h1) fun De σ H h => ?_
  obtain ⟨fc, fm, ex, s, F, p⟩ := h
  rw [exT] at p
  refine ⟨fc, fm, ex, s, F, (p.bind (RA := RE G fc fm ex σ)).imp fun v H1 hh => ?_⟩
  obtain ⟨r, s1, _, st1, F1, r1, p1⟩ := hh
  cases q : tgR (.tup ts) r s1 with
  | none => rw [q] at p1; exact p1.elim
  | some s2 =>
    rw [q] at p1
    have q : (esc s1 r).bind (fun p => tgD (.tup ts) p.1 p.2) = some s2 := by
      cases r <;> exact q
    obtain ⟨⟨d, s3⟩, e1, e2⟩ := Option.bind_eq_some_iff.mp q
    obtain ⟨F3, _, dr⟩ := esc_ok F1 r1 e1
    exact ⟨fc, fm, ex, s3, d, F3, dr, s2, e2, fun σ' H' F' _ => p1 fm σ' H' F'⟩
/-- a list that others change: a new cell -/
theorem FR.addCell {xs : List D} {v : V} (F : FR G fc fm ex σ s H) (i : Nat) (r : RR G fc fm ex σ s H (.own (.lst xs)) v) (hf : xs.all flat = true) :
    ∃ a, v = .ref a ∧ FR G fc (fm ++ [a]) ex (σ.set i (some v)) { env := s.env.set i (.cell s.cells.length), cells := s.cells ++ [xs] } H := by
  obtain ⟨a, rfl, ⟨vs, hv, dr⟩, F2, nb, hn⟩ := r
  have get_ne : ∀ j, j ≠ i → (S.get { env := s.env.set i (.cell s.cells.length), cells := s.cells ++ [xs] } j) = s.get j := fun j h => S.get_ne (s := s) h
  have get_i : (S.get { env := s.env.set i (.cell s.cells.length), cells := s.cells ++ [xs] } i) = .cell s.cells.length ∨ (s.env.length ≤ i ∧ (S.get { env := s.env.set i (.cell s.cells.length), cells := s.cells ++ [xs] } i) = s.get i ∧ s.get i = .non) := by
    by_cases h : i < s.env.length
    · exact .inl (S.get_eq (s := s) h)
    · right
      have h' := Nat.le_of_not_lt h
      refine ⟨h', ?_, by simp [S.get, List.getD_eq_getElem?_getD, List.getElem?_eq_none h']⟩
      simp only [S.get]
      rw [List.set_eq_of_length_le h']
  have old : ∀ j b, OwnA { env := s.env.set i (.cell s.cells.length), cells := s.cells ++ [xs] } (σ.set i (some (.ref a))) j b → j ≠ i ∧ OwnA s σ j b := fun j b h => by
    by_cases q : j = i
    · subst q
      have h1 := h.1
      rcases get_i with z | ⟨_, z, w⟩
      · rw [z] at h1; cases h1
      · rw [z, w] at h1; cases h1
    · exact ⟨q, by rw [← get_ne j q]; exact h.1, by rw [← getσ_ne q]; exact h.2⟩
  have hb : ∀ b, Br (fm ++ [a]) ex { env := s.env.set i (.cell s.cells.length), cells := s.cells ++ [xs] } (σ.set i (some (.ref a))) b → Br fm (fun b => ex b ∨ b = a) s σ b := fun b h => by
    rcases h with h | h | ⟨j, h⟩
    · rcases List.mem_append.mp h with h | h
      · exact .inl h
      · exact .inr (.inl (.inr (List.mem_singleton.mp h)))
    · exact .inr (.inl (.inl h))
    · exact .inr (.inr ⟨j, (old j b h).2⟩)
  have cellUp : ∀ (k : Nat) (b : Addr), fm[k]? = some b → (fm ++ [a])[k]? = some b := fun k b h => by
    rw [List.getElem?_append_left (List.getElem?_eq_some_iff.mp h).1]; exact h
  refine ⟨a, rfl, {
    len := by rw [List.length_set]; show σ.length = (s.env.set i _).length; rw [List.length_set]; exact F.len
    fml := by simp [F.fml]
    nd := by
      rw [List.nodup_append]
      refine ⟨F.nd, by simp, fun u hu w hw e => nb (.inl ?_)⟩
      rw [List.mem_singleton.mp hw] at e
      rw [← e]; exact hu
    cells := fun k ys ek => by
      have ek : (s.cells ++ [xs])[k]? = some ys := ek
      by_cases hk : k < s.cells.length
      · rw [List.getElem?_append_left hk] at ek
        obtain ⟨b, ws, h1, h2, h3, h4⟩ := F.cells k ys ek
        exact ⟨b, ws, cellUp k b h1, h2, h3, h4⟩
      · rw [List.getElem?_append_right (by omega)] at ek
        have hk0 : k - s.cells.length = 0 := by
          refine Nat.lt_one_iff.mp ?_
          have := (List.getElem?_eq_some_iff.mp ek).1
          simpa using this
        rw [hk0] at ek
        cases ek
        have : k = fm.length := by have := F.fml; omega
        subst this
        exact ⟨a, vs, by simp, hv, dr.flat hf, hf⟩
    slots := fun j => by
      by_cases q : j = i
      · subst q
        rcases get_i with z | ⟨z0, z, w⟩
        · rw [z]
          by_cases hl : j < σ.length
          · exact ⟨a, by rw [← F.fml]; simp, List.getElem?_set_self hl⟩
          · have hl' : s.env.length ≤ j := by rw [← F.len]; exact Nat.le_of_not_lt hl
            have : (S.get { env := s.env.set j (.cell s.cells.length), cells := s.cells ++ [xs] } j) = .non := by
              simp [S.get, List.getD_eq_getElem?_getD, List.getElem?_eq_none, hl']
            rw [this] at z; cases z
        · rw [z, w]; trivial
      · rw [get_ne j q, getσ_ne q]
        have z := F2.slots j
        have up : Kp H H (Br fm (fun b => ex b ∨ b = a) s σ) (Br (fm ++ [a]) ex { env := s.env.set i (.cell s.cells.length), cells := s.cells ++ [xs] } (σ.set i (some (.ref a)))) := fun b o n z => ⟨z, fun w => n (hb b w)⟩
        cases ej : s.get j with
        | non => trivial
        | rng xs => rw [ej] at z; obtain ⟨r, lo, hi, e1, nb, e2, e3⟩ := z; exact ⟨r, lo, hi, e1, (up r _ nb e2).2, (up r _ nb e2).1, e3⟩
        | itr xs => rw [ej] at z; exact z
        | pub d => rw [ej] at z; obtain ⟨v, e1, r⟩ := z; exact ⟨v, e1, r.mono up⟩
        | own d => rw [ej] at z; obtain ⟨b, e1, r⟩ := z; exact ⟨b, e1, r.mono up fun _ z => z⟩
        | lent d => rw [ej] at z; obtain ⟨b, e1, r⟩ := z; exact ⟨b, e1, r.mono up fun _ z => z⟩
        | cell k => rw [ej] at z; obtain ⟨b, e1, e2⟩ := z; exact ⟨b, cellUp k b e1, e2⟩
        | new c fs => rw [ej] at z; obtain ⟨b, C, dx, gs, e1, e2, o, r⟩ := z; exact ⟨b, C, dx, gs, e1, e2, o, r.mono up⟩
        | exc c fs => rw [ej] at z; obtain ⟨b, e1, r⟩ := z; exact ⟨b, e1, r.mono up⟩
    apF := fun j b h => by
      obtain ⟨_, h2⟩ := old j b h
      refine ⟨fun z => ?_, fun z => (F2.apF j b h2).2 (.inl z)⟩
      rcases List.mem_append.mp z with z | z
      · exact (F2.apF j b h2).1 z
      · exact (F2.apF j b h2).2 (.inr (List.mem_singleton.mp z))
    apO := fun j k b h1 h2 => F.apO j k b (old j b h1).2 (old k b h2).2
    exF := fun b h z => by
      rcases List.mem_append.mp z with z | z
      · exact F.exF b h z
      · exact nb (.inr (.inl (by rw [← List.mem_singleton.mp z]; exact h)))
    exH := F.exH
    base := F.base
    newO := fun j b h => by
      obtain ⟨hj, h2⟩ := old j b ⟨muts_owns h.1, h.2⟩
      exact F.newO j b ⟨by rw [← get_ne j hj]; exact h.1, h2.2⟩
    newL := fun j b h m => by
      obtain ⟨hj, h2⟩ := old j b h
      exact F.newL j b h2 (by rw [← get_ne j hj]; exact m)
    newF := fun k b h => by
      by_cases hk : k < fm.length
      · rw [List.getElem?_append_left hk] at h; exact F.newF k b h
      · have := List.mem_of_getElem? h
        rcases List.mem_append.mp this with z | z
        · obtain ⟨k', hk'⟩ := List.getElem?_of_mem z; exact F.newF k' b hk'
        · rw [List.mem_singleton.mp z]; exact hn
    pre := let ⟨t, e⟩ := F.pre; ⟨t ++ [a], by rw [e, List.append_assoc]⟩
    m0 := F.m0
    m1 := F.m1 }⟩
theorem s_asgC (hN : X.N.Nodup) (hi : X.N[i]? = some x) (hx : Loc X.env.scope x) (he : PE X e (tI G run W e')) (hs : swapsWith e (some (.Name x pos')) pos.line X.env = pure false) (hf : X.fn x = true ∨ X.env.scope.names.lookup x = some .local) :
    PS X (.Assign [.Name x pos'] e pos) (tSt G run W (.asgC i e')) := by
  refine PS.imp (ps_set hN hi hx he hs hf) fun De σ H h => ?_
  obtain ⟨fc, fm, ex, s, F, p⟩ := h
  rw [exT] at p
  refine ⟨fc, fm, ex, s, F, (p.bind (RA := RE G fc fm ex σ)).imp fun v H1 hh => ?_⟩
  obtain ⟨r, s1, _, st1, F1, r1, p1⟩ := hh
  show De.nx (σ.set i (some v)) H1
  cases r with
  | own d =>
    cases d with
    | lst xs =>
      simp only at p1
      split at p1
      · rename_i hf
        obtain ⟨a, _, F2⟩ := F1.addCell i r1 hf
        exact p1 _ _ _ F2
      · exact p1.elim
    | _ => exact p1.elim
  | _ => exact p1.elim
/-! ### an item -/
def rSetA : TSet := fun o i v H Q => rSetL o i v H Q ∨ rSetD o i v H Q
theorem set_any (hu : X.A.units + 1 < cLine) : PSet X rSetA := fun pins s σ H o i v ov iv u Q I ro ri rv h => h.elim (fun h => set_list pins s σ H o i v ov iv u Q I ro ri rv h) fun h => set_dict hu pins s σ H o i v ov iv u Q I ro ri rv h
theorem getσ_has (F : FR G fc fm ex σ s H) (h : hasV (s.get i) = true) : ∃ a, σ[i]? = some (some (.ref a)) := by
  have q := F.slots i
  revert h q
  cases s.get i with
  | own d => intro _ ⟨a, e, _⟩; exact ⟨a, e⟩
  | cell k => intro _ ⟨a, _, e⟩; exact ⟨a, e⟩
  | _ => intro h; cases h
theorem KRs.length {B : Bar} : ∀ {kvs : List (D × D)} {kws : List (Key × V)}, KRs G H B kvs kws → kvs.length = kws.length
  | [], _, h => by cases h; rfl
  | p :: r, _, ⟨_, _, _, e, _, _, t⟩ => by subst e; simp [KRs.length t]
theorem s_setI {ix : Expr} {ix' : E} {o : Expr} (hu : X.A.units + 1 < cLine) (ho : PE X o (tVar i)) (hi : PE X ix (tI G run W ix')) (he : PE X e (tI G run W e'))
    (ha : ∀ v, assign (.Subscript o ix pos') X.env v = (do
      let ov ← holding [v] (eval o X.env)
      let iv ← holding [v, ov] (eval ix X.env)
      standAt pos'
      holding [v, ov, iv] (setItem ov iv v)
      release [v, ov, iv] []))
    (hs : swapsWithSole [.Subscript o ix pos'] e pos.line X.env = pure false) (hw : swappedStores [.Subscript o ix pos'] e X.env = pure none) (h1 : (assignEach [.Subscript o ix pos'] X.env).map (·.2) = [assign (.Subscript o ix pos') X.env]) :
    PS X (.Assign [.Subscript o ix pos'] e pos) (tSt G run W (.setI i ix' e')) := by
  refine PS.imp (ps_asg he (pg_sub ho hi (set_any hu) ha) hs hw h1) fun De σ H h => ?_
  obtain ⟨fc, fm, ex, s, F, p⟩ := h
  rw [exT] at p
  refine ⟨fc, fm, ex, s, F, (p.bind (RA := RE G fc fm ex σ)).imp fun v H1 hh => ?_⟩
  obtain ⟨r, s1, _, st1, F1, r1, p1⟩ := hh
  cases q : esc s1 r with
  | none => rw [q] at p1; exact p1.elim
  | some pr =>
    obtain ⟨d, s2⟩ := pr
    rw [q] at p1
    obtain ⟨F2, st2, dr⟩ := esc_ok F1 r1 q
    simp only at p1
    split at p1
    · rename_i hv
      obtain ⟨a, ha⟩ := getσ_has F2 hv
      refine ⟨_, ha, fc, fm, ex, s2, F2, (p1.bind (RA := RE G fc fm ex σ)).imp fun iv H3 hh => ?_⟩
      obtain ⟨r2, s3, _, st3, F3, r3, p3⟩ := hh
      have dr := dr.stp st3
      cases q2 : (rdat s3 r2).bind (fun k => setAt s3 i k d) with
      | none => rw [q2] at p3; exact p3.elim
      | some s4 =>
        rw [q2] at p3
        obtain ⟨k, e1, e2⟩ := Option.bind_eq_some_iff.mp q2
        have kd := r3.data F3 e1
        simp only [setAt] at e2
        cases ei : s3.get i with
        | own d0 =>
          obtain ⟨a', ha', ow⟩ := getσ_own F3 ei
          rw [ha] at ha'
          cases ha'
          rw [ei] at e2
          cases d0 with
          | lst xs =>
            cases k with
            | int z =>
              simp only at e2
              obtain ⟨j, ej, rfl⟩ := Option.map_eq_some_iff.mp e2
              cases (show iv = .int z from kd)
              obtain ⟨vs, hv, t⟩ := ow
              obtain ⟨F4, _⟩ := F3.mutL ei ha (t.set j dr)
              exact .inl ⟨a, vs, z, j, rfl, rfl, hv, by rw [← ixN_eq, ← t.length]; exact ej, p3 fm σ _ F4⟩
            | _ => cases e2
          | dic kvs =>
            obtain ⟨kws, hv, t⟩ := ow
            have go : ∀ kk, keyD k = some kk → iv = kV kk → kvs.length < 100000 → s4 = s3.set i (.own (.dic (Py.putK kvs k d))) → rSetA (.ref a) iv v H3 fun H4 => De.nx σ H4 := by
              rintro kk hk rfl hz rfl
              have hl : kvs.length = kws.length := t.length
              refine .inr ⟨a, _, rfl, .inl ⟨kws, kk, hv, rfl, by rw [sizeSZ]; unfold SZ; omega, rfl⟩, p3 fm σ _ (F3.mutO (d' := .dic (Py.putK kvs k d)) (o := .dK (L2.putK kws kk v)) ei ha ⟨_, upd_same, (t.put hk dr).upd (br_own ei ha)⟩).1⟩
            cases k with
            | int z =>
              simp only at e2
              split at e2
              · rename_i hz
                cases e2
                exact go _ rfl kd hz rfl
              · cases e2
            | str z =>
              simp only at e2
              split at e2
              · rename_i hz
                cases e2
                exact go _ rfl kd.1 hz rfl
              · cases e2
            | _ => cases e2
          | _ => cases e2
        | cell c =>
          rw [ei] at e2
          cases k with
          | int z =>
            simp only at e2
            cases ec : s3.cells[c]? with
            | none => rw [ec] at e2; cases e2
            | some xs =>
              rw [ec] at e2
              simp only at e2
              split at e2
              · rename_i hfl
                obtain ⟨j, ej, rfl⟩ := Option.map_eq_some_iff.mp e2
                cases (show iv = .int z from kd)
                obtain ⟨b, vs, h1, h2, h3, h4⟩ := F3.cells c xs ec
                have q3 := F3.slots i
                rw [ei] at q3
                obtain ⟨b', h5, h6⟩ := q3
                rw [h1] at h5
                cases h5
                rw [ha] at h6
                cases h6
                refine .inl ⟨a, vs, z, j, rfl, rfl, h2, by rw [← ixN_eq, ← h3.length]; exact ej, p3 fm σ _ (F3.mutC h1 (h3.set j (dr.flat hfl)) ?_)⟩
                rw [List.all_eq_true] at h4 ⊢
                intro y hy
                rcases List.mem_or_eq_of_mem_set hy with hy | hy
                · exact h4 y hy
                · rw [hy]; exact hfl
              · cases e2
          | _ => cases e2
        | _ => rw [ei] at e2; cases k <;> cases e2
    · exact p1.elim
end
end Py
end SB18
section SB19
set_option autoImplicit false
set_option linter.all false
set_option maxRecDepth 100000
set_option maxHeartbeats 4000000
/-! The evaluator over the hand layer, 19: several names at once; methods of lists. -/
namespace Py
open PySem L2

section
variable {G : Gx} {fc fc' : Fc} {fm fm2 : List Addr} {ex ex2 exF exF' : Bar} {σ σ2 σ' σ1 : L2.St} {s s' s0 s1 s2 : S} {H H1 H2 H' : Hp} {W : WX} {run : Run} {X : Cx} {ls : List Nat} {De : Ends} {pos pos' p : Pos} {tg a b c e : Expr} {a' b' c' e' : E} {es : List Expr} {es' : List E} {x : Str} {i : Nat}

/-! ### values that wait for their names -/
def PR (G : Gx) (fc : Fc) (fm : List Addr) (σ : L2.St) (s : S) (H : Hp) (exF : Bar) : Bar → List RV → List V → Prop
  | ex, [], vs => vs = [] ∧ exF = ex
  | ex, .own d :: rs, vs => ∃ a ws, vs = .ref a :: ws ∧ OwnAt G H (Br fm exF s σ) a d ∧ ¬ Br fm ex s σ a ∧ (fc.H0 a = none ∨ fc.M0 a) ∧ PR G fc fm σ s H exF (fun b => ex b ∨ b = a) rs ws
  | ex, .d x :: rs, vs => ∃ v ws, vs = v :: ws ∧ DR G H (Br fm exF s σ) x v ∧ PR G fc fm σ s H exF ex rs ws
  | _, _, _ => False
theorem PR.sub : ∀ {rs : List RV} {ex : Bar} {vs : List V}, PR G fc fm σ s H exF ex rs vs → ∀ b, ex b → exF b
  | [], _, _, h, b, hb => by rw [h.2]; exact hb
  | .own d :: rs, _, _, ⟨a, ws, _, _, _, _, t⟩, b, hb => PR.sub t b (.inl hb)
  | .d x :: rs, _, _, ⟨v, ws, _, _, t⟩, b, hb => PR.sub t b hb
  | .brw i :: rs, _, _, h, _, _ => h.elim
  | .cell k :: rs, _, _, h, _, _ => h.elim
/-- what is barred at the end was barred, or is fresh -/
theorem PR.new {fc1 : Fc} : ∀ {rs : List RV} {ex : Bar} {vs : List V}, PR G fc1 fm σ s H exF ex rs vs → ∀ b, exF b → ex b ∨ fc1.H0 b = none ∨ fc1.M0 b
  | [], _, _, h, b, hb => .inl (by rw [← h.2]; exact hb)
  | .own d :: rs, _, _, ⟨a, ws, _, _, _, n, t⟩, b, hb => by
    rcases PR.new t b hb with (z | z) | z
    · exact .inl z
    · rw [z]; exact .inr n
    · exact .inr z
  | .d x :: rs, _, _, ⟨v, ws, _, _, t⟩, b, hb => PR.new t b hb
  | .brw i :: rs, _, _, h, _, _ => h.elim
  | .cell k :: rs, _, _, h, _, _ => h.elim
theorem PR.chg (hf : ∀ a, fc.H0 a = none ∨ fc.M0 a → fc'.H0 a = none ∨ fc'.M0 a) : ∀ {rs : List RV} {ex : Bar} {vs : List V}, PR G fc fm σ s H exF ex rs vs → PR G fc' fm σ s H exF ex rs vs
  | [], _, _, h => h
  | .own d :: rs, _, _, ⟨a, ws, h1, h2, h3, n, t⟩ => ⟨a, ws, h1, h2, h3, hf a n, PR.chg hf t⟩
  | .d x :: rs, _, _, ⟨v, ws, h1, h2, t⟩ => ⟨v, ws, h1, h2, PR.chg hf t⟩
  | .brw i :: rs, _, _, h => h.elim
  | .cell k :: rs, _, _, h => h.elim
def PstP (G : Gx) (fc : Fc) (fm : List Addr) (ex : Bar) (σ : L2.St) (W : WX) (s : S) (H : Hp) (o : Out (List RV)) (Q : List V → Hp → Prop) : Prop := match o with
  | .ok rs s' => ∀ vs H' exF, Stp fm ex σ s H s' H' → FR G fc fm exF σ s' H' → PR G fc fm σ s' H' exF ex rs vs → Q vs H'
  | .exc c fs s' => ∀ C d H', Stp fm ex σ s H s' H' → FR G fc fm ex σ s' H' → XR G H' (Br fm ex s' σ) c fs C d → W C d σ H'
  | .stuck => False
def tP (G : Gx) (run : Run) (W : WX) (es : List E) : TA := fun σ H Q => ∃ fc fm ex s, FR G fc fm ex σ s H ∧ PstP G fc fm ex σ W s H (evPs G.P run es s) Q
theorem p_nil : PA X [] (tP G run W []) := by
  refine PA.imp pa_nil fun σ H Q ⟨fc, fm, ex, s, F, p⟩ => ?_
  simp only [evPs] at p
  exact p [] H ex .refl F ⟨rfl, rfl⟩
theorem Stp.moreEx {a : Addr} (F2 : FR G fc fm exF σ s2 H2) (hs : exF a) (nb : ¬ Br fm ex s1 σ a) (st : Stp fm (fun b => ex b ∨ b = a) σ s1 H1 s2 H2) : Stp fm ex σ s1 H1 s2 H2 :=
  ⟨st.keep, st.live, fun b h => by
    have z := st.bsub b (Br.more h)
    rcases z with z | (z | z) | z
    · exact .inl z
    · exact .inr (.inl z)
    · subst z
      exfalso
      rcases h with h | h | ⟨j, h⟩
      · exact nb (.inl h)
      · exact nb (.inr (.inl h))
      · exact (F2.apF j b h).2 hs
    · exact .inr (.inr z), st.msub⟩
theorem XR.less {c : Nat} {fs : List D} {C : Value} {d : Option Addr} {B B' : Bar} (hb : ∀ a, B' a → B a) (h : XR G H B c fs C d) : XR G H B' c fs C d := by
  obtain ⟨ca, h1, h2, h3, h4⟩ := h
  exact ⟨ca, h1, h2, h3, h4.imp (fun z => z) fun ⟨dx, gs, e1, e2, e3, t⟩ => ⟨dx, gs, e1, e2, fun z => e3 (hb dx z), t.mono fun a o n z => ⟨z, fun q => n (hb a q)⟩⟩⟩
theorem p_cons (ha : PE X a (tI G run W a')) (hr : PA X es (tP G run W es')) (hs : starEach (a :: es) X.env = (false, eval a X.env) :: starEach es X.env) : PA X (a :: es) (tP G run W (a' :: es')) := by
  refine PA.imp (pa_cons ha hr hs) fun σ H Q ⟨fc, fm, ex, s, F, p⟩ => ?_
  simp only [evPs] at p
  have pb : Pst G fc fm ex σ W (RE G fc fm ex σ) s H (evE G.P run a' s) fun v H1 => ∃ r s1, Stp fm ex σ s H s1 H1 ∧ FR G fc fm ex σ s1 H1 ∧ RR G fc fm ex σ s1 H1 r v ∧ PstP G fc fm ex σ W s H (match r with
      | .own d => (evPs G.P run es' s1).bind fun xs s2 => .ok (.own d :: xs) s2
      | x => (match esc s1 x with
        | none => .stuck
        | some p => (evPs G.P run es' p.2).bind fun xs s2 => .ok (.d p.1 :: xs) s2)) Q := by
    revert p
    cases evE G.P run a' s with
    | stuck => exact fun p => p
    | exc c fs s1 => exact fun p => p
    | ok r s1 => exact fun p v H1 st F1 r1 => ⟨r, s1, st, F1, r1, p⟩
  refine ⟨fc, fm, ex, s, F, pb.imp fun v H1 hh => ?_⟩
  obtain ⟨r, s1, st1, F1, r1, p1⟩ := hh
  have pub : ∀ x, RR G fc fm ex σ s1 H1 x v → PstP G fc fm ex σ W s H (match esc s1 x with
        | none => .stuck
        | some p => (evPs G.P run es' p.2).bind fun xs s2 => .ok (.d p.1 :: xs) s2) Q → tP G run W es' σ H1 fun vs H2 => Q (v :: vs) H2 := by
    intro x r1 p1
    cases q : esc s1 x with
    | none => rw [q] at p1; exact p1.elim
    | some pr =>
      obtain ⟨d, s2⟩ := pr
      rw [q] at p1
      obtain ⟨F2, st2, dr⟩ := esc_ok F1 r1 q
      refine ⟨reb fc fm s2 [] σ H1, fm, ex, s2, F2.reb [], ?_⟩
      revert p1
      simp only
      cases evPs G.P run es' s2 with
      | stuck => exact fun p => p
      | exc c fs s3 => exact fun p C dd H3 st3 F3 rx => p C dd H3 ((st1.trans st2).trans st3) (F2.unreb (fun i h => by cases h) F3) rx
      | ok xs s3 =>
        intro p vs H3 exF st3 F3 pr
        have F4 : FR G fc fm exF σ s3 H3 := F2.unreb (ls := []) (fun i h => by cases h) F3
        refine p (v :: vs) H3 exF ((st1.trans st2).trans st3) F4 ⟨v, vs, rfl, dr.mono (F2.rebK F3 fun b hb => ?_), pr.chg fun a h => F2.rebO h⟩
        rcases pr.new b hb with z | z | z
        · exact .inl (.inr (.inl z))
        · exact .inr z
        · exact .inl z.br
  cases r with
  | d x => exact pub _ r1 p1
  | brw k => exact pub _ r1 p1
  | cell k => exact pub _ r1 p1
  | own d =>
    obtain ⟨q, rfl, h1, h2, h3, h4⟩ := r1
    refine ⟨reb fc fm s1 [] σ H1, fm, fun b => ex b ∨ b = q, s1, h2.reb [], ?_⟩
    revert p1
    simp only
    cases evPs G.P run es' s1 with
    | stuck => exact fun p => p
    | exc c fs s3 =>
      intro p C dd H3 st3 F3 rx
      have F4 : FR G fc fm (fun b => ex b ∨ b = q) σ s3 H3 := h2.unreb (ls := []) (fun i h => by cases h) F3
      exact p C dd H3 (st1.trans (st3.moreEx F4 (.inr rfl) h3)) (F4.less fun a h => .inl h) (rx.less fun a h => Br.more h)
    | ok xs s3 =>
      intro p vs H3 exF st3 F3 pr
      have F4 : FR G fc fm exF σ s3 H3 := h2.unreb (ls := []) (fun i h => by cases h) F3
      have hq : exF q := pr.sub q (.inr rfl)
      have K := h2.rebK F3 fun b hb => by
        rcases pr.new b hb with z | z | z
        · exact .inl (.inr (.inl z))
        · exact .inr z
        · exact .inl z.br
      refine p (.ref q :: vs) H3 exF (st1.trans (st3.moreEx F4 hq h3)) F4 ⟨q, vs, rfl, h1.mono K fun o z => st3.keep q o z fun m => ?_, fun z => ?_, h4, pr.chg fun a h => h2.rebO h⟩
      · rcases m with m | ⟨j, m⟩
        · exact h3 (.inl m)
        · exact h3 (.inr (.inr ⟨j, muts_owns m.1, m.2⟩))
      · rcases z with z | z | ⟨j, z⟩
        · exact F4.exF q hq z
        · exact h3 (.inr (.inl z))
        · exact (F4.apF j q z).2 hq
/-! ### the stores -/
def setAll (σ : L2.St) : List Nat → List V → L2.St
  | i :: is, v :: vs => setAll (σ.set i (some v)) is vs
  | _, _ => σ
theorem PR.mono (hF : ∀ b, Br fm exF' s1 σ1 b → Br fm exF s σ b) (hE : exF' = exF) : ∀ {rs : List RV} {ex : Bar} {vs : List V}, (∀ ex : Bar, ∀ b, Br fm ex s1 σ1 b → Br fm ex s σ b) → PR G fc fm σ s H exF ex rs vs → PR G fc fm σ1 s1 H exF' ex rs vs
  | [], _, _, _, h => ⟨h.1, hE.trans h.2⟩
  | .own d :: rs, _, _, hB, ⟨a, ws, h1, h2, h3, n, t⟩ => ⟨a, ws, h1, h2.mono (fun b o n z => ⟨z, fun q => n (hF b q)⟩) fun _ z => z, fun z => h3 (hB _ _ z), n, PR.mono hF hE hB t⟩
  | .d x :: rs, _, _, hB, ⟨v, ws, h1, h2, t⟩ => ⟨v, ws, h1, h2.mono fun b o n z => ⟨z, fun q => n (hF b q)⟩, PR.mono hF hE hB t⟩
  | .brw i :: rs, _, _, _, h => h.elim
  | .cell k :: rs, _, _, _, h => h.elim
/-- one that waited has its name -/
theorem PR.named {q : Addr} (hF : ∀ b, Br fm (fun b => exF b ∧ b ≠ q) s1 σ1 b → Br fm exF s σ b) (hB : ∀ (ex : Bar) b, Br fm ex s1 σ1 b → Br fm ex s σ b ∨ b = q) : ∀ {rs : List RV} {ex : Bar} {vs : List V}, ¬ ex q → PR G fc fm σ s H exF (fun b => ex b ∨ b = q) rs vs → PR G fc fm σ1 s1 H (fun b => exF b ∧ b ≠ q) ex rs vs
  | [], ex, _, nq, h => ⟨h.1, by
    rw [h.2]
    funext b
    refine propext ⟨fun ⟨z, n⟩ => z.resolve_right n, fun z => ⟨.inl z, fun e => nq (by rw [← e]; exact z)⟩⟩⟩
  | .own d :: rs, ex, _, nq, ⟨a, ws, h1, h2, h3, n, t⟩ => by
    have ne : a ≠ q := fun e => h3 (.inr (.inl (.inr e)))
    refine ⟨a, ws, h1, h2.mono (fun b o n z => ⟨z, fun q => n (hF b q)⟩) fun _ z => z, fun z => ?_, n, PR.named hF hB (ex := fun b => ex b ∨ b = a) (fun z => z.elim nq fun e => ne e.symm) ?_⟩
    · rcases hB _ _ z with z | z
      · exact h3 (Br.more z)
      · exact ne z
    · have : (fun b => (ex b ∨ b = a) ∨ b = q) = fun b => (ex b ∨ b = q) ∨ b = a := by funext b; exact propext or_right_comm
      rw [this]; exact t
  | .d x :: rs, _, _, nq, ⟨v, ws, h1, h2, t⟩ => ⟨v, ws, h1, h2.mono fun b o n z => ⟨z, fun q => n (hF b q)⟩, PR.named hF hB nq t⟩
  | .brw i :: rs, _, _, _, h => h.elim
  | .cell k :: rs, _, _, _, h => h.elim
theorem par_st : ∀ {rs : List RV} {is : List Nat} {σ : L2.St} {s s' : S} {exF ex : Bar} {vs : List V}, FR G fc fm exF σ s H → PR G fc fm σ s H exF ex rs vs → parGo is rs s = some s' → FR G fc fm ex (setAll σ is vs) s' H ∧ vs.length = is.length
  | [], is, σ, s, s', exF, ex, vs, F, h, e => by
    cases is with
    | cons i is => cases e
    | nil =>
      cases e
      obtain ⟨rfl, rfl⟩ := h
      exact ⟨F, rfl⟩
  | r :: rs, is, σ, s, s', exF, ex, vs, F, h, e => by
    cases is with
    | nil => cases e
    | cons i is =>
      obtain ⟨s1, e1, e2⟩ := Option.bind_eq_some_iff.mp (show (tgR (.nm i) r s).bind (fun s1 => parGo is rs s1) = some s' from e)
      cases r with
      | brw k => exact h.elim
      | cell k => exact h.elim
      | d x =>
        obtain ⟨v, ws, rfl, dr, t⟩ := h
        simp only [tgR, esc, Option.bind_some, tgD] at e1
        cases e1
        obtain ⟨F3, hl⟩ := par_st (F.setPub i dr) (t.mono (fun b => br_set b) rfl fun ex b => br_set b) e2
        exact ⟨F3, by simp [hl]⟩
      | own d =>
        obtain ⟨q, ws, rfl, h1, h3, h4, t⟩ := h
        simp only [tgR] at e1
        cases e1
        have hq : exF q := t.sub q (.inr rfl)
        have Fq : FR G fc fm (fun b => exF b ∧ b ≠ q) σ s H := F.less fun a h => h.1
        have nbF : ¬ Br fm (fun b => exF b ∧ b ≠ q) s σ q := fun z => by
          rcases z with z | z | ⟨j, z⟩
          · exact F.exF q hq z
          · exact z.2 rfl
          · exact (F.apF j q z).2 hq
        have hun : (fun b => (exF b ∧ b ≠ q) ∨ b = q) = exF := by
          funext b
          refine propext ⟨fun z => z.elim (fun z => z.1) fun e => by rw [e]; exact hq, fun z => ?_⟩
          by_cases e : b = q
          · exact .inr e
          · exact .inl ⟨z, e⟩
        have rr : RR G fc fm (fun b => exF b ∧ b ≠ q) σ s H (.own d) (.ref q) := ⟨q, rfl, by rw [hun]; exact h1, by rw [hun]; exact F, nbF, h4⟩
        have F2 := Fq.setOwn i rr
        have old : ∀ j b, OwnA (s.set i (.own d)) (σ.set i (some (.ref q))) j b → b = q ∨ OwnA s σ j b := fun j b h => by
          by_cases z : j = i
          · subst z
            by_cases hl : j < σ.length
            · have := h.2
              rw [List.getElem?_set_self hl] at this
              cases this
              exact .inl rfl
            · right
              refine ⟨?_, ?_⟩
              · have := h.1
                rw [S.set_out (by rw [← F.len]; exact Nat.le_of_not_lt hl)] at this
                exact this
              · have := h.2
                rw [List.set_eq_of_length_le (Nat.le_of_not_lt hl)] at this
                exact this
          · exact .inr ⟨by rw [← S.get_ne (s := s) (x := .own d) z]; exact h.1, by rw [← getσ_ne z]; exact h.2⟩
        have hB : ∀ (ex : Bar) b, Br fm ex (s.set i (.own d)) (σ.set i (some (.ref q))) b → Br fm ex s σ b ∨ b = q := fun ex b h => by
          rcases h with h | h | ⟨j, h⟩
          · exact .inl (.inl h)
          · exact .inl (.inr (.inl h))
          · rcases old j b h with z | z
            · exact .inr z
            · exact .inl (.inr (.inr ⟨j, z⟩))
        have hF : ∀ b, Br fm (fun b => exF b ∧ b ≠ q) (s.set i (.own d)) (σ.set i (some (.ref q))) b → Br fm exF s σ b := fun b h => by
          rcases hB _ b h with z | z
          · rcases z with z | z | z
            · exact .inl z
            · exact .inr (.inl z.1)
            · exact .inr (.inr z)
          · rw [z]; exact .inr (.inl hq)
        obtain ⟨F3, hl⟩ := par_st F2 (t.named hF hB fun z => h3 (.inr (.inl z))) e2
        exact ⟨F3, by simp [hl]⟩
end
end Py
end SB19
section SB20
set_option autoImplicit false
set_option linter.all false
set_option maxRecDepth 100000
set_option maxHeartbeats 4000000
/-! The evaluator over the hand layer, 20: several names at once; methods of lists; displays of dicts. -/
namespace Py
open PySem L2

section
variable {G : Gx} {fc fc' : Fc} {fm fm2 : List Addr} {ex ex2 exF exF' : Bar} {σ σ2 σ' σ1 : L2.St} {s s' s0 s1 s2 : S} {H H1 H2 H' : Hp} {W : WX} {run : Run} {X : Cx} {ls : List Nat} {De : Ends} {pos pos' pos2 p px py pz : Pos} {tg a b c e o : Expr} {a' b' c' e' o' : E} {es : List Expr} {es' : List E} {x y z : Str} {i j l : Nat}

theorem par_imp {is : List Nat} (h : tSt G run W (.par is es') De σ H) : tP G run W es' σ H fun vs H1 => vs.length = is.length ∧ ∀ H2, Grow H1 H2 → De.nx (setAll σ is vs) H2 := by
  obtain ⟨fc, fm, ex, s, F, p⟩ := h
  rw [exT] at p
  refine ⟨fc, fm, ex, s, F, ?_⟩
  revert p
  cases evPs G.P run es' s with
  | stuck => exact fun p => p
  | exc c fs s1 => exact fun p C d H1 _ F1 r => p fm σ C d H1 F1 r
  | ok rs s1 =>
    intro p vs H1 exF st F1 pr
    simp only [Out.bind] at p
    cases q : parGo is rs s1 with
    | none => rw [q] at p; exact p.elim
    | some s2 =>
      rw [q] at p
      obtain ⟨F2, hl⟩ := par_st F1 pr q
      exact ⟨hl, fun H2 g => p fm _ H2 (F2.grow g)⟩
theorem s_par2 {kt k2 : Nat} {pt2 pt : Pos} (hc : X.calm = true) (hN : X.N.Nodup) (hi : X.N[i]? = some x) (hj : X.N[j]? = some y) (hij : i ≠ j)
    (hx : X.env.scope.names.lookup x = some .local) (hy : X.env.scope.names.lookup y = some .local) (ha : PA X [a, b] (tP G run W es'))
    (hw : swappedStores [.Tuple [.Name x px, .Name y py] kt pt] (.Tuple [a, b] k2 pt2) X.env = pure (some [x, y]))
    (hs : swapsWithSole [.Tuple [.Name x px, .Name y py] kt pt] (.Tuple [a, b] k2 pt2) pos.line X.env = pure false) :
    PS X (.Assign [.Tuple [.Name x px, .Name y py] kt pt] (.Tuple [a, b] k2 pt2) pos) (tSt G run W (.par [i, j] es')) := by
  refine PS.imp (ps_par hc hN hi hj hij hx hy ha hw hs) fun De σ H h => ?_
  obtain ⟨fc, fm, ex, s, F, q⟩ := par_imp h
  have mono : ∀ {o : Out (List RV)} {Q Q' : List V → Hp → Prop}, (∀ vs H, Q vs H → Q' vs H) → PstP G fc fm ex σ W s H o Q → PstP G fc fm ex σ W s H o Q' := by
    intro o Q Q' hq hp
    cases o with
    | ok rs s' => exact fun vs H' exF a b c => hq _ _ (hp vs H' exF a b c)
    | exc c fs s' => exact hp
    | stuck => exact hp
  refine ⟨fc, fm, ex, s, F, mono (fun vs H1 ⟨hl, k⟩ => ?_) q⟩
  match vs, hl, k with
  | [v, w], _, k => exact ⟨v, w, rfl, k H1 (.refl _)⟩
theorem s_par3 {kt k2 : Nat} {pt2 pt : Pos} (hc : X.calm = true) (hN : X.N.Nodup) (hi : X.N[i]? = some x) (hj : X.N[j]? = some y) (hl : X.N[l]? = some z) (hij : i ≠ j) (hil : i ≠ l) (hjl : j ≠ l)
    (hx : X.env.scope.names.lookup x = some .local) (hy : X.env.scope.names.lookup y = some .local) (hz : X.env.scope.names.lookup z = some .local) (ha : PA X [a, b, c] (tP G run W es'))
    (hw : swappedStores [.Tuple [.Name x px, .Name y py, .Name z pz] kt pt] (.Tuple [a, b, c] k2 pt2) X.env = pure (some [x, y, z]))
    (hs : swapsWithSole [.Tuple [.Name x px, .Name y py, .Name z pz] kt pt] (.Tuple [a, b, c] k2 pt2) pos.line X.env = pure false) :
    PS X (.Assign [.Tuple [.Name x px, .Name y py, .Name z pz] kt pt] (.Tuple [a, b, c] k2 pt2) pos) (tSt G run W (.par [i, j, l] es')) := by
  refine PS.imp (ps_par3 hc hN hi hj hl hij hil hjl hx hy hz ha hw hs) fun De σ H h => ?_
  obtain ⟨fc, fm, ex, s, F, q⟩ := par_imp h
  have mono : ∀ {o : Out (List RV)} {Q Q' : List V → Hp → Prop}, (∀ vs H, Q vs H → Q' vs H) → PstP G fc fm ex σ W s H o Q → PstP G fc fm ex σ W s H o Q' := by
    intro o Q Q' hq hp
    cases o with
    | ok rs s' => exact fun vs H' exF a b c => hq _ _ (hp vs H' exF a b c)
    | exc c fs s' => exact hp
    | stuck => exact hp
  refine ⟨fc, fm, ex, s, F, mono (fun vs H1 ⟨hl, k⟩ => ?_) q⟩
  match vs, hl, k with
  | [u, v, w], _, k => exact ⟨u, v, w, rfl, k H1 (.refl _)⟩
/-- the plain stores of several names -/
def gNames : List Nat → TGs
  | [] => gNil
  | i :: is => gCons (gName i) (gNames is)
theorem gNames_all : ∀ {is : List Nat} {vs : List V} {σ : L2.St} {Q : L2.St → Hp → Prop}, vs.length = is.length → Q (setAll σ is vs) H → gNames is vs σ H Q
  | [], [], _, _, _, q => ⟨rfl, q⟩
  | i :: is, v :: vs, σ, Q, hl, q => ⟨v, vs, rfl, gNames_all (is := is) (by simpa using hl) q⟩
  | [], _ :: _, _, _, hl, _ => by cases hl
  | _ :: _, [], _, _, hl, _ => by cases hl
theorem s_parT {is : List Nat} {ts : List Expr} {kt k2 : Nat} {pt2 pt : Pos} (hc : X.calm = true) (hg : PGs X ts (gNames is)) (ha : PA X es (tP G run W es')) (hlen : is.length ≤ 1000) (hn : (assignEach ts X.env).length = is.length) (hst : (assignEach ts X.env).findIdx? (·.1) = none)
    (hs : swapsWithSole [.Tuple ts kt pt] (.Tuple es k2 pt2) pos.line X.env = pure false) (hw : swappedStores [.Tuple ts kt pt] (.Tuple es k2 pt2) X.env = pure none) (h1 : (assignEach [.Tuple ts kt pt] X.env).map (·.2) = [assign (.Tuple ts kt pt) X.env]) :
    PS X (.Assign [.Tuple ts kt pt] (.Tuple es k2 pt2) pos) (tSt G run W (.par is es')) := by
  refine PS.imp (ps_asg (pe_tup ha) (pg_tup hc hg hn hst) hs hw h1) fun De σ H h => ?_
  obtain ⟨fc, fm, ex, s, F, q⟩ := par_imp h
  have mono : ∀ {o : Out (List RV)} {Q Q' : List V → Hp → Prop}, (∀ vs H, Q vs H → Q' vs H) → PstP G fc fm ex σ W s H o Q → PstP G fc fm ex σ W s H o Q' := by
    intro o Q Q' hq hp
    cases o with
    | ok rs s' => exact fun vs H' exF a b c => hq _ _ (hp vs H' exF a b c)
    | exc c fs s' => exact hp
    | stuck => exact hp
  refine ⟨fc, fm, ex, s, F, mono (fun vs H1 ⟨hl, k⟩ => ⟨by rw [hl, sizeSZ]; unfold SZ; omega, fun p hp => ?_⟩) q⟩
  exact ⟨p, vs, rfl, .inl (.inl upd_same), hl, gNames_all hl (k _ (.step hp (.refl _)))⟩
/-! ### methods of an own list -/
theorem isOwnL_of {z : Sl} (h : isOwnL z = true) : ∃ xs, z = .own (.lst xs) := by
  cases z with
  | own d => cases d with
    | lst xs => exact ⟨xs, rfl⟩
    | _ => cases h
  | _ => cases h
theorem getL (F : FR G fc fm ex σ s H) (h : isOwnL (s.get i) = true) : ∃ a vs, σ[i]? = some (some (.ref a)) ∧ H a = some (.lst vs) := by
  obtain ⟨xs, e⟩ := isOwnL_of h
  obtain ⟨a, ha, vs, hv, _⟩ := getσ_own F e
  exact ⟨a, vs, ha, hv⟩
theorem tX_one {Q : List V → Hp → Prop} (h : ∃ fc fm ex s, FR G fc fm ex σ s H ∧ Pst G fc fm ex σ W (RE G fc fm ex σ) s H (evE G.P run e' s) fun v H1 => ∃ r s1, Stp fm ex σ s H s1 H1 ∧ FR G fc fm ex σ s1 H1 ∧ RR G fc fm ex σ s1 H1 r v ∧ ∃ d s2, esc s1 r = some (d, s2) ∧ ∀ w H2, FR G fc fm ex σ s2 H2 → DR G H2 (Br fm ex s2 σ) d w → Q [w] H2) : True := trivial
theorem app_imp (h : tSt G run W (.app i e') De σ H) : ∃ a, σ[i]? = some (some (.ref a)) ∧ (∃ xs, SqL X.K H a xs) ∧ tX G run W [e'] σ H fun xs H2 => rAppend (.ref a) xs H2 fun _ H3 => De.nx σ H3 := by
  obtain ⟨fc, fm, ex, s, F, p⟩ := h
  rw [exT] at p
  cases hL : isOwnL (s.get i) with
  | false => rw [hL] at p; exact p.elim
  | true =>
    rw [hL] at p
    obtain ⟨a, vs, ha, hv⟩ := getL F hL
    refine ⟨a, ha, ⟨vs, .inl (.inl hv)⟩, fc, fm, ex, s, F, ?_⟩
    simp only [Bool.not_true, Bool.false_eq_true, if_false] at p
    simp only [evXs, Out.bind]
    revert p
    cases evE G.P run e' s with
    | stuck => exact fun p => p
    | exc c fs s1 => exact fun p C d H1 _ F1 r => p fm σ C d H1 F1 r
    | ok r s1 =>
      intro p
      simp only [Out.bind] at p
      simp only
      cases q : esc s1 r with
      | none => rw [q] at p; exact p
      | some pr =>
        obtain ⟨d, s2⟩ := pr
        rw [q] at p
        simp only at p ⊢
        intro ws H2 st F2 rx
        obtain ⟨w, ws', rfl, dr, e0⟩ := rx
        cases e0
        cases ei : s2.get i with
        | own d0 =>
          rw [ei] at p
          cases d0 with
          | lst xs =>
            simp only at p
            split at p
            · rename_i hz
              obtain ⟨a', ha', us, hu, t⟩ := getσ_own F2 ei
              rw [ha] at ha'
              cases ha'
              refine ⟨a, us, w, rfl, rfl, hu, by rw [← t.length, sizeSZ]; unfold SZ; omega, ?_⟩
              exact p fm σ _ (F2.mutL ei ha (t.append (show DRs G H2 _ [d] [w] from ⟨w, [], rfl, dr, rfl⟩))).1
            · exact p.elim
          | _ => exact p.elim
        | _ => rw [ei] at p; exact p.elim
theorem s_app (ho : PE X o (tVar i)) (he : PA X [e] (tX G run W [e'])) (hn : noStar e = true) (hbase : attributeBase o "append" X.env (eval o X.env) = eval o X.env) (hline : (pos'.endLine == pos2.line) = true) (hs : swapsWith (.Call (.Attribute o "append" pos') [e] [] pos2) none pos.line X.env = pure false) :
    PS X (.Expr (.Call (.Attribute o "append" pos') [e] [] pos2) pos) (tSt G run W (.app i e')) := by
  have h1 := star1 hn [] X.env
  refine PS.imp (ps_expr (pe_bm F.plainAttrs_list F.slot_list_append F.type_list_append mt_append ho he hbase (by rw [h1]; rfl) hline h1 rfl) hs) fun De σ H h => ?_
  obtain ⟨a, ha, hq, q⟩ := app_imp (X := X) h
  exact ⟨_, ha, .inl ⟨rfl, hq⟩, q⟩
/-! ### join -/
theorem toS_app : ∀ {xs : List D} {ss : List (List Nat)}, toS xs = some ss → xs.length = ss.length
  | [], _, e => by cases e; rfl
  | .str s :: r, _, e => by
    obtain ⟨ss, h1, rfl⟩ := Option.map_eq_some_iff.mp (show (toS r).map (s :: ·) = some _ from e)
    simp [toS_app h1]
  | .non :: _, _, e => by cases e
  | .bl _ :: _, _, e => by cases e
  | .int _ :: _, _, e => by cases e
  | .lst _ :: _, _, e => by cases e
  | .tup _ :: _, _, e => by cases e
  | .dic _ :: _, _, e => by cases e
  | .obj _ _ :: _, _, e => by cases e
end
end Py
end SB20
section SB21
set_option autoImplicit false
set_option linter.all false
set_option maxRecDepth 100000
set_option maxHeartbeats 4000000
/-! The evaluator over the hand layer, 21: join, displays of dicts. -/
namespace Py
open PySem L2

section
variable {G : Gx} {fc fc' : Fc} {fm fm2 : List Addr} {ex ex2 exF exF' : Bar} {σ σ2 σ' σ1 : L2.St} {s s' s0 s1 s2 : S} {H H1 H2 H' : Hp} {W : WX} {run : Run} {X : Cx} {ls : List Nat} {De : Ends} {pos pos' pos2 p px py pz : Pos} {tg a b c e o : Expr} {a' b' c' e' o' : E} {es : List Expr} {es' : List E} {x y z : Str} {i j l : Nat}

theorem joinS_L (z : List Nat) : ∀ ss : List (List Nat), joinS z ss = TL.joinL z ss
  | [] => rfl
  | [x] => by simp [joinS, TL.joinL]
  | x :: y :: r => by
    have := joinS_L z (y :: r)
    simp [joinS, TL.joinL, this]
theorem ST_join (z : List Nat) (ss : List (List Nat)) : Txt.join (ST z) (ss.map ST) = ST (joinS z ss) := by
  have h := TL.tl_join (ST z) (ss.map ST)
  rw [← TL.join_eq] at h
  have e1 : TL.tl (ST z) = z := by simp [TL.tl, ST]
  have e2 : (ss.map ST).map TL.tl = ss := by
    rw [List.map_map]
    conv => rhs; rw [← List.map_id ss]
    congr 1
  rw [e1, e2, ← joinS_L] at h
  have : TL.tl (Txt.join (ST z) (ss.map ST)) = TL.tl (ST (joinS z ss)) := by rw [h]; simp [TL.tl, ST]
  generalize Txt.join (ST z) (ss.map ST) = u at this
  cases u with
  | mk cps =>
    simp [TL.tl, ST] at this
    simp [ST, ← this]
theorem joinS_len (z : List Nat) : ∀ ss : List (List Nat), (joinS z ss).length ≤ (ss.map List.length).sum + z.length * ss.length
  | [] => by simp [joinS]
  | [x] => by simp [joinS]
  | x :: y :: r => by
    have h := joinS_len z (y :: r)
    simp only [joinS, List.length_append, List.map_cons, List.sum_cons, List.length_cons] at h ⊢
    have : z.length * (r.length + 1 + 1) = z.length * (r.length + 1) + z.length := by rw [Nat.mul_succ]
    omega
theorem joinS_mem (z : List Nat) (c : Nat) : ∀ ss : List (List Nat), c ∈ joinS z ss → c ∈ z ∨ ∃ x ∈ ss, c ∈ x
  | [], h => by cases h
  | [x], h => .inr ⟨x, by simp, h⟩
  | x :: y :: r, h => by
    simp only [joinS, List.mem_append] at h
    rcases h with (h | h) | h
    · exact .inr ⟨x, by simp, h⟩
    · exact .inl h
    · rcases joinS_mem z c (y :: r) h with h | ⟨w, hw, h⟩
      · exact .inl h
      · exact .inr ⟨w, List.mem_cons_of_mem _ hw, h⟩
theorem okS_join {z : List Nat} {ss : List (List Nat)} (hz : okS z = true) (hs : ∀ x ∈ ss, okS x = true) (hl : (ss.map List.length).sum + z.length * ss.length ≤ SZ) : okS (joinS z ss) = true := by
  rw [okS_iff]
  refine ⟨Nat.le_trans (joinS_len z ss) hl, fun c hc => ?_⟩
  rcases joinS_mem z c ss hc with h | ⟨x, hx, h⟩
  · exact (okS_iff.mp hz).2 c h
  · exact (okS_iff.mp (hs x hx)).2 c h
theorem e_join {z : List Nat} (hK : X.K = G.K) (ho : PE X o (tC (.str (ST z)))) (hz : okS z = true) (he : PE X e (tI G run W e')) (hn : noStar e = true) (hbase : attributeBase o "join" X.env (eval o X.env) = eval o X.env) (hline : (pos'.endLine == pos.line) = true) :
    PE X (.Call (.Attribute o "join" pos') [e] [] pos) (tI G run W (.bi .join [.con (.str z), e'])) := by
  refine PE.imp (pe_join ho he (by rw [star1 hn]; rfl) hbase hline) fun σ H Q h => ?_
  obtain ⟨fc, fm, ex, s, F, p⟩ := h
  simp only [evE, evEs, Out.bind_assoc] at p
  refine ⟨⟨_, rfl⟩, fc, fm, ex, s, F, ?_⟩
  change Pst G fc fm ex σ W (RE G fc fm ex σ) s H ((evE G.P run e' s).bind fun y s2 => Out.of ((rdats s2 [wk (.d (.str z)), wk y]).bind fun xs => biOp .join xs) s2) Q at p
  refine p.bind.imp fun v H1 hh => ?_
  obtain ⟨r, s1, _, st1, F1, r1, p1⟩ := hh
  obtain ⟨rv, ee, k⟩ := p1.of
  have e0 : rdats s1 [wk (.d (.str z)), wk r] = (rdat s1 r).map fun d => [.str z, d] := by
    simp only [rdats]
    rw [rdat_wk, rdat_wk]
    cases rdat s1 r <;> rfl
  rw [e0] at ee
  cases q : rdat s1 r with
  | none => rw [q] at ee; cases ee
  | some d =>
    rw [q] at ee
    simp only [Option.map_some, Option.bind_some] at ee
    have rd := r1.data F1 q
    have go : ∀ {xs : List D} {ss : List (List Nat)} {vs : List V} {pa : Addr}, toS xs = some ss → DRs G H1 (Br fm ex s1 σ) xs vs → v = .ref pa → (SqL X.K H1 pa vs ∨ SqT X.K H1 pa vs) → (ss.map List.length).sum + z.length * ss.length ≤ SZ → rv = .d (.str (joinS z ss)) →
        ∃ a p, ∃ ys : List Str, V.str (ST z) = .str a ∧ [v] = [.ref p] ∧ (SqL X.K H1 p (ys.map V.str) ∨ SqT X.K H1 p (ys.map V.str)) ∧ (ys.map (·.length)).sum + ys.length * a.length ≤ 16777216 ∧ Q (.str (Txt.join a ys)) H1 := by
      rintro xs ss vs pa e1 dr rfl hq hl rfl
      obtain ⟨e2, hok⟩ := dr.toS e1
      subst e2
      refine ⟨ST z, pa, ss.map ST, rfl, rfl, hq, ?_, ?_⟩
      · have e3 : ((ss.map ST).map (·.length)) = ss.map List.length := by
          rw [List.map_map]; exact List.map_congr_left fun w _ => ST_length w
        rw [e3, List.length_map, ST_length, Nat.mul_comm]
        exact hl
      · rw [ST_join]
        exact k _ _ .refl F1 ⟨rfl, okS_join hz hok hl⟩
    cases d with
    | lst xs =>
      simp only [biOp] at ee
      obtain ⟨ss, e1, e2⟩ := Option.bind_eq_some_iff.mp ee
      split at e2
      · rename_i hl
        cases e2
        obtain ⟨pa, vs, rfl, hq, t⟩ := rd
        rw [← hK] at hq
        exact go e1 t rfl (.inl hq) hl rfl
      · cases e2
    | tup xs =>
      simp only [biOp] at ee
      obtain ⟨ss, e1, e2⟩ := Option.bind_eq_some_iff.mp ee
      split at e2
      · rename_i hl
        cases e2
        obtain ⟨pa, vs, rfl, hq, t⟩ := rd
        have hq := hq.sq
        rw [← hK] at hq
        exact go e1 t rfl (.inr hq) hl rfl
      · cases e2
    | _ => cases ee
/-! ### displays of dicts -/
def RK (G : Gx) (fm : List Addr) (ex : Bar) (σ : L2.St) : S → Hp → List (D × D) → List (V × V) → Prop
  | _, _, [], ps => ps = []
  | s, H, kv :: r, ps => ∃ x y qs, ps = (x, y) :: qs ∧ DR G H (Br fm ex s σ) kv.1 x ∧ DR G H (Br fm ex s σ) kv.2 y ∧ RK G fm ex σ s H r qs
theorem RK.stp (st : Stp fm ex σ s H s1 H1) : ∀ {kvs : List (D × D)} {ps : List (V × V)}, RK G fm ex σ s H kvs ps → RK G fm ex σ s1 H1 kvs ps
  | [], _, h => h
  | kv :: r, _, ⟨x, y, qs, e, h1, h2, t⟩ => ⟨x, y, qs, e, h1.stp st, h2.stp st, RK.stp st t⟩
theorem pairs_ok : ∀ {kvs : List (E × E)} {s : S} {H : Hp} {Q : List (V × V) → Hp → Prop}, FR G fc fm ex σ s H → Pst G fc fm ex σ W (RK G fm ex σ) s H (evKs G.P run kvs s) Q → tPairs (kvs.map fun kv => (tI G run W kv.1, tI G run W kv.2)) σ H Q
  | [], s, H, Q, F, p => by
    simp only [evKs] at p
    exact p.ok F rfl
  | kv :: r, s, H, Q, F, p => by
    simp only [evKs] at p
    refine ⟨fc, fm, ex, s, F, p.bind.imp fun v H1 hh => ?_⟩
    obtain ⟨ra, s1, _, st1, F1, r1, p1⟩ := hh
    cases q1 : esc s1 ra with
    | none => rw [q1] at p1; exact p1.elim
    | some pr =>
      obtain ⟨d1, s2⟩ := pr
      rw [q1] at p1
      obtain ⟨F2, st2, dr1⟩ := esc_ok F1 r1 q1
      have p2 := Pst.from st2 p1
      refine ⟨fc, fm, ex, s2, F2, p2.bind.imp fun w H3 hh => ?_⟩
      obtain ⟨rb, s3, _, st3, F3, r3, p3⟩ := hh
      cases q2 : esc s3 rb with
      | none => rw [q2] at p3; exact p3.elim
      | some pr =>
        obtain ⟨d2, s4⟩ := pr
        rw [q2] at p3
        obtain ⟨F4, st4, dr2⟩ := esc_ok F3 r3 q2
        have p4 := Pst.from st4 p3
        refine pairs_ok F4 (p4.bind.imp fun qs H5 hh => ?_)
        obtain ⟨ps, s5, _, st5, F5, r5, p5⟩ := hh
        exact p5.ok F5 ⟨v, w, qs, rfl, (dr1.stp (st3.trans st4)).stp st5, dr2.stp st5, r5⟩
theorem RK.keys {ps : List (V × V)} : ∀ {kvs : List (D × D)}, RK G fm ex σ s H kvs ps → (kvs.all fun p => (match p.1 with
      | .int _ => true
      | .str _ => true
      | _ => false)) = true → ∃ kws : List (Key × V), ps = kws.map (fun kv => (kV kv.1, kv.2)) ∧ KRs G H (Br fm ex s σ) kvs kws := by
  intro kvs
  induction kvs generalizing ps with
  | nil => intro h _; cases h; exact ⟨[], rfl, rfl⟩
  | cons kv r ih =>
    intro ⟨x, y, qs, e, h1, h2, t⟩ hk
    simp only [List.all_cons, Bool.and_eq_true] at hk
    obtain ⟨kws, e2, t2⟩ := ih t hk.2
    obtain ⟨k, d⟩ := kv
    cases k with
    | int z => cases (show x = .int z from h1); exact ⟨(.inl z, y) :: kws, by rw [e, e2]; rfl, .inl z, y, kws, rfl, rfl, h2, t2⟩
    | str z => obtain ⟨rfl, _⟩ := h1; exact ⟨(.inr (ST z), y) :: kws, by rw [e, e2]; rfl, .inr (ST z), y, kws, rfl, rfl, h2, t2⟩
    | _ => cases hk.1
theorem KRs.fold {B : Bar} : ∀ {ps : List (D × D)} {qs : List (Key × V)} {kvs : List (D × D)} {kws : List (Key × V)}, KRs G H B ps qs → KRs G H B kvs kws → KRs G H B (ps.foldl (fun acc p => Py.putK acc p.1 p.2) kvs) (mergeK kws qs)
  | [], _, _, _, h, q => by cases h; exact q
  | p :: ps, _, _, _, ⟨k, v, ws, e, h1, h2, t⟩, q => by
    subst e
    exact KRs.fold (ps := ps) (qs := ws) t (q.put h1 h2)
theorem e_dic {ks : List (Option Expr)} {vs : List Expr} {kvs : List (E × E)} (h : PPs X pos ks vs (kvs.map fun kv => (tI G run W kv.1, tI G run W kv.2))) (hall : ks.all (·.isSome) = true) (hl : ks.length = vs.length) (h0 : ks ≠ []) (h15 : ks.length ≤ 15) (hkl : kvs.length = ks.length) :
    PE X (.Dict ks vs pos) (tI G run W (.dic kvs)) := by
  refine PE.imp (pe_disp h hall hl h0 h15) fun σ H Q h => ?_
  obtain ⟨fc, fm, ex, s, F, p⟩ := h
  intro q hq
  have nb : ¬ Br fm ex s σ q := fun z => F.brH z hq
  have F2 : FR G fc fm (fun b => ex b ∨ b = q) σ s (upd H q (.dK [])) := F.bar hq
  simp only [evE] at p
  refine pairs_ok (W := W) F2 ?_
  have lenK : ∀ {kvs : List (E × E)} {s s1 : S} {ps : List (D × D)}, evKs G.P run kvs s = .ok ps s1 → ps.length = kvs.length := by
    intro kvs
    induction kvs with
    | nil => intro s s1 ps e; simp only [evKs] at e; cases e; rfl
    | cons kv r ih =>
      intro s s1 ps e
      simp only [evKs] at e
      obtain ⟨x, t1, _, e⟩ := Out.bind_ok e
      split at e
      · cases e
      · obtain ⟨y, t2, _, e⟩ := Out.bind_ok e
        split at e
        · cases e
        · obtain ⟨zs, t3, e3, e⟩ := Out.bind_ok e
          cases e
          simp [ih e3]
  revert p
  cases ek : evKs G.P run kvs s with
  | stuck => exact fun p => p
  | exc c fs s1 =>
    intro p C d H1 st F1 r
    exact p C d H1 ((Stp.alloc hq).trans (st.moreEx F1 (.inr rfl) (fun z => F.brH z hq))) (F1.less fun a h => .inl h) (r.less fun a h => Br.more h)
  | ok ps s1 =>
    intro p qs H1 st F1 r
    simp only [Out.bind] at p
    split at p
    · rename_i hk
      obtain ⟨kws, e1, t⟩ := r.keys hk
      have nMu : ¬ Mu fm s σ q := fun z => nb z.br
      have hlen : kws.length ≤ 15 := by rw [← t.length, lenK ek, hkl]; exact h15
      refine ⟨st.keep q _ upd_same nMu, kws, e1, hlen, ?_⟩
      have F3 : FR G fc fm (fun b => ex b ∨ b = q) σ s1 (upd H1 q (.dK (mergeK [] kws))) := F1.updEx (.inr rfl) (F.fresh0 hq)
      have st2 : Stp fm ex σ s H s1 H1 := (Stp.alloc hq).trans (st.moreEx F1 (.inr rfl) nb)
      have nb1 : ¬ Br fm ex s1 σ q := fun z => nb (st2.bsub q z)
      refine p (.ref q) _ ⟨fun a o h n => ?_, fun a h => upd_live (st2.live a h), st2.bsub, st2.msub⟩ (F3.less fun a h => .inl h) ⟨q, rfl, ⟨_, upd_same, ?_⟩, F3, nb1, .inl (F.fresh0 hq)⟩
      · rw [upd_ne (show a ≠ q from fun e => by rw [e, hq] at h; cases h)]
        exact st2.keep a o h n
      · exact (KRs.fold t (show KRs G H1 _ [] [] from rfl)).mono fun a o n z => ⟨by rw [upd_ne (show a ≠ q from fun e => n (.inr (.inl (.inr e))))]; exact z, n⟩
    · exact p.elim
theorem e_dic0 : PE X (.Dict [] [] pos) (tI G run W (.dic [])) := by
  refine PE.imp pe_dnewK fun σ H Q h => ?_
  obtain ⟨fc, fm, ex, s, F, p⟩ := h
  intro q hq
  simp only [evE, evKs, Out.bind, List.all_nil, if_true, List.foldl_nil] at p
  have F3 : FR G fc fm (fun b => ex b ∨ b = q) σ s (upd H q (.dK [])) := F.bar hq
  exact p (.ref q) _ (.alloc hq) (F.alloc hq) ⟨q, rfl, ⟨[], upd_same, rfl⟩, F3, fun z => F.brH z hq, .inl (F.fresh0 hq)⟩
end
end Py
end SB21
section SB25
set_option autoImplicit false
set_option linter.all false
set_option maxRecDepth 100000
set_option maxHeartbeats 4000000
/-! The evaluator over the hand layer, 25: a name's own object moves out. -/
namespace Py
open PySem L2
section
variable {G : Gx} {fc fc' : Fc} {fm fm2 : List Addr} {ex ex2 : Bar} {σ : L2.St} {s s' : S} {H : Hp} {i : Nat} {d : D}
theorem ownA_move {j : Nat} {b : Addr} (h : OwnA (s.set i .non) σ j b) : OwnA s σ j b ∧ j ≠ i := by
  have ne : j ≠ i := fun e => by
    subst e
    have q := h.1
    by_cases hl : j < s.env.length
    · rw [S.get_eq hl] at q; cases q
    · rw [S.set_out (Nat.le_of_not_lt hl)] at q
      simp [S.get, List.getD_eq_getElem?_getD, List.getElem?_eq_none (Nat.le_of_not_lt hl), owns] at q
  refine ⟨⟨?_, h.2⟩, ne⟩
  have q := h.1
  rw [S.get_ne ne] at q
  exact q
theorem FR.move (F : FR G fc fm ex σ s H) (e : s.get i = .own d) : ∃ a, σ[i]? = some (some (.ref a)) ∧ FR G fc fm ex σ (s.set i .non) H ∧ Stp fm ex σ s H (s.set i .non) H ∧ RR G fc fm ex σ (s.set i .non) H (.own d) (.ref a) := by
  have q := F.slots i
  rw [e] at q
  obtain ⟨a, hσ, ow⟩ := q
  have oa : OwnA s σ i a := ⟨by rw [e]; rfl, hσ⟩
  have hB : ∀ b, Br fm (fun b => ex b ∨ b = a) (s.set i .non) σ b → Br fm ex s σ b := fun b h => by
    rcases h with h | (h | h) | ⟨j, h⟩
    · exact .inl h
    · exact .inr (.inl h)
    · exact .inr (.inr ⟨i, h ▸ oa⟩)
    · exact .inr (.inr ⟨j, (ownA_move h).1⟩)
  have hB0 : ∀ b, Br fm ex (s.set i .non) σ b → Br fm ex s σ b := fun b h => by
    rcases h with h | h | ⟨j, h⟩
    · exact .inl h
    · exact .inr (.inl h)
    · exact .inr (.inr ⟨j, (ownA_move h).1⟩)
  have nb : ¬ Br fm ex (s.set i .non) σ a := fun h => by
    rcases h with h | h | ⟨j, h⟩
    · exact (F.apF i a oa).1 h
    · exact (F.apF i a oa).2 h
    · exact (ownA_move h).2 (F.apO j i a (ownA_move h).1 oa)
  have mutM : ∀ {j b}, MutA (s.set i .non) σ j b → MutA s σ j b := fun {j b} h => by
    have o : OwnA (s.set i .non) σ j b := ⟨muts_owns h.1, h.2⟩
    refine ⟨?_, h.2⟩
    have q := h.1
    rw [S.get_ne (ownA_move o).2] at q
    exact q
  have live : H a ≠ none := F.brH (.inr (.inr ⟨i, oa⟩))
  have slot : ∀ (B' : Bar), (∀ b, B' b → Br fm ex s σ b) → ∀ j, SlOk G fc fm H B' σ[j]? ((s.set i .non).get j) := fun B' hb j => by
    by_cases ej : j = i
    · subst ej
      by_cases hl : j < s.env.length
      · rw [S.get_eq hl]; exact trivial
      · rw [S.set_out (Nat.le_of_not_lt hl)]
        exact (F.slots j).chg rfl hb
    · rw [S.get_ne ej]
      exact (F.slots j).chg rfl hb
  have base : FR G fc fm ex σ (s.set i .non) H := {
    len := F.len.trans (S.len_set _ _ _).symm
    fml := F.fml
    nd := F.nd
    cells := F.cells
    slots := slot _ hB0
    apF := fun j b h => F.apF j b (ownA_move h).1
    apO := fun j l b h1 h2 => F.apO j l b (ownA_move h1).1 (ownA_move h2).1
    exF := F.exF
    exH := F.exH
    base := F.base
    newO := fun j b h => F.newO j b (mutM h)
    newL := fun j b h m => F.newL j b (ownA_move h).1 (by rw [S.get_ne (ownA_move h).2] at m; exact m)
    newF := F.newF
    pre := F.pre
    m0 := F.m0
    m1 := F.m1 }
  refine ⟨a, hσ, base, ⟨fun _ _ h _ => h, fun _ h => h, hB0, fun b h => h.elim .inl fun ⟨j, h⟩ => .inr ⟨j, mutM h⟩⟩, a, rfl, ow.mono (fun b o n z => ⟨z, fun q => n (hB b q)⟩) fun _ z => z, { base with
    slots := slot _ hB
    apF := fun j b h => ⟨(F.apF j b (ownA_move h).1).1, fun z => z.elim (F.apF j b (ownA_move h).1).2 fun z => (ownA_move h).2 (F.apO j i a (z ▸ (ownA_move h).1) oa)⟩
    exF := fun b h => h.elim (F.exF b) fun z => z ▸ (F.apF i a oa).1
    exH := fun b h => h.elim (F.exH b) fun z => z ▸ live }, nb, F.newO i a ⟨by rw [e]; rfl, hσ⟩⟩
end
end Py
end SB25
section SB26
set_option autoImplicit false
set_option linter.all false
set_option maxRecDepth 100000
set_option maxHeartbeats 4000000
/-! The evaluator over the hand layer, 26: a display that is looked up at once. -/
namespace Py
open PySem L2

section
variable {G : Gx} {fc fc' : Fc} {fm fm2 : List Addr} {ex ex2 exF exF' : Bar} {σ σ2 σ' σ1 : L2.St} {s s' s0 s1 s2 : S} {H H1 H2 H' : Hp} {W : WX} {run : Run} {X : Cx} {ls : List Nat} {De : Ends} {pos pos' pos2 pos3 p px py pz : Pos} {tg a b c e o : Expr} {a' b' c' e' o' : E} {es : List Expr} {es' : List E} {x y z : Str} {i j l : Nat}

def RPk (G : Gx) (fc : Fc) (fm : List Addr) (ex : Bar) (σ : L2.St) (s : S) (H : Hp) : List (D × RV) → List (Key × V) → Prop
  | [], ws => ws = []
  | kr :: t, ws => ∃ k y us, ws = (k, y) :: us ∧ keyD kr.1 = some k ∧ RR G fc fm ex σ s H kr.2 y ∧ RPk G fc fm ex σ s H t us
def RP (G : Gx) (fc : Fc) (fm : List Addr) (ex : Bar) (σ : L2.St) (s : S) (H : Hp) (ps : List (D × RV)) (qs : List (V × V)) : Prop := ∃ kws : List (Key × V), qs = kws.map (fun kv => (kV kv.1, kv.2)) ∧ RPk G fc fm ex σ s H ps kws
theorem RPk.length : ∀ {ps : List (D × RV)} {ws : List (Key × V)}, RPk G fc fm ex σ s H ps ws → ws.length = ps.length
  | [], _, h => by cases h; rfl
  | _ :: _, _, ⟨_, _, _, e, _, _, t⟩ => by subst e; simp [RPk.length t]
theorem key_of {d : D} {v : V} {B : Bar} (hk : keyOk d = true) (h : RD G H B d v) : ∃ k, keyD d = some k ∧ v = kV k := by
  cases d with
  | int i => exact ⟨.inl i, rfl, h⟩
  | str t => exact ⟨.inr (ST t), rfl, (show v = .str (ST t) ∧ _ from h).1⟩
  | _ => cases hk
theorem pk_ok : ∀ {kvs : List (E × E)} {s : S} {H : Hp} {Q : List (V × V) → Hp → Prop}, FR G fc fm ex σ s H → Pst G fc fm ex σ W (RP G fc fm ex σ) s H (evPk G.P run kvs s) Q → tPairs (kvs.map fun kv => (tI G run W kv.1, tI G run W kv.2)) σ H Q
  | [], s, H, Q, F, p => by
    simp only [evPk] at p
    exact p.ok F ⟨[], rfl, rfl⟩
  | kv :: r, s, H, Q, F, p => by
    simp only [evPk] at p
    refine ⟨fc, fm, ex, s, F, p.bind.imp fun v H1 hh => ?_⟩
    obtain ⟨ra, s1, _, st1, F1, r1, p1⟩ := hh
    cases q1 : rdat s1 ra with
    | none => rw [q1] at p1; exact p1.elim
    | some kd =>
      rw [q1] at p1
      simp only at p1
      by_cases hk : keyOk kd = true
      · rw [if_pos hk] at p1
        obtain ⟨k, hk1, rfl⟩ := key_of hk (r1.data F1 q1)
        refine ⟨fc, fm, ex, s1, F1, p1.bind.imp fun w H3 hh => ?_⟩
        obtain ⟨rb, s3, _, st3, F3, r3, p3⟩ := hh
        cases r with
        | nil =>
          simp only [evPk, Out.bind] at p3
          exact p3.ok F3 ⟨[(k, w)], rfl, k, w, [], rfl, hk1, r3, rfl⟩
        | cons kv2 r =>
          refine pk_ok F3 (p3.bind.imp fun qs H5 hh => ?_)
          obtain ⟨ps, s5, _, st5, F5, ⟨kws, rfl, r5⟩, p5⟩ := hh
          exact p5.ok F5 ⟨(k, w) :: kws, rfl, k, w, kws, rfl, hk1, r3.wk.stp st5, r5⟩
      · rw [if_neg hk] at p1; exact p1.elim
theorem RPk.val {kd : D} {k : Key} (hk : keyD kd = some k) : ∀ {ps : List (D × RV)} {ws acc : List (Key × V)}, RPk G fc fm ex σ s H ps ws →
    (∃ p v, ps.reverse.find? (fun p => eqD p.1 kd) = some p ∧ valV (mergeK acc ws) k = some v ∧ RR G fc fm ex σ s H p.2 v) ∨ (ps.reverse.find? (fun p => eqD p.1 kd) = none ∧ valV (mergeK acc ws) k = valV acc k)
  | [], _, acc, h => by cases h; exact .inr ⟨rfl, rfl⟩
  | kr :: t, _, acc, ⟨k0, y, us, e, h1, h2, h3⟩ => by
    subst e
    have ke : decide (k0 = k) = eqD kr.1 kd := keyD_eq (G := G) (H := H) (B := fun _ => False) h1 hk
    rw [List.reverse_cons, List.find?_append]
    rcases RPk.val hk (acc := L2.putK acc k0 y) h3 with ⟨p, v, e1, e2, e3⟩ | ⟨e1, e2⟩
    · exact .inl ⟨p, v, by rw [e1]; rfl, e2, e3⟩
    · rw [e1]
      have e2' : valV (mergeK acc ((k0, y) :: us)) k = valV (L2.putK acc k0 y) k := e2
      rw [e2', valV_put]
      by_cases z : k0 = k
      · have z' : eqD kr.1 kd = true := by rw [← ke]; exact decide_eq_true z
        exact .inl ⟨kr, y, by simp [z'], if_pos z.symm, h2⟩
      · have z' : eqD kr.1 kd = false := by rw [← ke]; exact decide_eq_false z
        exact .inr ⟨by simp [z'], if_neg fun q => z q.symm⟩
theorem locV_ok {r : RV} (F : FR G fc fm ex σ s H) (e : locV s j = .ok r s') : s' = s ∧ ∃ v, σ[j]? = some (some v) ∧ RR G fc fm ex σ s H r v := by
  have q := F.slots j
  unfold locV at e
  cases es : s.get j with
  | pub d => rw [es] at e q; cases e; obtain ⟨v, e, r⟩ := q; exact ⟨rfl, v, e, r⟩
  | own d => rw [es] at e q; cases e; obtain ⟨v, e, r⟩ := q; exact ⟨rfl, _, e, e⟩
  | lent d => rw [es] at e q; cases e; obtain ⟨v, e, r⟩ := q; exact ⟨rfl, _, e, e⟩
  | cell k => rw [es] at e q; cases e; obtain ⟨v, e, r⟩ := q; exact ⟨rfl, _, r, v, e, rfl⟩
  | new c fs => rw [es] at e q; cases e; obtain ⟨v, _, _, _, e, r⟩ := q; exact ⟨rfl, _, e, e⟩
  | exc c fs => rw [es] at e q; cases e; obtain ⟨v, e, r⟩ := q; exact ⟨rfl, _, e, e⟩
  | _ => rw [es] at e; cases e
theorem evPk_len : ∀ {kvs : List (E × E)} {s s1 : S} {ps : List (D × RV)}, evPk G.P run kvs s = .ok ps s1 → ps.length = kvs.length := by
  intro kvs
  induction kvs with
  | nil => intro s s1 ps e; simp only [evPk] at e; cases e; rfl
  | cons kv r ih =>
    intro s s1 ps e
    simp only [evPk] at e
    obtain ⟨x, t1, _, e⟩ := Out.bind_ok e
    split at e
    · split at e
      · obtain ⟨y, t2, _, e⟩ := Out.bind_ok e
        obtain ⟨zs, t3, e3, e⟩ := Out.bind_ok e
        cases e
        simp [ih e3]
      · cases e
    · cases e
theorem e_pick {ks : List (Option Expr)} {vs : List Expr} {kvs : List (E × E)} (hu : X.A.units + 1 < cLine) (h : PPs X pos ks vs (kvs.map fun kv => (tI G run W kv.1, tI G run W kv.2))) (hall : ks.all (·.isSome) = true) (hl : ks.length = vs.length) (h0 : ks ≠ []) (h15 : ks.length ≤ 15) (hkl : kvs.length = ks.length)
    (hn : PE X (.Name x pos2) (tVar j)) (hs : NoSl (.Name x pos2)) : PE X (.Subscript (.Dict ks vs pos) (.Name x pos2) pos3) (tI G run W (.pick kvs (.loc j))) := by
  refine PE.imp (pe_dget hu (pe_disp h hall hl h0 h15) hn hs) fun σ H Q h => ?_
  obtain ⟨fc, fm, ex, s, F, p⟩ := h
  intro q hq
  have nb : ¬ Br fm ex s σ q := fun z => F.brH z hq
  have F2 : FR G fc fm (fun b => ex b ∨ b = q) σ s (upd H q (.dK [])) := F.bar hq
  simp only [evE] at p
  refine pk_ok (W := W) F2 ?_
  revert p
  cases ek : evPk G.P run kvs s with
  | stuck => exact fun p => p
  | exc c fs s1 =>
    intro p C d H1 st F1 r
    exact p C d H1 ((Stp.alloc hq).trans (st.moreEx F1 (.inr rfl) (fun z => F.brH z hq))) (F1.less fun a h => .inl h) (r.less fun a h => Br.more h)
  | ok ps s1 =>
    intro p qs H1 st F1 r
    obtain ⟨kws, e1, rk⟩ := r
    simp only [Out.bind] at p
    have nMu : ¬ Mu fm s σ q := fun z => nb z.br
    have hlen : kws.length ≤ 15 := by rw [rk.length, evPk_len ek, hkl]; exact h15
    refine ⟨st.keep q _ upd_same nMu, kws, e1, hlen, ?_⟩
    have F3 : FR G fc fm (fun b => ex b ∨ b = q) σ s1 (upd H1 q (.dK (mergeK [] kws))) := F1.updEx (.inr rfl) (F.fresh0 hq)
    have F4 : FR G fc fm ex σ s1 (upd H1 q (.dK (mergeK [] kws))) := F3.less fun a h => .inl h
    have st2 : Stp fm ex σ s H s1 H1 := (Stp.alloc hq).trans (st.moreEx F1 (.inr rfl) nb)
    have nb1 : ¬ Br fm ex s1 σ q := fun z => nb (st2.bsub q z)
    have st3 : Stp fm ex σ s H s1 (upd H1 q (.dK (mergeK [] kws))) := ⟨fun a o h n => by
      rw [upd_ne (show a ≠ q from fun e => by rw [e, hq] at h; cases h)]
      exact st2.keep a o h n, fun a h => upd_live (st2.live a h), st2.bsub, st2.msub⟩
    cases el : locV s1 j with
    | stuck => rw [el] at p; exact p.elim
    | exc c fs s2 => exfalso; unfold locV at el; split at el <;> cases el
    | ok y s2 =>
    rw [el] at p
    obtain ⟨rfl, vj, hσ, rj⟩ := locV_ok F1 el
    simp only at p
    cases er : rdat s2 y with
    | none => rw [er] at p; exact p.elim
    | some kd =>
    rw [er] at p
    simp only at p
    unfold pickV at p
    by_cases hk : keyOk kd = true
    · rw [if_pos hk] at p
      obtain ⟨k, hk1, rfl⟩ := key_of hk (rj.data F1 er)
      rcases RPk.val hk1 (acc := []) rk with ⟨pr, v0, e2, e3, rr⟩ | ⟨e2, _⟩
      · rw [e2] at p
        simp only [Option.map_some] at p
        refine ⟨_, hσ, q, v0, rfl, .inl ⟨_, k, .inl upd_same, rfl, e3.symm⟩, ?_⟩
        obtain ⟨pk, r0⟩ := pr
        have up : Kp H1 (upd H1 q (.dK (mergeK [] kws))) (Br fm (fun b => ex b ∨ b = q) s2 σ) (Br fm ex s2 σ) := fun a o n z =>
          ⟨by rw [upd_ne (show a ≠ q from fun e => n (.inr (.inl (.inr e))))]; exact z, fun b => n (Br.more b)⟩
        cases r0 with
        | d x => exact p v0 _ st3 F4 (DR.mono up (show DR G H1 _ x v0 from rr))
        | cell k => exact p v0 _ st3 F4 rr
        | own x =>
          obtain ⟨a, rfl, o1, o2, o3, o4⟩ := rr
          have naq : a ≠ q := fun e => o3 (.inr (.inl (.inr e)))
          refine p (.ref a) _ st3 F4 ⟨a, rfl, o1.mono (fun b o n z => ⟨?_, fun z' => n ?_⟩) (fun o z => by rw [upd_ne naq]; exact z), ?_, fun z => o3 (Br.more z), o4⟩
          · rw [upd_ne (show b ≠ q from fun e => n (.inr (.inl (.inl (.inr e)))))]; exact z
          · rcases z' with z' | (z' | z') | z'
            · exact .inl z'
            · exact .inr (.inl (.inl (.inl z')))
            · exact .inr (.inl (.inr z'))
            · exact .inr (.inr z')
          · exact (o2.updEx (o := .dK (mergeK [] kws)) (.inl (.inr rfl)) (F.fresh0 hq)).less fun b h => h.elim (fun z => .inl (.inl z)) .inr
        | brw i =>
          have rr : σ[i]? = some (some v0) := rr
          simp only at p
          cases eg : s2.get i with
          | own d =>
            rw [eg] at p
            obtain ⟨a, ea, Fm, stm, rm⟩ := F4.move eg
            rw [rr] at ea
            cases ea
            exact p (.ref a) _ (st3.trans stm) Fm rm
          | pub d =>
            rw [eg] at p
            have q0 := F4.slots i
            rw [eg] at q0
            obtain ⟨w, e4, r4⟩ := q0
            rw [rr] at e4
            cases e4
            exact p v0 _ st3 F4 r4
          | _ => rw [eg] at p; exact p.elim
      · rw [e2] at p; exact p.elim
    · rw [if_neg hk] at p; exact p.elim
end
end Py
end SB26
section SB23
set_option autoImplicit false
set_option linter.all false
set_option maxRecDepth 100000
set_option maxHeartbeats 4000000
/-! The evaluator over the hand layer, 23: enumerate and zip of any sequence. -/
namespace Py
open PySem L2 PySem.Spec PyProof.Rows

/-- what an inner iterator walks -/
inductive SrcK where
  | lst (a : Addr) | tup (a : Addr) | str (z : PySem.Str)
def SrcK.J (K : PySem.W.Frag) : SrcK → L2.It
  | .lst a => Itl K a
  | .tup a => Itt K a
  | .str z => Its z
def SrcK.at (k : SrcK) (it : Addr) (i : Nat) (h : Heap) : Prop := match k with
  | .lst a => h.IsListIter it a i
  | .tup a => h.IsTupleIter it a i
  | .str z => ∃ t, h.IsStrIter it (strIterType z) z t i
def SrcK.ad : SrcK → List Addr
  | .lst a => [a]
  | .tup a => [a]
  | .str _ => []

section
variable {X : Cx} {A : Around} {pins : List (Addr × Obj)} {σ : L2.St} {H : Hp} {s : Shared} {k : SrcK} {it : Addr} {i : Nat}
theorem SrcK.at_obj {h : Heap} (st : k.at it i h) : ∃ o, h.get? it = some o ∧ ∀ v, o.data ≠ .cell v := by
  cases k with
  | lst a => obtain ⟨o, ho, hc, hd⟩ := st; exact ⟨o, ho, fun v q => by rw [hd] at q; cases q⟩
  | tup a => obtain ⟨o, ho, hc, hd⟩ := st; exact ⟨o, ho, fun v q => by rw [hd] at q; cases q⟩
  | str z => obtain ⟨t, o, ho, hc, hd⟩ := st; exact ⟨o, ho, fun v q => by rw [hd] at q; cases q⟩
theorem SrcK.at_keep {h h' : Heap} (st : k.at it i h) (kp : ∀ o, h.get? it = some o → h'.get? it = some o) : k.at it i h' := by
  cases k with
  | lst a => exact Heap.IsListIter.at st kp
  | tup a => exact Heap.IsTupleIter.at st kp
  | str z => obtain ⟨t, o, ho, r⟩ := st; exact ⟨t, o, kp o ho, r⟩
theorem SrcK.draws_go (I : Inv X pins σ H s) (hh : A.handled = none) (st : k.at it i s.heap) (hn : it ∉ k.ad) (g : (k.J X.K).go i H) :
    ∃ (n : Nat) (P : Nat → Value → Prop) (St : Nat → Heap → Prop), Draws X.prog X.w A it (it :: k.ad) n P St ∧ St i s.heap ∧ i < n ∧ (∀ j h, St j h → k.at it j h) ∧ ∀ x, P i x → ∃ v, RelV v x ∧ (k.J X.K).yld i H v H := by
  cases k with
  | lst a =>
    obtain ⟨xs, x, hq, hx⟩ := g
    obtain ⟨its, rv, p, hz⟩ := I.list hq
    obtain ⟨u, hu, ru⟩ := rv.get hx
    refine ⟨_, _, _, Draws.list hh it a (fun e => hn (by simp [SrcK.ad, e])) its.toArray, ⟨st, p.isList⟩, ?_, fun j h z => z.1, fun y hy => ⟨x, ?_, rfl, fun ys hys => ?_⟩⟩
    · have := (List.getElem?_eq_some_iff.mp hu).1
      simpa using this
    · have e : y = u := by
        have : its[i]? = some y := by simpa using hy
        rw [hu] at this; cases this; rfl
      rw [e]; exact ru
    · rw [I.list_inj hys hq]; exact hx
  | tup a =>
    obtain ⟨xs, x, hq, hx⟩ := g
    obtain ⟨its, rv, p, hz⟩ := I.tuple hq
    obtain ⟨u, hu, ru⟩ := rv.get hx
    refine ⟨_, _, _, Draws.tuple hh it a (fun e => hn (by simp [SrcK.ad, e])) its.toArray, ⟨st, p⟩, ?_, fun j h z => z.1, fun y hy => ⟨x, ?_, rfl, fun ys hys => ?_⟩⟩
    · have := (List.getElem?_eq_some_iff.mp hu).1
      simpa using this
    · have e : y = u := by
        have : its[i]? = some y := by simpa using hy
        rw [hu] at this; cases this; rfl
      rw [e]; exact ru
    · rw [I.tuple_inj hys hq]; exact hx
  | str z =>
    obtain ⟨t, st⟩ := st
    refine ⟨_, _, _, Draws.text hh it z t, st, g, fun j h z => ⟨t, z⟩, fun y hy => ?_⟩
    obtain ⟨c, u, hc, rfl⟩ := hy
    exact ⟨.str ⟨#[c]⟩, ⟨u, rfl⟩, rfl, c, hc, rfl⟩
theorem SrcK.draws_stop (I : Inv X pins σ H s) (hh : A.handled = none) (st : k.at it i s.heap) (hn : it ∉ k.ad) (g : (k.J X.K).stop i H) :
    ∃ (P : Nat → Value → Prop) (St : Nat → Heap → Prop), Draws X.prog X.w A it (it :: k.ad) i P St ∧ St i s.heap := by
  cases k with
  | lst a =>
    obtain ⟨xs, hq, hx⟩ := g
    obtain ⟨its, rv, p, hz⟩ := I.list hq
    have hl := rv.length
    have he : its.toArray[i]? = none := by simp; omega
    exact ⟨fun _ _ => False, fun j h => j = i ∧ h.IsListIter it a i ∧ h.IsList a its.toArray, {
      live := fun _ _ z => let ⟨o, ho, _⟩ := z.2.1; ⟨o, ho⟩
      frame := fun _ _ _ z hk => ⟨z.1, z.2.1.at fun o e => hk it (by simp) o e, z.2.2.at fun o e => hk a (by simp [SrcK.ad]) o e⟩
      item := fun j s Q E hi z hQ => absurd z.1 (Nat.ne_of_lt hi)
      done := fun s Q E z hE => wpAny_nextOf_list_end hh z.2.1 z.2.2 he hE }, rfl, st, p.isList⟩
  | tup a =>
    obtain ⟨xs, hq, hx⟩ := g
    obtain ⟨its, rv, p, hz⟩ := I.tuple hq
    have hl := rv.length
    have he : its.toArray[i]? = none := by simp; omega
    exact ⟨fun _ _ => False, fun j h => j = i ∧ h.IsTupleIter it a i ∧ h.IsTuple a its.toArray, {
      live := fun _ _ z => let ⟨o, ho, _⟩ := z.2.1; ⟨o, ho⟩
      frame := fun _ _ _ z hk => ⟨z.1, z.2.1.at fun o e => hk it (by simp) o e, z.2.2.at fun o e => hk a (by simp [SrcK.ad]) o e⟩
      item := fun j s Q E hi z hQ => absurd z.1 (Nat.ne_of_lt hi)
      done := fun s Q E z hE => wpAny_nextOf_tuple_end hh z.2.1 z.2.2 he hE }, rfl, st, p⟩
  | str z =>
    obtain ⟨t, st⟩ := st
    have hx : z.cps[i]? = none := Array.getElem?_eq_none g
    refine ⟨fun _ _ => False, fun j h => j = i ∧ h.IsStrIter it (strIterType z) z t i, {
      live := fun _ _ z => let ⟨o, ho, _⟩ := z.2; ⟨o, ho⟩
      frame := fun _ _ _ z hk => ⟨z.1, let ⟨o, ho, r⟩ := z.2; ⟨o, hk it (by simp) o ho, r⟩⟩
      item := fun j s Q E hi z hQ => absurd z.1 (Nat.ne_of_lt hi)
      done := fun s Q E y hE => ?_ }, rfl, st⟩
    have y2 := y.2
    cases ha : z.cps.all (· < 128)
    · simp only [strIterType, ha, Bool.false_eq_true, if_false] at y2
      exact wpAny_nextOf_wide_end hh y2 hx hE
    · simp only [strIterType, ha, if_true] at y2
      exact wpAny_nextOf_ascii_end hh y2 hx hE
end

/-! ### enumerate -/
def ItE (J : L2.It) : L2.It := ⟨J.go, fun i H v H' => ∃ T x, v = .ref T ∧ H T = none ∧ H' = upd H T (.tup [.int (i : Nat), x]) ∧ J.yld i H x H, J.stop⟩
theorem turn_enumG {P : Program} {w : World} {K : PySem.W.Frag} {elts : List Expr} {kk : Nat} {tpos : Pos} (k : SrcK) (e it : Addr) (hne : e ≠ it) (hn : it ∉ k.ad) (hea : e ∉ k.ad) :
    Turn P w K (.Tuple elts kk tpos) (ItE (k.J K)) [e, it] e (fun i h => (∃ old, IsEnum h e it ((i : Nat) : Int) old) ∧ k.at it i h) where
  mem := by simp
  obj := fun i h st b hb => by
    obtain ⟨⟨old, he⟩, st⟩ := st
    have e' : b = e ∨ b = it := by simpa using hb
    rcases e' with z | z
    · rw [z]; exact ⟨_, he, fun v q => nomatch q⟩
    · rw [z]; exact SrcK.at_obj st
  keep := fun i h h' st kp => let ⟨⟨old, he⟩, hi⟩ := st; ⟨⟨old, kp e (by simp) _ he⟩, SrcK.at_keep hi fun o q => kp it (by simp) o q⟩
  item := by
    intro X hP hw hK hc i pins s σ H E I hf st hg
    subst hP hw hK
    obtain ⟨⟨old, he⟩, hit⟩ := st
    obtain ⟨n, Pv, St, D, hst, hlt, hback, hy⟩ := SrcK.draws_go (A := X.A.in1) I (I.ok.hd hc) hit hn hg
    have hel : e < s.heap.objs.size := Heap.lt_size he
    have hil : it < s.heap.objs.size := by obtain ⟨_, q, _⟩ := SrcK.at_obj hit; exact Heap.lt_size q
    refine wpAny_pyNext_enum_itemC D he hst hlt hne (by simp [hne, hea]) fun x h' tk hx ho hst' hT hsz hk => ?_
    obtain ⟨v, ru, hyv⟩ := hy x hx
    have hit' := hback _ _ hst'
    refine ⟨_, rfl, wpAny_letOwnedTupleGo_enum (s := { s with heap := h', toks := tk + 1 }) ho fun h'' he' sb => ?_⟩
    have hT2 : h''.get? s.heap.objs.size = some { cls := .type "tuple", data := .seq #[.int i tk, x] } := (sb.2 _ (Nat.ne_of_gt hel)).trans hT
    have new : ObjOk X.prog X.w (upd H s.heap.objs.size (.tup [.int (i : Nat), v])) h'' s.heap.objs.size (.tup [.int (i : Nat), v]) :=
      ⟨by show 2 ≤ sizeLine; decide, [.int i tk, x], .cons ⟨_, rfl⟩ (.cons ru .nil), ⟨_, hT2, rfl, _, rfl⟩⟩
    have I1 : Inv X pins σ (upd H s.heap.objs.size (.tup [.int (i : Nat), v])) { s with heap := h'', toks := tk + 1 } :=
      I.turnedNew (ch := [e, it]) (fun b ob hb q => (sb.2 b (fun z => hb (by simp [z]))).trans (hk b ob (fun z => hb (by simp [z])) (fun z => hb (by simp [z])) q)) hf (Nat.le_refl _) new
    refine ⟨.ref s.heap.objs.size, _, I1, rfl, ⟨_, v, rfl, I.hok.fresh (Nat.le_refl _), rfl, hyv⟩, ⟨⟨x, ?_⟩, SrcK.at_keep hit' fun o q => (sb.2 it (Ne.symm hne)).trans q⟩, fun b hb => ?_⟩
    · have e1 : ((i + 1 : Nat) : Int) = (i : Int) + 1 := by omega
      rw [e1]; exact he'
    · have hb' : b < s.heap.objs.size := by
        have e' : b = e ∨ b = it := by simpa using hb
        rcases e' with z | z
        · rw [z]; exact hel
        · rw [z]; exact hil
      rw [upd_ne (Nat.ne_of_lt hb')]
      exact (hf b hb).1
  done := by
    intro X hP hw hK hc i pins s σ H E I hf st hg
    subst hP hw hK
    obtain ⟨⟨old, he⟩, hit⟩ := st
    obtain ⟨Pv, St, D, hst⟩ := SrcK.draws_stop (A := X.A.in1) I (I.ok.hd hc) hit hn hg
    obtain ⟨f0, f1, f2, f3, f4, f5⟩ := hf it (by simp)
    exact wpAny_pyNext_enum_endD D he hst fun h' eb => ⟨rfl, I.turned (t' := s.toks) (fun b o hb q => eb b o hb q) f0 f1 f3 f4 f5⟩
  self := fun A i s Q E st h => let ⟨⟨_, he⟩, _⟩ := st; wpAny_pyIter_enum he h

/-! ### zip -/
def ItZ (J1 J2 : L2.It) : L2.It := ⟨fun i H => J1.go i H ∧ J2.go i H, fun i H v H' => ∃ T x y, v = .ref T ∧ H T = none ∧ H' = upd H T (.tup [x, y]) ∧ J1.yld i H x H ∧ J2.yld i H y H,
  fun i H => (J1.stop i H ∧ (J2.go i H ∨ J2.stop i H)) ∨ (J1.go i H ∧ J2.stop i H)⟩
theorem turn_zipG {P : Program} {w : World} {K : PySem.W.Frag} {elts : List Expr} {kk : Nat} {tpos : Pos} (k1 k2 : SrcK) {z TI TO i1 i2 : Addr} (S : ZipSep2 z TI TO i1 i2 (i1 :: k1.ad) (i2 :: k2.ad)) (hn1 : i1 ∉ k1.ad) (hn2 : i2 ∉ k2.ad) :
    Turn P w K (.Tuple elts kk tpos) (ItZ (k1.J K) (k2.J K)) [z, TI, TO, i1, i2] z (fun i h => IsZip h z TI TO .none ∧ IsTupOf2 h TI (.ref i1) (.ref i2) ∧ (∃ x y, IsTupOf2 h TO x y) ∧ k1.at i1 i h ∧ k2.at i2 i h) where
  mem := by simp
  obj := fun i h st c hc => by
    obtain ⟨hz, hTI, ⟨x, y, hTO⟩, h1, h2⟩ := st
    have e' : c = z ∨ c = TI ∨ c = TO ∨ c = i1 ∨ c = i2 := by simpa using hc
    rcases e' with q | q | q | q | q
    · rw [q]; exact ⟨_, hz, fun v q => nomatch q⟩
    · rw [q]; exact ⟨_, hTI, fun v q => nomatch q⟩
    · rw [q]; exact ⟨_, hTO, fun v q => nomatch q⟩
    · rw [q]; exact SrcK.at_obj h1
    · rw [q]; exact SrcK.at_obj h2
  keep := fun i h h' st k => by
    obtain ⟨hz, hTI, ⟨x, y, hTO⟩, h1, h2⟩ := st
    exact ⟨k z (by simp) _ hz, k TI (by simp) _ hTI, ⟨x, y, k TO (by simp) _ hTO⟩, SrcK.at_keep h1 fun o q => k i1 (by simp) o q, SrcK.at_keep h2 fun o q => k i2 (by simp) o q⟩
  item := by
    intro X hP hw hK hc i pins s σ H E I hf st hg
    subst hP hw hK
    obtain ⟨hz, hTI, ⟨x0, y0, hTO⟩, h1, h2⟩ := st
    obtain ⟨n1, P1, St1, D1, st1, lt1, bk1, y1⟩ := SrcK.draws_go (A := X.A.in1) I (I.ok.hd hc) h1 hn1 hg.1
    obtain ⟨n2, P2, St2, D2, st2, lt2, bk2, y2⟩ := SrcK.draws_go (A := X.A.in1) I (I.ok.hd hc) h2 hn2 hg.2
    have hzl : z < s.heap.objs.size := Heap.lt_size hz
    have hl1 : i1 < s.heap.objs.size := by obtain ⟨_, q, _⟩ := SrcK.at_obj h1; exact Heap.lt_size q
    have hl2 : i2 < s.heap.objs.size := by obtain ⟨_, q, _⟩ := SrcK.at_obj h2; exact Heap.lt_size q
    refine wpAny_pyNext_zipD2_item S D1 D2 hz hTI hTO st1 st2 lt1 lt2 fun u u2 h' tk q1 q2 z' TO' s1' s2' hT hsz hk => ?_
    obtain ⟨x, ru, hy1⟩ := y1 u q1
    obtain ⟨y, ru2, hy2⟩ := y2 u2 q2
    have h1' := bk1 _ _ s1'
    have h2' := bk2 _ _ s2'
    refine ⟨_, rfl, wpAny_letOwnedTupleGo_zip (s := { s with heap := h', toks := tk }) z' fun h'' z'' sb => ?_⟩
    have hT2 : h''.get? s.heap.objs.size = some { cls := .type "tuple", data := .seq #[u, u2] } := (sb.2 _ (Nat.ne_of_gt hzl)).trans hT
    have new : ObjOk X.prog X.w (upd H s.heap.objs.size (.tup [x, y])) h'' s.heap.objs.size (.tup [x, y]) :=
      ⟨by show 2 ≤ sizeLine; decide, [u, u2], .cons ru (.cons ru2 .nil), ⟨_, hT2, rfl, _, rfl⟩⟩
    have I1 : Inv X pins σ (upd H s.heap.objs.size (.tup [x, y])) { s with heap := h'', toks := tk } :=
      I.turnedNew (t' := tk) (ch := [z, TI, TO, i1, i2]) (fun c o hb q => (sb.2 c (fun q' => hb (by simp [q']))).trans (hk c o (fun q' => hb (by simp [q'])) (fun q' => hb (by simp [q'])) (fun q' => hb (by simp [q'])) (fun q' => hb (by simp [q'])) q)) hf (Nat.le_refl _) new
    refine ⟨.ref s.heap.objs.size, _, I1, rfl, ⟨_, x, y, rfl, I.hok.fresh (Nat.le_refl _), rfl, hy1, hy2⟩, ⟨z'', ?_, ⟨u, u2, ?_⟩, ?_, ?_⟩, fun c hcm => ?_⟩
    · exact (sb.2 _ S.TIz).trans (hk _ _ S.TIz S.TITO S.TIi1 S.TIi2 hTI)
    · exact (sb.2 _ S.TOz).trans TO'
    · exact SrcK.at_keep h1' fun o q => (sb.2 _ S.zi1.symm).trans q
    · exact SrcK.at_keep h2' fun o q => (sb.2 _ S.zi2.symm).trans q
    · have hlt : c < s.heap.objs.size := by
        have e' : c = z ∨ c = TI ∨ c = TO ∨ c = i1 ∨ c = i2 := by simpa using hcm
        rcases e' with q | q | q | q | q
        · rw [q]; exact hzl
        · rw [q]; exact Heap.lt_size hTI
        · rw [q]; exact Heap.lt_size hTO
        · rw [q]; exact hl1
        · rw [q]; exact hl2
      rw [upd_ne (Nat.ne_of_lt hlt)]
      exact (hf c hcm).1
  done := by
    intro X hP hw hK hc i pins s σ H E I hf st hg
    subst hP hw hK
    obtain ⟨hz, hTI, ⟨x0, y0, hTO⟩, h1, h2⟩ := st
    have fin : ∀ (h' : Heap) (tk : Nat), (∀ c o, c ≠ z → c ≠ TO → c ≠ i1 → c ≠ i2 → s.heap.get? c = some o → h'.get? c = some o) → (none : Option Value) = none ∧ Inv X pins σ H { s with heap := h', toks := tk } := fun h' tk hk =>
      ⟨rfl, I.turnedL (t' := tk) (ch := [z, TI, TO, i1, i2]) (fun c o hb q => hk c o (fun q' => hb (by simp [q'])) (fun q' => hb (by simp [q'])) (fun q' => hb (by simp [q'])) (fun q' => hb (by simp [q'])) q) hf⟩
    rcases hg with ⟨g1, g2 | g2⟩ | ⟨g1, g2⟩
    · obtain ⟨P1, St1, D1, st1⟩ := SrcK.draws_stop (A := X.A.in1) I (I.ok.hd hc) h1 hn1 g1
      obtain ⟨n2, P2, St2, D2, st2, lt2, bk2, y2⟩ := SrcK.draws_go (A := X.A.in1) I (I.ok.hd hc) h2 hn2 g2
      exact wpAny_pyNext_zipD2_end S D1 D2 hz hTI hTO st1 st2 (Nat.le_refl _) (Nat.le_of_lt lt2) (.inl rfl) fin
    · obtain ⟨P1, St1, D1, st1⟩ := SrcK.draws_stop (A := X.A.in1) I (I.ok.hd hc) h1 hn1 g1
      obtain ⟨P2, St2, D2, st2⟩ := SrcK.draws_stop (A := X.A.in1) I (I.ok.hd hc) h2 hn2 g2
      exact wpAny_pyNext_zipD2_end S D1 D2 hz hTI hTO st1 st2 (Nat.le_refl _) (Nat.le_refl _) (.inl rfl) fin
    · obtain ⟨n1, P1, St1, D1, st1, lt1, bk1, y1⟩ := SrcK.draws_go (A := X.A.in1) I (I.ok.hd hc) h1 hn1 g1
      obtain ⟨P2, St2, D2, st2⟩ := SrcK.draws_stop (A := X.A.in1) I (I.ok.hd hc) h2 hn2 g2
      exact wpAny_pyNext_zipD2_end S D1 D2 hz hTI hTO st1 st2 (Nat.le_of_lt lt1) (Nat.le_refl _) (.inr rfl) fin
  self := fun A i s Q E st h => wpAny_pyIter_zip st.1 h
end Py
end SB23
section SB24
set_option autoImplicit false
set_option linter.all false
set_option maxRecDepth 100000
set_option maxHeartbeats 4000000
/-! The evaluator over the hand layer, 24: enumerate and zip as sources. -/
namespace PySem
open Sem (wp)
theorem meets_enumerate_newB1 {v : Value} {o : Obj} {H : Heap → Prop} (B : Begins v o H) :
    Meets (Builtin.«enumerate.__new__» ⟨[.type "enumerate", v], []⟩) (fun _ R s => H s.heap ∧
      R (.ok (.ret (.ref (s.heap.push o).objs.size))) { s with heap := (s.heap.push o).push { cls := .type "enumerate", data := .fields #[.none, .bool false, .ref s.heap.objs.size, rawInt 0, .none, .none] } }) :=
  .of_wp fun prog w A R s h => by
    obtain ⟨hp, g, d, tk, os⟩ := s; obtain ⟨h1, h⟩ := h
    have hsub := sub_enumerate
    have q1 : ∀ {A' : Around} {E : Value → Shared → Prop} {Q : Value → Shared → Prop}, Q (.ref hp.objs.size) ⟨hp.push o, g, d, tk, os⟩ → wpAny (model prog w) A' (pyIter v) Q E ⟨hp, g, d, tk, os⟩ :=
      fun q => B.iter prog w _ _ ⟨hp, g, d, tk, os⟩ _ h1 q
    wp_walk using q1
    refine wpAny_stack_any fun st => wpAny_pure ?_
    split
    · rename_i c _ _ _ _ _
      cases (c == Value.type "enumerate")
      · wp_walk using q1
        exact ⟨_, rfl, h⟩
      · wp_walk using q1
        exact ⟨_, rfl, h⟩
    · wp_walk using q1
      exact ⟨_, rfl, h⟩
section
variable {prog : Program} {w : World} {A : Around} {E : Value → Shared → Prop} {s : Shared}
theorem enum_begins1 {v : Value} {o : Obj} {H : Heap → Prop} {Q : Value → Shared → Prop} (B : Begins v o H) (h1 : H s.heap)
    (h : ∀ h', IsEnum h' (s.heap.objs.size + 1) s.heap.objs.size 0 .none → h'.get? s.heap.objs.size = some o → h'.objs.size = s.heap.objs.size + 2 →
      (∀ b o, s.heap.get? b = some o → h'.get? b = some o) → Q (.ref (s.heap.objs.size + 1)) { s with heap := h' }) :
    wpAny (model prog w) A (call (.type "enumerate") [v]) Q E s := by
  refine callType_new F.called_enumerate (by decide) (F.typeCall_enumerate_1 _) (F.newCall_enumerate_1 _) (fun obj => F.args_object_init_2 obj _) F.entry_enumerate_new
    (meets_enumerate_newB1 B) ⟨h1, ?_⟩
  have hz : (s.heap.push o).objs.size = s.heap.objs.size + 1 := Heap.size_push ..
  show _ ∧ _
  rw [hz]
  have he : IsEnum ((s.heap.push o).push { cls := .type "enumerate", data := .fields #[.none, .bool false, .ref s.heap.objs.size, rawInt 0, .none, .none] }) (s.heap.objs.size + 1) s.heap.objs.size 0 .none := by
    have := Heap.get?_push_size (s.heap.push o) (o := { cls := .type "enumerate", data := .fields #[.none, .bool false, .ref s.heap.objs.size, rawInt 0, .none, .none] }) rfl
    rw [hz] at this; exact this
  exact ⟨⟨_, he, rfl⟩, h _ he (Heap.get?_push_of_some _ (Heap.get?_push_size _ B.free)) (by rw [Heap.size_push, hz]) fun b o x => Heap.get?_push_of_some _ (Heap.get?_push_of_some _ x)⟩
end
end PySem

namespace Py
open PySem L2 PySem.Spec PyProof.Rows
def SrcAt (K : PySem.W.Frag) (H : Hp) (v : V) : SrcK → Prop
  | .lst a => v = .ref a ∧ ∃ xs, SqL K H a xs
  | .tup a => v = .ref a ∧ ∃ xs, SqT K H a xs
  | .str z => v = .str z
section
variable {X : Cx} {pins : List (Addr × Obj)} {σ : L2.St} {H : Hp} {s : Shared} {k : SrcK} {it : Addr} {i : Nat} {v : V} {u : Value}
theorem SrcAt.begins (I : Inv X pins σ H s) (h : SrcAt X.K H v k) (r : RelV v u) :
    ∃ o Hh, Begins u o Hh ∧ Hh s.heap ∧ (∀ (h' : Heap) it, h'.get? it = some o → k.at it 0 h') ∧ ∀ a ∈ k.ad, a < s.heap.objs.size := by
  cases k with
  | lst a =>
    obtain ⟨rfl, xs, hq⟩ := h
    cases r
    obtain ⟨its, rv, p, hz⟩ := I.list hq
    exact ⟨_, _, begins_list a its.toArray, p.isList, fun h' it e => ⟨_, e, rfl, rfl⟩, fun b hb => by rw [show b = a by simpa [SrcK.ad] using hb]; exact p.lt⟩
  | tup a =>
    obtain ⟨rfl, xs, hq⟩ := h
    cases r
    obtain ⟨its, rv, p, hz⟩ := I.tuple hq
    obtain ⟨o, ho, _⟩ := id p
    exact ⟨_, _, begins_tuple a its.toArray, p, fun h' it e => ⟨_, e, rfl, rfl⟩, fun b hb => by rw [show b = a by simpa [SrcK.ad] using hb]; exact Heap.lt_size ho⟩
  | str z =>
    cases (show v = .str z from h)
    obtain ⟨t, rfl⟩ := r
    exact ⟨_, _, begins_text z t, trivial, fun h' it e => ⟨t, _, e, rfl, rfl⟩, fun b hb => by cases hb⟩
end

theorem ne_add {N a b : Nat} (h : a ≠ b) : N + a ≠ N + b := by omega
theorem ne_add0 {N a : Nat} (h : a ≠ 0) : N + a ≠ N := by omega
theorem out_add {N j : Nat} {l : List Nat} (h : ∀ a ∈ l, a < N) : N + j ∉ l := fun z => by have := h _ z; omega
theorem sepN (N : Nat) (l1 l2 : List Nat) (h1 : ∀ a ∈ l1, a < N) (h2 : ∀ a ∈ l2, a < N) : ZipSep2 (N + 4) (N + 2) (N + 3) N (N + 1) (N :: l1) ((N + 1) :: l2) where
  TIz := ne_add (by decide)
  TOz := ne_add (by decide)
  TITO := ne_add (by decide)
  TIi1 := ne_add0 (by decide)
  mem1 := List.mem_cons_self
  zf1 := fun z => (List.mem_cons.mp z).elim (ne_add0 (by decide)) (out_add h1)
  Tf1 := fun z => (List.mem_cons.mp z).elim (ne_add0 (by decide)) (out_add h1)
  TIi2 := ne_add (by decide)
  mem2 := List.mem_cons_self
  zf2 := fun z => (List.mem_cons.mp z).elim (ne_add (by decide)) (out_add h2)
  Tf2 := fun z => (List.mem_cons.mp z).elim (ne_add (by decide)) (out_add h2)
  sep1_2 := fun z => (List.mem_cons.mp z).elim (fun e => ne_add0 (by decide) e.symm) (out_add (j := 0) h2)
  sep2_1 := fun z => (List.mem_cons.mp z).elim (ne_add0 (by decide)) (out_add h1)
def iEnumG (K : PySem.W.Frag) (ta : TA) : TI := fun σ H R => ta σ H fun vs H1 => ∃ v k, vs = [v] ∧ SrcAt K H1 v k ∧ R (ItE (k.J K)) H1
theorem pi_enumG {X : Cx} {e : Expr} {ta : TA} {p pos tpos : Pos} {elts : List Expr} {kk : Nat} (hg : Gl X "enumerate") (hm : X.mg "enumerate" = none) (ha : PA X [e] ta) (hs : starEach [e] X.env = [(false, eval e X.env)]) :
    PI X (.Tuple elts kk tpos) (.Call (.Name "enumerate" p) [e] [] pos) (iEnumG X.K ta) := by
  refine ⟨fun pins s σ H R I h => ?_⟩
  refine Call_ (ld_blt I hg hm boot_enumerate (PyProof.Rows.callWith_type1 (thn (ha.run pos pins s σ H _ I h) fun us s1 ⟨vs, H1, I1, r1, q1⟩ => ?_) hs rfl))
  obtain ⟨v, k, ex, hk, q⟩ := q1
  subst ex
  cases r1 with
  | cons r rr =>
    cases rr
    obtain ⟨o, Hh, B, hh, hat, hlt⟩ := hk.begins I1 r
    refine enum_begins1 B hh fun h' he hit hsz hk => wpAny_pyIter_enum he ?_
    have I2 : Inv X pins σ H1 { s1 with heap := h' } := I1.kept (t' := s1.toks) hk
    have n1 : s1.heap.objs.size ∉ k.ad := fun z => Nat.lt_irrefl _ (hlt _ z)
    have n2 : s1.heap.objs.size + 1 ∉ k.ad := fun z => Nat.not_succ_lt_self (hlt _ z)
    refine ⟨s1.heap.objs.size + 1, [s1.heap.objs.size + 1, s1.heap.objs.size], _, _, H1, rfl, I2, turn_enumG k (s1.heap.objs.size + 1) s1.heap.objs.size (Nat.succ_ne_self _) n1 n2, ⟨⟨.none, he⟩, hat _ _ hit⟩, fun b hb => ?_, q⟩
    have e' : b = s1.heap.objs.size + 1 ∨ b = s1.heap.objs.size := by simpa using hb
    have hle : s1.heap.objs.size ≤ b := by
      rcases e' with z | z
      · rw [z]; exact Nat.le_add_right _ _
      · rw [z]; exact Nat.le_refl _
    exact I1.fpOk hle (I1.hok.fresh hle)
def iZipG (K : PySem.W.Frag) (ta : TA) : TI := fun σ H R => ta σ H fun vs H1 => ∃ v v2 k k2, vs = [v, v2] ∧ SrcAt K H1 v k ∧ SrcAt K H1 v2 k2 ∧ R (ItZ (k.J K) (k2.J K)) H1
theorem pi_zipG {X : Cx} {e e2 : Expr} {ta : TA} {p pos tpos : Pos} {elts : List Expr} {kk : Nat} (hg : Gl X "zip") (hm : X.mg "zip" = none) (ha : PA X [e, e2] ta)
    (hs : starEach [e, e2] X.env = (false, eval e X.env) :: starEach [e2] X.env) (hpl : (backTo pos (starEach [e2] X.env)).any (·.1) = false) :
    PI X (.Tuple elts kk tpos) (.Call (.Name "zip" p) [e, e2] [] pos) (iZipG X.K ta) := by
  refine ⟨fun pins s σ H R I h => ?_⟩
  refine Call_ (ld_blt I hg hm PyProof.Rows.boot_zip (PyProof.Rows.callWith_type1 (thn (ha.run pos pins s σ H _ I h) fun us s1 ⟨vs, H1, I1, r1, q1⟩ => ?_) hs hpl))
  obtain ⟨v, v2, k, k2, ex, hk, hk2, q⟩ := q1
  subst ex
  cases r1 with
  | cons r rr =>
    cases rr with
    | cons r' rr =>
      cases rr
      obtain ⟨o, Hh, B, hh, hat, hlt⟩ := hk.begins I1 r
      obtain ⟨o2, Hh2, B2, hh2, hat2, hlt2⟩ := hk2.begins I1 r'
      refine zip_begins2 B B2 hh hh2 fun h' hz hTI hTO h1 h2 hsz hkp => wpAny_pyIter_zip hz ?_
      have I2 : Inv X pins σ H1 { s1 with heap := h' } := I1.kept (t' := s1.toks) hkp
      have n1 : s1.heap.objs.size ∉ k.ad := fun z => Nat.lt_irrefl _ (hlt _ z)
      have n2 : s1.heap.objs.size + 1 ∉ k2.ad := fun z => Nat.not_succ_lt_self (hlt2 _ z)
      have S : ZipSep2 (s1.heap.objs.size + 4) (s1.heap.objs.size + 2) (s1.heap.objs.size + 3) s1.heap.objs.size (s1.heap.objs.size + 1) (s1.heap.objs.size :: k.ad) ((s1.heap.objs.size + 1) :: k2.ad) := sepN _ _ _ hlt hlt2
      refine ⟨s1.heap.objs.size + 4, [s1.heap.objs.size + 4, s1.heap.objs.size + 2, s1.heap.objs.size + 3, s1.heap.objs.size, s1.heap.objs.size + 1], _, _, H1, rfl, I2, turn_zipG k k2 S n1 n2, ⟨hz, hTI, ⟨_, _, hTO⟩, hat _ _ h1, hat2 _ _ h2⟩, fun c hcm => ?_, q⟩
      have e' : c = s1.heap.objs.size + 4 ∨ c = s1.heap.objs.size + 2 ∨ c = s1.heap.objs.size + 3 ∨ c = s1.heap.objs.size ∨ c = s1.heap.objs.size + 1 := by simpa using hcm
      have hle : s1.heap.objs.size ≤ c := by
        rcases e' with z | z | z | z | z
        · rw [z]; exact Nat.le_add_right _ _
        · rw [z]; exact Nat.le_add_right _ _
        · rw [z]; exact Nat.le_add_right _ _
        · rw [z]; exact Nat.le_refl _
        · rw [z]; exact Nat.le_add_right _ _
      exact I1.fpOk hle (I1.hok.fresh hle)

/-! ### what they walk -/
section
variable {G : Gx} {fc fc' : Fc} {fm fm2 : List Addr} {ex ex2 : Bar} {σ σ2 σ' : L2.St} {s s' s0 s1 s2 : S} {H H1 H2 H' : Hp} {W : WX} {run : Run} {X : Cx} {B1 M1 M2 : Bar} {J J2 : L2.It} {xs ys : List D} {pos p tpos : Pos} {a b : Expr} {a' b' : E} {elts : List Expr} {kk : Nat}
theorem Src.less (h : ∀ a, M2 a → M1 a) (S : Src G H1 B1 M1 J xs) : Src G H1 B1 M2 J xs :=
  ⟨fun i H b => S.go i H fun a o e n => b a o e fun z => n (h a z), fun i H b => S.stop i H fun a o e n => b a o e fun z => n (h a z), fun i H v H' x b => S.yld i H v H' x fun a o e n => b a o e fun z => n (h a z)⟩
theorem enumD_get : ∀ (xs : List D) (k i : Nat), (enumD k xs)[i]? = xs[i]?.map fun x => .tup [.int ((k + i : Nat) : Int), x]
  | [], k, i => by simp [enumD]
  | x :: xs, k, 0 => by simp [enumD]
  | x :: xs, k, i + 1 => by
    simp only [enumD, List.getElem?_cons_succ]
    rw [enumD_get xs (k + 1) i, show k + 1 + i = k + (i + 1) by omega]
theorem enumD_len : ∀ (xs : List D) (k : Nat), (enumD k xs).length = xs.length
  | [], k => rfl
  | x :: xs, k => by simp [enumD, enumD_len xs (k + 1)]
theorem zipD_get : ∀ (xs ys : List D) (i : Nat) (d : D), (zipD xs ys)[i]? = some d → ∃ x y, xs[i]? = some x ∧ ys[i]? = some y ∧ d = .tup [x, y]
  | [], ys, i, d, h => by simp [zipD] at h
  | x :: xs, [], i, d, h => by simp [zipD] at h
  | x :: xs, y :: ys, 0, d, h => by simp [zipD] at h; exact ⟨x, y, rfl, rfl, h.symm⟩
  | x :: xs, y :: ys, i + 1, d, h => by
    simp only [zipD, List.getElem?_cons_succ] at h ⊢
    exact zipD_get xs ys i d h
theorem zipD_len : ∀ (xs ys : List D), (zipD xs ys).length = min xs.length ys.length
  | [], ys => by simp [zipD]
  | x :: xs, [] => by simp [zipD]
  | x :: xs, y :: ys => by simp [zipD, zipD_len xs ys]
theorem src_enum (hm : ∀ a, M1 a → B1 a) (S : Src G H1 B1 M1 J xs) : Src G H1 B1 M1 (ItE J) (enumD 0 xs) := by
  refine ⟨fun i H b hi => S.go i H b (by rw [enumD_len] at hi; exact hi), fun i H b hi => S.stop i H b (by rw [enumD_len] at hi; exact hi), fun i H v H' x b hx y => ?_⟩
  obtain ⟨T, w, rfl, hT, rfl, hy⟩ := y
  rw [enumD_get] at hx
  obtain ⟨x0, h0, rfl⟩ := Option.map_eq_some_iff.mp hx
  refine ⟨.step hT (.refl _), fun B' kp hB => ?_⟩
  have d := (S.yld i H w H x0 b h0 hy).2 B' (fun a o n h => ⟨b a o h fun m => n (hm a m), (kp a o n h).2⟩) hB
  have d' := d.mono (H' := upd H T (.tup [.int (i : Nat), w])) (B' := B') fun a o n h => ⟨upd_keep hT h, n⟩
  exact ⟨T, _, rfl, .inl ⟨fun z => hB T z hT, .inl upd_same⟩, .int (i : Nat), [w], rfl, by rw [Nat.zero_add]; exact rfl, w, [], rfl, d', rfl⟩
theorem src_zip (hm : ∀ a, M1 a → B1 a) (S : Src G H1 B1 M1 J xs) (S2 : Src G H1 B1 M1 J2 ys) : Src G H1 B1 M1 (ItZ J J2) (zipD xs ys) := by
  refine ⟨fun i H b hi => ?_, fun i H b hi => ?_, fun i H v H' x b hx y => ?_⟩
  · rw [zipD_len] at hi
    exact ⟨S.go i H b (by omega), S2.go i H b (by omega)⟩
  · rw [zipD_len] at hi
    by_cases h1 : xs.length ≤ i
    · refine .inl ⟨S.stop i H b h1, ?_⟩
      by_cases h2 : ys.length ≤ i
      · exact .inr (S2.stop i H b h2)
      · exact .inl (S2.go i H b (by omega))
    · exact .inr ⟨S.go i H b (by omega), S2.stop i H b (by omega)⟩
  · obtain ⟨T, w, w2, rfl, hT, rfl, hy, hy2⟩ := y
    obtain ⟨x0, y0, h0, g0, rfl⟩ := zipD_get _ _ _ _ hx
    refine ⟨.step hT (.refl _), fun B' kp hB => ?_⟩
    have kp' : Kp H1 H B1 B' := fun a o n h => ⟨b a o h fun m => n (hm a m), (kp a o n h).2⟩
    have up : Kp H (upd H T (.tup [w, w2])) B' B' := fun a o n h => ⟨upd_keep hT h, n⟩
    exact ⟨T, _, rfl, .inl ⟨fun z => hB T z hT, .inl upd_same⟩, w, [w2], rfl, ((S.yld i H w H x0 b h0 hy).2 B' kp' hB).mono up, w2, [], rfl, ((S2.yld i H w2 H y0 b g0 hy2).2 B' kp' hB).mono up, rfl⟩
theorem mu_sub {l1 l2 : List Nat} (h : ∀ i ∈ l1, i ∈ l2) (a : Addr) : Mu fm (lend s l2) σ a → Mu fm (lend s l1) σ a := by
  rintro (m | ⟨i, m, e⟩)
  · exact .inl m
  · refine .inr ⟨i, ?_, e⟩
    rw [(lend_get _ _).2.2] at m ⊢
    by_cases q : i ∈ l1
    · rw [if_pos (h i q)] at m; rw [if_pos q]; exact m
    · rw [if_neg q]
      split at m
      · revert m; cases s.get i <;> simp [lentOf, muts]
      · exact m
theorem ownIn_mem {i : Nat} : ∀ {l : List Nat}, i ∈ ownIn s l ↔ i ∈ l ∧ ∃ d, s.get i = .own d
  | [] => by simp [ownIn]
  | k :: l => by
    unfold ownIn
    split
    · rename_i d e
      rw [List.mem_cons, List.mem_cons, ownIn_mem (l := l)]
      constructor
      · rintro (h | ⟨h, q⟩)
        · subst h; exact ⟨.inl rfl, d, e⟩
        · exact ⟨.inr h, q⟩
      · rintro ⟨h | h, q⟩
        · exact .inl h
        · exact .inr ⟨h, q⟩
    · rename_i e
      rw [List.mem_cons, ownIn_mem (l := l)]
      constructor
      · rintro ⟨h, q⟩; exact ⟨.inr h, q⟩
      · rintro ⟨h | h, d, q⟩
        · subst h; exact absurd q (e d)
        · exact ⟨h, d, q⟩
theorem srcAt_of {r : RV} {v : V} (F : FR G fc fm ex σ s H) (r1 : RR G fc fm ex σ s H r v) (e : itD s r = some xs) :
    ∃ k, SrcAt G.K H v k ∧ Src G H (Br fm ex s σ) (Mu fm (lend s (ownIn s (brwOf r))) σ) (k.J G.K) xs := by
  rcases src_of F r1 e with ⟨a, ws, h1, h2, h3⟩ | ⟨a, ws, h1, h2, h3⟩ | ⟨z, h1, h3⟩
  · exact ⟨.lst a, ⟨h1, _, h2⟩, h3⟩
  · exact ⟨.tup a, ⟨h1, _, h2⟩, h3⟩
  · exact ⟨.str z, h1, h3⟩
theorem i_enum (hK : X.K = G.K) (hg : Gl X "enumerate") (hm : X.mg "enumerate" = none) (hs : noStar a = true) (ha : PA X [a] (tA G run W [a'])) : PI X (.Tuple elts kk tpos) (.Call (.Name "enumerate" p) [a] [] pos) (tIt G run W (.enum [a'])) := by
  refine PI.imp (pi_enumG hg hm ha (star1 hs [] X.env)) fun σ H R ⟨fc, fm, ex, s, F, q⟩ => ?_
  simp only [evI] at q
  refine ⟨fc, fm, ex, s, F, q.bind.imp fun vs H1 ⟨rs, s1, ee, st1, F1, r1, p1⟩ => ?_⟩
  match rs, r1, p1 with
  | [r], ⟨v, ws, e1, _, rr, e2⟩, p1 =>
    cases e2
    subst e1
    simp only [enI] at p1
    cases e : itD s1 r with
    | none => rw [e] at p1; exact p1.elim
    | some xs =>
      rw [e] at p1
      obtain ⟨k, h1, h2⟩ := srcAt_of F1 rr e
      exact ⟨v, k, rfl, by rw [hK]; exact h1, by rw [hK]; exact p1.ok F1 (src_enum (fun a m => (mu_lend m).br) h2)⟩
  | [], _, p1 => exact p1.elim
  | _ :: _ :: _, _, p1 => exact p1.elim
theorem i_zip (hK : X.K = G.K) (hg : Gl X "zip") (hm : X.mg "zip" = none) (hs : noStar a = true) (hs2 : noStar b = true) (ha : PA X [a, b] (tA G run W [a', b'])) : PI X (.Tuple elts kk tpos) (.Call (.Name "zip" p) [a, b] [] pos) (tIt G run W (.zip [a', b'])) := by
  refine PI.imp (pi_zipG hg hm ha (star1 hs [b] X.env) (by rw [star1 hs2]; rfl)) fun σ H R ⟨fc, fm, ex, s, F, q⟩ => ?_
  simp only [evI] at q
  refine ⟨fc, fm, ex, s, F, q.bind.imp fun vs H1 ⟨rs, s1, ee, st1, F1, r1, p1⟩ => ?_⟩
  match rs, r1, p1 with
  | [r, r'], ⟨v, ws, e1, _, rr, v2, ws2, e2, _, rr2, e3⟩, p1 =>
    cases e3
    subst e2
    subst e1
    simp only [ziI] at p1
    cases e : itD s1 r with
    | none => rw [e] at p1; exact p1.elim
    | some xs =>
      cases e' : itD s1 r' with
      | none => rw [e, e'] at p1; exact p1.elim
      | some ys =>
        rw [e, e'] at p1
        obtain ⟨k, h1, h2⟩ := srcAt_of F1 rr e
        obtain ⟨k2, g1, g2⟩ := srcAt_of F1 rr2 e'
        have sub1 : ∀ i ∈ ownIn s1 (brwOf r), i ∈ ownIn s1 (brwOf r ++ brwOf r') := fun i hi => let ⟨z, w⟩ := ownIn_mem.mp hi; ownIn_mem.mpr ⟨List.mem_append_left _ z, w⟩
        have sub2 : ∀ i ∈ ownIn s1 (brwOf r'), i ∈ ownIn s1 (brwOf r ++ brwOf r') := fun i hi => let ⟨z, w⟩ := ownIn_mem.mp hi; ownIn_mem.mpr ⟨List.mem_append_right _ z, w⟩
        exact ⟨v, v2, k, k2, rfl, by rw [hK]; exact h1, by rw [hK]; exact g1, by rw [hK]; exact p1.ok F1 (src_zip (fun a m => (mu_lend m).br) (h2.less (mu_sub sub1)) (g2.less (mu_sub sub2)))⟩
  | [], _, p1 => exact p1.elim
  | [_], _, p1 => exact p1.elim
  | _ :: _ :: _ :: _, _, p1 => exact p1.elim
end
end Py
end SB24
section SB27
set_option autoImplicit false
set_option linter.all false
set_option maxRecDepth 100000
set_option maxHeartbeats 4000000
/-! The evaluator over the hand layer, 27: zip whose last tuple is still held. -/
namespace PySem
open Sem (wp)
section
variable {prog : Program} {w : World} {A : Around} {E : Value → Shared → Prop} {s : Shared} {z TI TO i1 i2 : Addr} {fp1 fp2 : List Addr} {n1 n2 i : Nat} {P1 P2 : Nat → Value → Prop} {St1 St2 : Nat → Heap → Prop} {a1 a2 f0 : Value} {fl : Bool}
/-- a zip object, its last tuple handed out or not -/
def ZA (h : Heap) (z TI TO : Addr) (f0 : Value) (fl : Bool) : Prop := h.get? z = some { cls := .type "zip", dict := none, data := .fields #[f0, .bool fl, .bool false, .ref TI, .ref TO], slots := #[] }
def Gd (f0 : Value) : Prop := f0 = .none ∨ ∃ T : Nat, f0 = rawInt T
theorem alive_any {a : Addr} {Q : Option Obj → Shared → Prop} (h : Q (s.heap.get? a) s) : wpAny (model prog w) A (loadIfAlive a) Q E s := fun _ _ _ => h
theorem za_free {Q : Bool → Shared → Prop} (hz : ZA s.heap z TI TO f0 fl) (g : Gd f0) (h : ∀ b h' fl', ZA h' z TI TO f0 fl' → Heap.SameBut z s.heap h' → Q b { s with heap := h' }) :
    wpAny (model prog w) A (Builtin.SmallTypes.ownedTupleIsFree (.ref z)) Q E s := by
  have same := h true s.heap fl hz (Heap.SameBut.refl _ _)
  unfold Builtin.SmallTypes.ownedTupleIsFree
  rcases g with rfl | ⟨T, rfl⟩
  · exact wpAny_bind (wpAny_field hz rfl (x := .none) rfl (wpAny_pure same))
  · refine wpAny_bind (wpAny_field hz rfl (x := rawInt T) rfl ?_)
    show wpAny _ _ (loadIfAlive ((T : Int).toNat) >>= _) _ _ _
    refine wpAny_bind (alive_any ?_)
    cases s.heap.get? ((T : Int).toNat) with
    | none => exact wpAny_pure same
    | some o =>
      simp only [Option.isNone_some, Bool.false_eq_true, if_false]
      refine wpAny_bind (wpAny_field hz rfl (x := .bool fl) rfl ?_)
      cases fl with
      | true => exact wpAny_pure (h false s.heap true hz (Heap.SameBut.refl _ _))
      | false => exact wpAny_bind (wpAny_setField_rec hz (by simp) fun g1 k1 m1 => wpAny_pure (h false g1 true k1 m1))
theorem za_item {Q : Value → Shared → Prop} (S : ZipSep2 z TI TO i1 i2 fp1 fp2) (D1 : Draws prog w A i1 fp1 n1 P1 St1) (D2 : Draws prog w A i2 fp2 n2 P2 St2)
    (hz : ZA s.heap z TI TO f0 fl) (gd : Gd f0) (hTI : IsTupOf2 s.heap TI (.ref i1) (.ref i2)) (hTO : IsTupOf2 s.heap TO a1 a2) (st1 : St1 i s.heap) (st2 : St2 i s.heap) (hlt1 : i < n1) (hlt2 : i < n2)
    (hQ : ∀ x1 x2 h' tk, P1 i x1 → P2 i x2 → (∃ f0 fl, Gd f0 ∧ ZA h' z TI TO f0 fl) → (∃ b1 b2, IsTupOf2 h' TO b1 b2) → St1 (i + 1) h' → St2 (i + 1) h' → IsTupOf2 h' s.heap.objs.size x1 x2 → h'.objs.size = s.heap.objs.size + 1 →
      (∀ c o, c ≠ z → c ≠ TO → c ≠ i1 → c ≠ i2 → s.heap.get? c = some o → h'.get? c = some o) → Q (.ref s.heap.objs.size) { s with heap := h', toks := tk }) :
    wpAny (model prog w) A (Builtin.«zip.__next__» ⟨[.ref z], []⟩) (fun fin s' => ∃ v, fin = .done (.ret v) ∧ Q v s') E s := by
  obtain ⟨hp, g, d, tk0, os⟩ := s
  show wpAny _ _ (field (.ref z) 2 >>= _) _ _ _
  refine wpAny_bind (wpAny_field hz rfl (x := .bool false) rfl ?_)
  show wpAny _ _ (field (.ref z) 3 >>= _) _ _ _
  refine wpAny_bind (wpAny_field hz rfl (x := .ref TI) rfl (wpAny_bind (wpAny_seqItems hTI rfl ?_)))
  show wpAny _ _ (Builtin.SmallTypes.ownedTupleIsFree (.ref z) >>= _) _ _ _
  refine wpAny_bind (za_free hz gd fun b e0 fl' z0 m0 => ?_)
  replace m0 : Heap.SameBut z hp e0 := m0
  have kTO : IsTupOf2 e0 TO a1 a2 := m0.extBut _ _ S.TOz hTO
  have s10 : St1 i e0 := D1.over st1 m0 S.zf1
  have s20 : St2 i e0 := D2.over st2 m0 S.zf2
  have fin : ∀ (h' : Heap) (tk : Nat) (x1 x2 : Value), P1 i x1 → P2 i x2 → (∃ f0 fl, Gd f0 ∧ ZA h' z TI TO f0 fl) → (∃ b1 b2, IsTupOf2 h' TO b1 b2) → St1 (i + 1) h' → St2 (i + 1) h' → IsTupOf2 h' hp.objs.size x1 x2 → h'.objs.size = hp.objs.size + 1 →
      (∀ c o, c ≠ z → c ≠ TO → c ≠ i1 → c ≠ i2 → hp.get? c = some o → h'.get? c = some o) → Q (.ref hp.objs.size) ⟨h', g, d, tk, os⟩ := fun h' tk x1 x2 q1 q2 q3 q4 q5 q6 q7 q8 q9 => hQ x1 x2 h' tk q1 q2 q3 q4 q5 q6 q7 q8 q9
  have zTO : z ≠ TO := S.TOz.symm
  cases b with
  | true =>
    simp only [if_true]
    refine wpAny_bind (wpAny_rule (wpAny_bind (wpAny_field z0 rfl (x := .ref TO) rfl (wpAny_bind (wpAny_setField_rec z0 (by simp) fun e1 z1 m1 => ?_)))))
    replace z1 : ZA e1 z TI TO .ellipsis fl' := z1
    replace m1 : Heap.SameBut z e0 e1 := m1
    refine wpAny_bind ?_
    simp only [List.zipIdx_cons, List.zipIdx_nil, List.forIn_cons, List.forIn_nil]
    refine wpAny_bind (wpAny_bind (wpAny_onRaise ?_))
    show wpAny _ _ (Builtin.SmallTypes.nextOf (.ref i1) >>= _) _ _ ⟨e1, g, d, tk0, os⟩
    refine wpAny_bind (D1.item i _ _ _ hlt1 (D1.over s10 m1 S.zf1) fun x1 e2 t1 q1 s12 m2 => wpAny_pure ?_)
    replace m2 : Heap.SameBut i1 e1 e2 := m2
    have u2 : IsTupOf2 e2 TO a1 a2 := m2.extBut _ _ S.Ti1 (m1.extBut _ _ S.TOz kTO)
    refine wpAny_bind (wpAny_seqItems (s := ⟨e2, g, d, t1, os⟩) u2 rfl (wpAny_bind (updateSeq_IsTupOf2 (s := ⟨e2, g, d, t1, os⟩) u2 fun e3 u3 m3 => ?_)))
    replace u3 : IsTupOf2 e3 TO x1 a2 := u3
    replace m3 : Heap.SameBut TO e2 e3 := m3
    refine wpAny_bind (wpAny_letGo (wpAny_pure (wpAny_bind (wpAny_bind (wpAny_onRaise ?_)))))
    show wpAny _ _ (Builtin.SmallTypes.nextOf (.ref i2) >>= _) _ _ ⟨e3, g, d, t1, os⟩
    refine wpAny_bind (D2.item i _ _ _ hlt2 (D2.over (D2.over (D2.over s20 m1 S.zf2) m2 S.sep1_2) m3 S.Tf2) fun x2 e4 t2 q2 s24 m4 => wpAny_pure ?_)
    replace m4 : Heap.SameBut i2 e3 e4 := m4
    have u4 : IsTupOf2 e4 TO x1 a2 := m4.extBut _ _ S.Ti2 u3
    refine wpAny_bind (wpAny_seqItems (s := ⟨e4, g, d, t2, os⟩) u4 rfl (wpAny_bind (updateSeq_IsTupOf2 (s := ⟨e4, g, d, t2, os⟩) u4 fun e5 u5 m5 => ?_)))
    replace u5 : IsTupOf2 e5 TO x1 x2 := u5
    replace m5 : Heap.SameBut TO e4 e5 := m5
    refine wpAny_bind (wpAny_letGo (wpAny_pure (wpAny_pure ?_)))
    refine wpAny_bind (wpAny_seqItems (s := ⟨e5, g, d, t2, os⟩) u5 rfl (wpAny_bind (wpAny_newTuple ?_)))
    have sz : e5.objs.size = hp.objs.size := by rw [m5.1, m4.1, m3.1, m2.1, m1.1, m0.1]
    have z5 : ZA e5 z TI TO .ellipsis fl' := m5.extBut _ _ zTO (m4.extBut _ _ S.zi2 (m3.extBut _ _ zTO (m2.extBut _ _ S.zi1 z1)))
    have k5 : ∀ c o, c ≠ z → c ≠ TO → c ≠ i1 → c ≠ i2 → hp.get? c = some o → e5.get? c = some o := fun c o cz cT c1 c2 e =>
      m5.extBut _ _ cT (m4.extBut _ _ c2 (m3.extBut _ _ cT (m2.extBut _ _ c1 (m1.extBut _ _ cz (m0.extBut _ _ cz e)))))
    have s15 : St1 (i + 1) e5 := D1.over (D1.over (D1.over s12 m3 S.Tf1) m4 S.sep2_1) m5 S.Tf1
    have s25 : St2 (i + 1) e5 := D2.over s24 m5 S.Tf2
    have zl : z < e5.objs.size := Heap.lt_size z5
    show wpAny _ _ (Builtin.SmallTypes.ownedTupleHandOut (.ref z) (.ref e5.objs.size) >>= _) _ _ ⟨e5.push { cls := .type "tuple", data := .seq #[x1, x2] }, g, d, t2, os⟩
    refine wpAny_bind ?_
    unfold Builtin.SmallTypes.ownedTupleHandOut
    have z6 : ZA (e5.push { cls := .type "tuple", data := .seq #[x1, x2] }) z TI TO .ellipsis fl' := Heap.get?_push_of_some _ z5
    refine wpAny_bind (wpAny_setField_rec z6 (by simp) fun e7 z7 m7 => wpAny_setField_rec z7 (by simp) fun e8 z8 m8 => ?_)
    replace z8 : ZA e8 z TI TO (rawInt e5.objs.size) false := z8
    replace m7 : Heap.SameBut z (e5.push { cls := .type "tuple", data := .seq #[x1, x2] }) e7 := m7
    replace m8 : Heap.SameBut z e7 e8 := m8
    have up : ∀ c o, c ≠ z → e5.get? c = some o → e8.get? c = some o := fun c o c1 e => m8.extBut _ _ c1 (m7.extBut _ _ c1 (Heap.get?_push_of_some _ e))
    have hT8 : IsTupOf2 e8 e5.objs.size x1 x2 := m8.extBut _ _ (Nat.ne_of_gt zl) (m7.extBut _ _ (Nat.ne_of_gt zl) (Heap.get?_push_size _ rfl))
    have sz8 : e8.objs.size = e5.objs.size + 1 := by rw [m8.1, m7.1, Heap.size_push]
    refine wpAny_pure ⟨_, rfl, ?_⟩
    show Q (.ref e5.objs.size) ⟨e8, g, d, t2, os⟩
    rw [sz] at hT8 sz8 ⊢
    exact fin e8 t2 x1 x2 q1 q2 ⟨_, _, .inr ⟨_, rfl⟩, z8⟩ ⟨_, _, up _ _ S.TOz u5⟩ (D1.frame _ _ _ s15 fun b hb o e => up b o (fun q => S.zf1 (q ▸ hb)) e) (D2.frame _ _ _ s25 fun b hb o e => up b o (fun q => S.zf2 (q ▸ hb)) e) hT8 sz8
      fun c o cz cT c1 c2 e => up c o cz (k5 c o cz cT c1 c2 e)
  | false =>
    simp only [Bool.false_eq_true, if_false]
    refine wpAny_bind ?_
    rw [← Array.forIn_toList]
    simp only [List.forIn_cons, List.forIn_nil]
    refine wpAny_bind (wpAny_bind (wpAny_holding ?_))
    show wpAny _ _ (Builtin.SmallTypes.nextOf (.ref i1) >>= _) _ _ ⟨e0, g, d, tk0, os⟩
    refine wpAny_bind (D1.item i _ _ _ hlt1 s10 fun x1 e2 t1 q1 s12 m2 => wpAny_pure (wpAny_pure ?_))
    replace m2 : Heap.SameBut i1 e0 e2 := m2
    refine wpAny_bind (wpAny_bind (wpAny_holding ?_))
    show wpAny _ _ (Builtin.SmallTypes.nextOf (.ref i2) >>= _) _ _ ⟨e2, g, d, t1, os⟩
    refine wpAny_bind (D2.item i _ _ _ hlt2 (D2.over s20 m2 S.sep1_2) fun x2 e4 t2 q2 s24 m4 => wpAny_pure (wpAny_pure (wpAny_pure ?_)))
    replace m4 : Heap.SameBut i2 e2 e4 := m4
    show wpAny _ _ (newTuple [x1, x2] >>= _) _ _ ⟨e4, g, d, t2, os⟩
    refine wpAny_bind (wpAny_newTuple (wpAny_pure ⟨_, rfl, ?_⟩))
    show Q (.ref e4.objs.size) ⟨e4.push { cls := .type "tuple", data := .seq #[x1, x2] }, g, d, t2, os⟩
    have sz : e4.objs.size = hp.objs.size := by rw [m4.1, m2.1, m0.1]
    have z4 : ZA e4 z TI TO f0 fl' := m4.extBut _ _ S.zi2 (m2.extBut _ _ S.zi1 z0)
    have up : ∀ c o, e4.get? c = some o → (e4.push { cls := .type "tuple", data := .seq #[x1, x2] }).get? c = some o := fun c o e => Heap.get?_push_of_some _ e
    have hT8 : IsTupOf2 (e4.push { cls := .type "tuple", data := .seq #[x1, x2] }) e4.objs.size x1 x2 := Heap.get?_push_size _ rfl
    have sz8 : (e4.push { cls := .type "tuple", data := .seq #[x1, x2] }).objs.size = e4.objs.size + 1 := Heap.size_push ..
    rw [sz] at hT8 sz8 ⊢
    exact fin _ t2 x1 x2 q1 q2 ⟨_, _, gd, up _ _ z4⟩ ⟨_, _, up _ _ (m4.extBut _ _ S.Ti2 (m2.extBut _ _ S.Ti1 kTO))⟩ (D1.frame _ _ _ (D1.over s12 m4 S.sep2_1) fun b hb o e => up b o e) (D2.frame _ _ _ s24 fun b hb o e => up b o e) hT8 sz8
      fun c o cz cT c1 c2 e => up c o (m4.extBut _ _ c2 (m2.extBut _ _ c1 (m0.extBut _ _ cz e)))
theorem za_end {Q : Fin → Shared → Prop} (S : ZipSep2 z TI TO i1 i2 fp1 fp2) (D1 : Draws prog w A i1 fp1 n1 P1 St1) (D2 : Draws prog w A i2 fp2 n2 P2 St2)
    (hz : ZA s.heap z TI TO f0 fl) (gd : Gd f0) (hTI : IsTupOf2 s.heap TI (.ref i1) (.ref i2)) (hTO : IsTupOf2 s.heap TO a1 a2) (st1 : St1 i s.heap) (st2 : St2 i s.heap) (hle1 : i ≤ n1) (hle2 : i ≤ n2) (hend : i = n1 ∨ i = n2)
    (hE : ∀ h' tk e, (∀ c o, c ≠ z → c ≠ TO → c ≠ i1 → c ≠ i2 → s.heap.get? c = some o → h'.get? c = some o) → (∃ o, h'.get? e = some o ∧ o.cls = .type "StopIteration") → E (.ref e) { s with heap := h', toks := tk }) :
    wpAny (model prog w) A (Builtin.«zip.__next__» ⟨[.ref z], []⟩) Q E s := by
  obtain ⟨hp, g, d, tk0, os⟩ := s
  show wpAny _ _ (field (.ref z) 2 >>= _) _ _ _
  refine wpAny_bind (wpAny_field hz rfl (x := .bool false) rfl ?_)
  show wpAny _ _ (field (.ref z) 3 >>= _) _ _ _
  refine wpAny_bind (wpAny_field hz rfl (x := .ref TI) rfl (wpAny_bind (wpAny_seqItems hTI rfl ?_)))
  show wpAny _ _ (Builtin.SmallTypes.ownedTupleIsFree (.ref z) >>= _) _ _ _
  refine wpAny_bind (za_free hz gd fun b e0 fl' z0 m0 => ?_)
  replace m0 : Heap.SameBut z hp e0 := m0
  have kTO : IsTupOf2 e0 TO a1 a2 := m0.extBut _ _ S.TOz hTO
  have s10 : St1 i e0 := D1.over st1 m0 S.zf1
  have s20 : St2 i e0 := D2.over st2 m0 S.zf2
  have zTO : z ≠ TO := S.TOz.symm
  cases b with
  | true =>
    simp only [if_true]
    refine wpAny_bind (wpAny_rule (wpAny_bind (wpAny_field z0 rfl (x := .ref TO) rfl (wpAny_bind (wpAny_setField_rec z0 (by simp) fun e1 z1 m1 => ?_)))))
    replace z1 : ZA e1 z TI TO .ellipsis fl' := z1
    replace m1 : Heap.SameBut z e0 e1 := m1
    have back : ∀ (t : Nat) (e5 : Heap) (e : Addr), ZA e5 z TI TO .ellipsis fl' → (∃ o, e5.get? e = some o ∧ o.cls = .type "StopIteration") → (∀ c o, c ≠ z → c ≠ TO → c ≠ i1 → c ≠ i2 → hp.get? c = some o → e5.get? c = some o) →
        wpAny (model prog w) A (setField (.ref z) 0 .none) (fun _ s' => E (.ref e) s') E ⟨e5, g, d, t, os⟩ := fun t e5 e z5 he k5 => by
      obtain ⟨oe, hoe, hce⟩ := he
      have ne : e ≠ z := fun x => by
        subst x
        rw [show e5.get? e = _ from z5] at hoe
        cases hoe
        simp at hce
      refine wpAny_setField_rec (s := ⟨e5, g, d, t, os⟩) z5 (by simp) fun e6 _ m6 => ?_
      replace m6 : Heap.SameBut z e5 e6 := m6
      exact hE e6 t e (fun c o cz cT c1 c2 x => m6.extBut _ _ cz (k5 c o cz cT c1 c2 x)) ⟨oe, m6.extBut _ _ ne hoe, hce⟩
    refine wpAny_bind ?_
    simp only [List.zipIdx_cons, List.zipIdx_nil, List.forIn_cons, List.forIn_nil]
    refine wpAny_bind (wpAny_bind (wpAny_onRaise ?_))
    show wpAny _ _ (Builtin.SmallTypes.nextOf (.ref i1) >>= _) _ _ ⟨e1, g, d, tk0, os⟩
    by_cases hlt1 : i < n1
    · refine wpAny_bind (D1.item i _ _ _ hlt1 (D1.over s10 m1 S.zf1) fun x1 e2 t1 q1 s12 m2 => wpAny_pure ?_)
      replace m2 : Heap.SameBut i1 e1 e2 := m2
      have u2 : IsTupOf2 e2 TO a1 a2 := m2.extBut _ _ S.Ti1 (m1.extBut _ _ S.TOz kTO)
      refine wpAny_bind (wpAny_seqItems (s := ⟨e2, g, d, t1, os⟩) u2 rfl (wpAny_bind (updateSeq_IsTupOf2 (s := ⟨e2, g, d, t1, os⟩) u2 fun e3 u3 m3 => ?_)))
      replace u3 : IsTupOf2 e3 TO x1 a2 := u3
      replace m3 : Heap.SameBut TO e2 e3 := m3
      have hi2 : i = n2 := by omega
      refine wpAny_bind (wpAny_letGo (wpAny_pure (wpAny_bind (wpAny_bind (wpAny_onRaise ?_)))))
      show wpAny _ _ (Builtin.SmallTypes.nextOf (.ref i2) >>= _) _ _ ⟨e3, g, d, t1, os⟩
      refine wpAny_bind (D2.done ⟨e3, g, d, t1, os⟩ _ _ (by rw [← hi2]; exact (D2.over (D2.over (D2.over s20 m1 S.zf2) m2 S.sep1_2) m3 S.Tf2)) fun e4 e m4 he => ?_)
      replace m4 : Heap.ExtBut i2 e3 e4 := m4
      exact back t1 e4 e (m4 _ _ S.zi2 (m3.extBut _ _ zTO (m2.extBut _ _ S.zi1 z1))) he fun c o cz cT c1 c2 x => m4 _ _ c2 (m3.extBut _ _ cT (m2.extBut _ _ c1 (m1.extBut _ _ cz (m0.extBut _ _ cz x))))
    · have hi1 : i = n1 := by omega
      refine wpAny_bind (D1.done ⟨e1, g, d, tk0, os⟩ _ _ (by rw [← hi1]; exact (D1.over s10 m1 S.zf1)) fun e4 e m4 he => ?_)
      replace m4 : Heap.ExtBut i1 e1 e4 := m4
      exact back tk0 e4 e (m4 _ _ S.zi1 z1) he fun c o cz cT c1 c2 x => m4 _ _ c1 (m1.extBut _ _ cz (m0.extBut _ _ cz x))
  | false =>
    simp only [Bool.false_eq_true, if_false]
    refine wpAny_bind ?_
    rw [← Array.forIn_toList]
    simp only [List.forIn_cons, List.forIn_nil]
    refine wpAny_bind (wpAny_bind (wpAny_holding ?_))
    show wpAny _ _ (Builtin.SmallTypes.nextOf (.ref i1) >>= _) _ _ ⟨e0, g, d, tk0, os⟩
    by_cases hlt1 : i < n1
    · refine wpAny_bind (D1.item i _ _ _ hlt1 s10 fun x1 e2 t1 q1 s12 m2 => wpAny_pure (wpAny_pure ?_))
      replace m2 : Heap.SameBut i1 e0 e2 := m2
      have hi2 : i = n2 := by omega
      refine wpAny_bind (wpAny_bind (wpAny_holding ?_))
      show wpAny _ _ (Builtin.SmallTypes.nextOf (.ref i2) >>= _) _ _ ⟨e2, g, d, t1, os⟩
      refine wpAny_bind (D2.done ⟨e2, g, d, t1, os⟩ _ _ (by rw [← hi2]; exact (D2.over s20 m2 S.sep1_2)) fun e4 e m4 he => ?_)
      replace m4 : Heap.ExtBut i2 e2 e4 := m4
      exact hE e4 t1 e (fun c o cz cT c1 c2 x => m4 _ _ c2 (m2.extBut _ _ c1 (m0.extBut _ _ cz x))) he
    · have hi1 : i = n1 := by omega
      refine wpAny_bind (D1.done ⟨e0, g, d, tk0, os⟩ _ _ (by rw [← hi1]; exact s10) fun e4 e m4 he => ?_)
      replace m4 : Heap.ExtBut i1 e0 e4 := m4
      exact hE e4 tk0 e (fun c o cz cT c1 c2 x => m4 _ _ c1 (m0.extBut _ _ cz x)) he
end
end PySem
end SB27
section SB28
set_option autoImplicit false
set_option linter.all false
set_option maxRecDepth 100000
set_option maxHeartbeats 4000000
/-! The evaluator over the hand layer, 28: enumerate of a zip. -/
namespace PySem
open Sem (wp)
section
variable {prog : Program} {w : World} {A : Around} {E : Value → Shared → Prop} {s : Shared} {e z TI TO i1 i2 : Addr} {fp1 fp2 : List Addr} {n1 n2 i : Nat} {c : Int} {P1 P2 : Nat → Value → Prop} {St1 St2 : Nat → Heap → Prop} {a1 a2 f0 old : Value} {fl : Bool}
theorem za_type (hz : ZA s.heap z TI TO f0 fl) : s.TypeIs (.ref z) "zip" := ⟨_, hz, rfl⟩
theorem nz_item {Q : Value → Shared → Prop} (S : ZipSep2 z TI TO i1 i2 fp1 fp2) (D1 : Draws prog w A.in1 i1 fp1 n1 P1 St1) (D2 : Draws prog w A.in1 i2 fp2 n2 P2 St2)
    (hz : ZA s.heap z TI TO f0 fl) (gd : Gd f0) (hTI : IsTupOf2 s.heap TI (.ref i1) (.ref i2)) (hTO : IsTupOf2 s.heap TO a1 a2) (st1 : St1 i s.heap) (st2 : St2 i s.heap) (hlt1 : i < n1) (hlt2 : i < n2)
    (hQ : ∀ x1 x2 h' tk, P1 i x1 → P2 i x2 → (∃ f0 fl, Gd f0 ∧ ZA h' z TI TO f0 fl) → (∃ b1 b2, IsTupOf2 h' TO b1 b2) → St1 (i + 1) h' → St2 (i + 1) h' → IsTupOf2 h' s.heap.objs.size x1 x2 → h'.objs.size = s.heap.objs.size + 1 →
      (∀ c o, c ≠ z → c ≠ TO → c ≠ i1 → c ≠ i2 → s.heap.get? c = some o → h'.get? c = some o) → Q (.ref s.heap.objs.size) { s with heap := h', toks := tk }) :
    wpAny (model prog w) A (Builtin.SmallTypes.nextOf (.ref z)) Q E s := by
  unfold Builtin.SmallTypes.nextOf
  exact wpAny_bind (wpAny_callSpecial?_slot (name := Str.ofString "__next__") (za_type hz) F.slot_zip_next (wpAny_call_entry F.slot_zip_next (za_type hz) F.entry_zip_next
    (za_item S D1 D2 hz gd hTI hTO st1 st2 hlt1 hlt2 fun x1 x2 h' tk y1 y2 b1 b2 d1 d2 b5 b6 b7 => wpAny_pure (hQ x1 x2 h' tk y1 y2 b1 b2 d1 d2 b5 b6 b7)) (F.args_zip_next_1 _)))
theorem ez_item {Q : Option Value → Shared → Prop} (S : ZipSep2 z TI TO i1 i2 fp1 fp2) (D1 : Draws prog w A.in1.in1 i1 fp1 n1 P1 St1) (D2 : Draws prog w A.in1.in1 i2 fp2 n2 P2 St2) (he : IsEnum s.heap e z c old)
    (ez : e ≠ z) (eT : e ≠ TO) (e1 : e ≠ i1) (e2 : e ≠ i2)
    (hz : ZA s.heap z TI TO f0 fl) (gd : Gd f0) (hTI : IsTupOf2 s.heap TI (.ref i1) (.ref i2)) (hTO : IsTupOf2 s.heap TO a1 a2) (st1 : St1 i s.heap) (st2 : St2 i s.heap) (hlt1 : i < n1) (hlt2 : i < n2)
    (hQ : ∀ x1 x2 p h' tk, P1 i x1 → P2 i x2 → (∃ f0 fl, Gd f0 ∧ ZA p z TI TO f0 fl) → (∃ b1 b2, IsTupOf2 p TO b1 b2) → St1 (i + 1) p → St2 (i + 1) p → IsTupOf2 p s.heap.objs.size x1 x2 → p.objs.size = s.heap.objs.size + 1 →
      (∀ c o, c ≠ z → c ≠ TO → c ≠ i1 → c ≠ i2 → s.heap.get? c = some o → p.get? c = some o) → IsEnumOut h' e z (c + 1) (.ref s.heap.objs.size) p.objs.size → (∀ b o, b ≠ e → p.get? b = some o → h'.get? b = some o) →
      h'.get? p.objs.size = some { cls := .type "tuple", data := .seq #[.int c tk, .ref s.heap.objs.size] } → Q (some (.ref p.objs.size)) { s with heap := h', toks := tk + 1 }) :
    wpAny (model prog w) A (pyNext (.ref e)) Q E s := by
  have hT : s.TypeIs (.ref e) "enumerate" := ⟨_, he, rfl⟩
  unfold pyNext
  refine wpAny_bind (wpAny_attempt (wpAny_callSpecial?_slot (name := Str.ofString "__next__") hT F.slot_enumerate_next (wpAny_call_entry F.slot_enumerate_next hT F.entry_enumerate_next ?_ (F.args_enumerate_next_1 _))))
  obtain ⟨hp, g, d, tk0, os⟩ := s
  show wpAny _ _ (field (.ref e) 2 >>= _) _ _ _
  refine wpAny_bind (wpAny_field he rfl (x := .ref z) rfl ?_)
  refine wpAny_bind (nz_item S D1 D2 hz gd hTI hTO st1 st2 hlt1 hlt2 fun x1 x2 p tk q1 q2 q3 q4 q5 q6 q7 q8 q9 => ?_)
  replace q9 : ∀ c o, c ≠ z → c ≠ TO → c ≠ i1 → c ≠ i2 → hp.get? c = some o → p.get? c = some o := q9
  have g1 : IsEnum p e z c old := q9 _ _ ez eT e1 e2 he
  show wpAny _ _ (field (.ref e) 3 >>= _) _ _ ⟨p, g, d, tk, os⟩
  refine wpAny_bind (wpAny_field g1 rfl (x := rawInt c) rfl ?_)
  show wpAny _ _ (field (.ref e) 4 >>= _) _ _ ⟨p, g, d, tk, os⟩
  refine wpAny_bind (wpAny_field g1 rfl (x := .none) rfl ?_)
  show wpAny _ _ (mkInt c >>= _) _ _ ⟨p, g, d, tk, os⟩
  refine wpAny_bind (wpAny_mkInt (wpAny_bind (wpAny_setField_rec g1 (by simp) fun p2 g2 m2 => wpAny_bind (wpAny_setField_rec g2 (by simp) fun p3 g3 m3 => ?_))))
  replace m2 : Heap.SameBut e p p2 := m2
  replace m3 : Heap.SameBut e p2 p3 := m3
  replace g3 : IsEnum p3 e z (c + 1) old := g3
  show wpAny _ _ (newTuple [.int c tk, .ref hp.objs.size] >>= _) _ _ ⟨p3, g, d, tk + 1, os⟩
  refine wpAny_bind (wpAny_newTuple ?_)
  have g4 : IsEnum (p3.push { cls := .type "tuple", data := .seq #[.int c tk, .ref hp.objs.size] }) e z (c + 1) old := Heap.get?_push_of_some _ g3
  have sz : p3.objs.size = p.objs.size := by rw [m3.1, m2.1]
  have el : e < p.objs.size := Heap.lt_size g1
  have t4 : (p3.push { cls := .type "tuple", data := .seq #[.int c tk, .ref hp.objs.size] }).get? p.objs.size = some { cls := .type "tuple", data := .seq #[.int c tk, .ref hp.objs.size] } := by rw [← sz]; exact Heap.get?_push_size _ rfl
  have k4 : ∀ b o, b ≠ e → p.get? b = some o → (p3.push { cls := .type "tuple", data := .seq #[.int c tk, .ref hp.objs.size] }).get? b = some o := fun b o hb x => Heap.get?_push_of_some _ (m3.extBut b o hb (m2.extBut b o hb x))
  show wpAny _ _ (Builtin.SmallTypes.ownedTupleIsFree (.ref e) >>= _) _ _ ⟨p3.push { cls := .type "tuple", data := .seq #[.int c tk, .ref hp.objs.size] }, g, d, tk + 1, os⟩
  rw [sz]
  generalize p3.push { cls := .type "tuple", data := .seq #[.int c tk, .ref hp.objs.size] } = p4 at g4 t4 k4 ⊢
  refine wpAny_bind ?_
  unfold Builtin.SmallTypes.ownedTupleIsFree
  refine wpAny_bind (wpAny_field g4 rfl (x := .none) rfl (wpAny_pure ?_))
  simp only [if_true]
  refine wpAny_bind (wpAny_rule (wpAny_bind (wpAny_field g4 rfl (x := old) rfl (wpAny_bind (wpAny_setField_rec g4 (by simp) fun p5 g5 m5 => ?_)))))
  replace m5 : Heap.SameBut e p4 p5 := m5
  replace g5 : IsEnum p5 e z (c + 1) (.ref hp.objs.size) := g5
  show wpAny _ _ (Builtin.SmallTypes.ownedTupleHandOut (.ref e) (.ref p.objs.size) >>= _) _ _ ⟨p5, g, d, tk + 1, os⟩
  refine wpAny_bind ?_
  unfold Builtin.SmallTypes.ownedTupleHandOut
  refine wpAny_bind (wpAny_setField_rec g5 (by simp) fun p6 g6 m6 => wpAny_setField_rec g6 (by simp) fun p7 g7 m7 => ?_)
  replace m6 : Heap.SameBut e p5 p6 := m6
  replace m7 : Heap.SameBut e p6 p7 := m7
  replace g7 : IsEnumOut p7 e z (c + 1) (.ref hp.objs.size) p.objs.size := g7
  have up : ∀ b o, b ≠ e → p4.get? b = some o → p7.get? b = some o := fun b o hb x => m7.extBut b o hb (m6.extBut b o hb (m5.extBut b o hb x))
  exact wpAny_bind (wpAny_letGo (wpAny_pure ⟨_, rfl, wpAny_pure (hQ x1 x2 p p7 tk q1 q2 q3 q4 q5 q6 q7 q8 q9 g7 (fun b o hb x => up b o hb (k4 b o hb x)) (up _ _ (Nat.ne_of_gt el) t4))⟩))
theorem ez_end {Q : Option Value → Shared → Prop} (S : ZipSep2 z TI TO i1 i2 fp1 fp2) (D1 : Draws prog w A.in1.in1 i1 fp1 n1 P1 St1) (D2 : Draws prog w A.in1.in1 i2 fp2 n2 P2 St2) (he : IsEnum s.heap e z c old)
    (hz : ZA s.heap z TI TO f0 fl) (gd : Gd f0) (hTI : IsTupOf2 s.heap TI (.ref i1) (.ref i2)) (hTO : IsTupOf2 s.heap TO a1 a2) (st1 : St1 i s.heap) (st2 : St2 i s.heap) (hle1 : i ≤ n1) (hle2 : i ≤ n2) (hend : i = n1 ∨ i = n2)
    (hQ : ∀ h' tk, (∀ c o, c ≠ z → c ≠ TO → c ≠ i1 → c ≠ i2 → s.heap.get? c = some o → h'.get? c = some o) → Q none { s with heap := h', toks := tk }) : wpAny (model prog w) A (pyNext (.ref e)) Q E s := by
  have hT : s.TypeIs (.ref e) "enumerate" := ⟨_, he, rfl⟩
  unfold pyNext
  refine wpAny_bind (wpAny_attempt (wpAny_callSpecial?_slot (name := Str.ofString "__next__") hT F.slot_enumerate_next (wpAny_call_entry F.slot_enumerate_next hT F.entry_enumerate_next ?_ (F.args_enumerate_next_1 _))))
  show wpAny _ _ (field (.ref e) 2 >>= _) _ _ _
  refine wpAny_bind (wpAny_field he rfl (x := .ref z) rfl (wpAny_bind ?_))
  unfold Builtin.SmallTypes.nextOf
  refine wpAny_bind (wpAny_callSpecial?_slot (name := Str.ofString "__next__") (za_type hz) F.slot_zip_next (wpAny_call_entry F.slot_zip_next (za_type hz) F.entry_zip_next
    (za_end S D1 D2 hz gd hTI hTO st1 st2 hle1 hle2 hend fun h' tk x hk hx => ?_) (F.args_zip_next_1 _)))
  obtain ⟨o, ho, hc⟩ := hx
  exact wpAny_bind (wpAny_isInstance (T := "StopIteration") (b := true) ⟨o, ho, hc⟩ isSubtype_stop (wpAny_pure (hQ _ _ hk)))
/-- enumerate(v), v an iterator itself -/
theorem meets_enumerate_newI {v : Value} {H : Heap → Prop} (B : ∀ (prog : Program) (w : World) (A : Around) (E Q : Value → Shared → Prop) (s : Shared), H s.heap → Q v s → wpAny (model prog w) A (pyIter v) Q E s) :
    Meets (Builtin.«enumerate.__new__» ⟨[.type "enumerate", v], []⟩) (fun _ R s => H s.heap ∧
      R (.ok (.ret (.ref s.heap.objs.size))) { s with heap := s.heap.push { cls := .type "enumerate", data := .fields #[.none, .bool false, v, rawInt 0, .none, .none] } }) :=
  .of_wp fun prog w A R s h => by
    obtain ⟨hp, g, d, tk, os⟩ := s; obtain ⟨h1, h⟩ := h
    have hsub := sub_enumerate
    have q1 : ∀ {A' : Around} {E : Value → Shared → Prop} {Q : Value → Shared → Prop}, Q v ⟨hp, g, d, tk, os⟩ → wpAny (model prog w) A' (pyIter v) Q E ⟨hp, g, d, tk, os⟩ :=
      fun q => B prog w _ _ _ ⟨hp, g, d, tk, os⟩ h1 q
    wp_walk using q1
    refine wpAny_stack_any fun st => wpAny_pure ?_
    split
    · rename_i c _ _ _ _ _
      cases (c == Value.type "enumerate")
      · wp_walk using q1
        exact ⟨_, rfl, h⟩
      · wp_walk using q1
        exact ⟨_, rfl, h⟩
    · wp_walk using q1
      exact ⟨_, rfl, h⟩
theorem enum_beginsZ {Q : Value → Shared → Prop} {TI' TO' : Addr} (hz : IsZip s.heap z TI' TO' .none)
    (h : ∀ h', IsEnum h' s.heap.objs.size z 0 .none → h'.objs.size = s.heap.objs.size + 1 → (∀ b o, s.heap.get? b = some o → h'.get? b = some o) → Q (.ref s.heap.objs.size) { s with heap := h' }) :
    wpAny (model prog w) A (call (.type "enumerate") [.ref z]) Q E s := by
  refine callType_new F.called_enumerate (by decide) (F.typeCall_enumerate_1 _) (F.newCall_enumerate_1 _) (fun obj => F.args_object_init_2 obj _) F.entry_enumerate_new
    (meets_enumerate_newI (H := fun h => IsZip h z TI' TO' .none) fun prog w A E Q s hz q => wpAny_pyIter_zip hz q) ⟨hz, ?_⟩
  have he : IsEnum (s.heap.push { cls := .type "enumerate", data := .fields #[.none, .bool false, .ref z, rawInt 0, .none, .none] }) s.heap.objs.size z 0 .none :=
    Heap.get?_push_size s.heap (o := { cls := .type "enumerate", data := .fields #[.none, .bool false, .ref z, rawInt 0, .none, .none] }) rfl
  exact ⟨⟨_, he, rfl⟩, h _ he (Heap.size_push ..) fun b o x => Heap.get?_push_of_some _ x⟩
end
end PySem
end SB28
section SB29
set_option autoImplicit false
set_option linter.all false
set_option maxRecDepth 100000
set_option maxHeartbeats 4000000
/-! The evaluator over the hand layer, 29: a name that holds enumerate(zip(a, b)), walked by the next statement. -/
namespace Py
open PySem L2 PySem.Spec PyProof.Rows

section
variable {X : Cx} {pins : List (Addr × Obj)} {σ : L2.St} {H : Hp} {s : Shared} {a : Addr} {o : HO}
/-- an object that lies there is tracked -/
theorem inv_track (I : Inv X pins σ H s) (f : FpOk X pins H a) (h0 : X.s_0.heap.objs.size ≤ a) (new : ObjOk X.prog X.w (upd H a o) s.heap a o) : Inv X pins σ (upd H a o) s := by
  obtain ⟨f0, f1, f2, f3, f4, f5⟩ := f
  have old : ∀ b ob, X.s_0.heap.get? b = some ob → b ≠ a := fun b ob e z => absurd (Nat.lt_of_lt_of_le (Heap.lt_size e) (z ▸ h0)) (Nat.lt_irrefl _)
  exact {
    ok := I.ok
    os := I.os
    bare := I.bare
    base := {
      keep := I.base.keep
      slot := I.base.slot
      free := fun b ob e n hx => by rw [upd_ne (old b ob e)]; exact I.base.free b ob e n hx
      there := I.base.there
      tups := fun b xs e => by rw [upd_ne (ne_of_none (I.base.tups b xs e) f0)]; exact I.base.tups b xs e
      frzs := fun b ob u e => by rw [upd_ne (ne_of_none (I.base.frzs b ob u e) f0)]; exact I.base.frzs b ob u e
      tbls := fun b ps e => let ⟨m, z⟩ := I.base.tbls b ps e; ⟨m, by rw [upd_ne (ne_of_none z f0)]; exact z⟩ }
    loc := I.loc
    cell := I.cell
    free := by rw [upd_ne (Ne.symm f1)]; exact I.free
    freeC := fun x c e => by rw [upd_ne (f4 x c e)]; exact I.freeC x c e
    pin := fun p hp => let ⟨q1, q2, q3⟩ := I.pin p hp; ⟨q1, by rw [upd_ne (f5 p hp)]; exact q2, q3⟩
    hok := fun b u e => by
      by_cases hb : b = a
      · subst hb; rw [upd_same] at e; cases e; exact new
      · rw [upd_ne hb] at e
        exact (I.hok b u e).stay (fun c v _ q => q) (fun c q => by rw [upd_ne (ne_of_none q f0)]; exact q) fun c xs q => by rw [upd_ne (ne_of_none q f0)]; exact q
    len := I.len }
/-- and forgotten -/
theorem inv_drop {φ : Heap → Prop} (I : Inv X pins σ (upd H a (.ext φ)) s) (hn : H a = none) (h0 : X.s_0.heap.objs.size ≤ a) : Inv X pins σ H s ∧ FpOk X pins H a := by
  have old : ∀ b ob, X.s_0.heap.get? b = some ob → b ≠ a := fun b ob e z => absurd (Nat.lt_of_lt_of_le (Heap.lt_size e) (z ▸ h0)) (Nat.lt_irrefl _)
  have at' : (upd H a (.ext φ)) a = some (.ext φ) := upd_same
  have down : ∀ {b : Addr} {u : HO}, (upd H a (.ext φ)) b = some u → (∀ ψ, u ≠ .ext ψ) → H b = some u := fun {b u} e n => by
    by_cases hb : b = a
    · rw [hb, upd_same] at e; cases e; exact absurd rfl (n φ)
    · rw [upd_ne hb] at e; exact e
  have none' : ∀ {b : Addr}, (upd H a (.ext φ)) b = none → H b = none ∧ b ≠ a := fun {b} e => by
    by_cases hb : b = a
    · rw [hb, upd_same] at e; cases e
    · rw [upd_ne hb] at e; exact ⟨e, hb⟩
  refine ⟨{
    ok := I.ok
    os := I.os
    bare := I.bare
    base := {
      keep := I.base.keep
      slot := I.base.slot
      free := fun b ob e n hx => (none' (I.base.free b ob e n hx)).1
      there := I.base.there
      tups := fun b xs e => down (I.base.tups b xs e) fun _ z => nomatch z
      frzs := fun b ob u e => down (I.base.frzs b ob u e) fun _ z => nomatch z
      tbls := fun b ps e => let ⟨m, z⟩ := I.base.tbls b ps e; ⟨m, down z fun _ z => nomatch z⟩ }
    loc := I.loc
    cell := I.cell
    free := (none' I.free).1
    freeC := fun x c e => (none' (I.freeC x c e)).1
    pin := fun p hp => let ⟨q1, q2, q3⟩ := I.pin p hp; ⟨q1, (none' q2).1, q3⟩
    hok := fun b u e => by
      have hb : b ≠ a := ne_of_none e hn
      exact (I.hok b u (by rw [upd_ne hb]; exact e)).stay (fun c v _ q => q) (fun c q => down q fun _ z => nomatch z) fun c xs q => down q fun _ z => nomatch z
    len := I.len }, hn, (none' I.free).2.symm, fun hb => ?_, .inr h0, fun x c e => (none' (I.freeC x c e)).2, fun p hp => (none' (I.pin p hp).2.1).2⟩
  obtain ⟨_, ob, ho, _⟩ := I.ok.funs.mem hb
  exact absurd (Nat.lt_of_lt_of_le (Heap.lt_size ho) h0) (Nat.lt_irrefl _)
/-- several of them -/
def addL (H : Hp) : List (Addr × (Heap → Prop)) → Hp
  | [] => H
  | p :: r => upd (addL H r) p.1 (.ext p.2)
def St1 (φ : Heap → Prop) (a : Addr) : Prop := ∀ h1 h2 : Heap, φ h1 → (∀ o, h1.get? a = some o → h2.get? a = some o) → φ h2
theorem addL_out {l : List (Addr × (Heap → Prop))} {b : Addr} (h : ∀ p ∈ l, p.1 ≠ b) : addL H l b = H b := by
  induction l with
  | nil => rfl
  | cons p r ih =>
    unfold addL
    rw [upd_ne (fun z => h p List.mem_cons_self z.symm)]
    exact ih fun q hq => h q (List.mem_cons_of_mem _ hq)
theorem fpOk_addL {l : List (Addr × (Heap → Prop))} (f : FpOk X pins H a) (h : ∀ p ∈ l, p.1 ≠ a) : FpOk X pins (addL H l) a := ⟨(addL_out h).trans f.1, f.2⟩
theorem inv_tracks : ∀ {l : List (Addr × (Heap → Prop))}, Inv X pins σ H s → (l.map (·.1)).Nodup → (∀ p ∈ l, FpOk X pins H p.1 ∧ X.s_0.heap.objs.size ≤ p.1 ∧ p.2 s.heap ∧ (∃ o, s.heap.get? p.1 = some o) ∧ St1 p.2 p.1) → Inv X pins σ (addL H l) s
  | [], I, _, _ => I
  | p :: r, I, nd, h => by
    rw [List.map_cons, List.nodup_cons] at nd
    have out : ∀ q ∈ r, q.1 ≠ p.1 := fun q hq z => nd.1 (List.mem_map.mpr ⟨q, hq, z⟩)
    obtain ⟨f, h0, h1, h2, h3⟩ := h p List.mem_cons_self
    exact inv_track (inv_tracks I nd.2 fun q hq => h q (List.mem_cons_of_mem _ hq)) (fpOk_addL f out) h0 ⟨h1, h2, h3⟩
theorem inv_drops : ∀ {l : List (Addr × (Heap → Prop))}, Inv X pins σ (addL H l) s → (l.map (·.1)).Nodup → (∀ p ∈ l, H p.1 = none ∧ X.s_0.heap.objs.size ≤ p.1) → Inv X pins σ H s ∧ ∀ p ∈ l, FpOk X pins H p.1 ∧ p.2 s.heap
  | [], I, _, _ => ⟨I, fun _ h => by cases h⟩
  | p :: r, I, nd, h => by
    rw [List.map_cons, List.nodup_cons] at nd
    have out : ∀ q ∈ r, q.1 ≠ p.1 := fun q hq z => nd.1 (List.mem_map.mpr ⟨q, hq, z⟩)
    obtain ⟨h0, h1⟩ := h p List.mem_cons_self
    obtain ⟨I1, f⟩ := inv_drop I ((addL_out out).trans h0) h1
    obtain ⟨I2, k⟩ := inv_drops I1 nd.2 fun q hq => h q (List.mem_cons_of_mem _ hq)
    refine ⟨I2, fun q hq => ?_⟩
    rcases List.mem_cons.mp hq with z | z
    · subst z
      refine ⟨⟨h0, f.2⟩, ?_⟩
      obtain ⟨φ, _⟩ := I.hok q.1 _ (upd_same (H := addL H r) (a := q.1) (o := .ext q.2))
      exact φ
    · exact k q z
end

/-! ### its turns -/
def ItEZ (J1 J2 : L2.It) : L2.It := ⟨fun i H => J1.go i H ∧ J2.go i H,
  fun i H v H' => ∃ T U x y, v = .ref U ∧ H T = none ∧ (upd H T (.tup [x, y])) U = none ∧ H' = upd (upd H T (.tup [x, y])) U (.tup [.int (i : Nat), .ref T]) ∧ J1.yld i H x H ∧ J2.yld i H y H,
  fun i H => (J1.stop i H ∧ (J2.go i H ∨ J2.stop i H)) ∨ (J1.go i H ∧ J2.stop i H)⟩
theorem turn_ez {P : Program} {w : World} {K : PySem.W.Frag} {elts : List Expr} {kk : Nat} {tpos : Pos} (k1 k2 : SrcK) {e z TI TO i1 i2 : Addr} (S : ZipSep2 z TI TO i1 i2 (i1 :: k1.ad) (i2 :: k2.ad)) (hn1 : i1 ∉ k1.ad) (hn2 : i2 ∉ k2.ad)
    (ez : e ≠ z) (eI : e ≠ TI) (eT : e ≠ TO) (e1 : e ≠ i1) (e2 : e ≠ i2) (ea1 : e ∉ k1.ad) (ea2 : e ∉ k2.ad) :
    Turn P w K (.Tuple elts kk tpos) (ItEZ (k1.J K) (k2.J K)) [e, z, TI, TO, i1, i2] e (fun i h => (∃ old, IsEnum h e z ((i : Nat) : Int) old) ∧ (∃ f0 fl, Gd f0 ∧ ZA h z TI TO f0 fl) ∧ IsTupOf2 h TI (.ref i1) (.ref i2) ∧ (∃ x y, IsTupOf2 h TO x y) ∧ k1.at i1 i h ∧ k2.at i2 i h) where
  mem := by simp
  obj := fun i h st c hc => by
    obtain ⟨⟨old, he⟩, ⟨f0, fl, gd, hz⟩, hTI, ⟨x, y, hTO⟩, h1, h2⟩ := st
    have e' : c = e ∨ c = z ∨ c = TI ∨ c = TO ∨ c = i1 ∨ c = i2 := by simpa using hc
    rcases e' with q | q | q | q | q | q
    · rw [q]; exact ⟨_, he, fun v q => nomatch q⟩
    · rw [q]; exact ⟨_, hz, fun v q => nomatch q⟩
    · rw [q]; exact ⟨_, hTI, fun v q => nomatch q⟩
    · rw [q]; exact ⟨_, hTO, fun v q => nomatch q⟩
    · rw [q]; exact SrcK.at_obj h1
    · rw [q]; exact SrcK.at_obj h2
  keep := fun i h h' st k => by
    obtain ⟨⟨old, he⟩, ⟨f0, fl, gd, hz⟩, hTI, ⟨x, y, hTO⟩, h1, h2⟩ := st
    exact ⟨⟨old, k e (by simp) _ he⟩, ⟨f0, fl, gd, k z (by simp) _ hz⟩, k TI (by simp) _ hTI, ⟨x, y, k TO (by simp) _ hTO⟩, SrcK.at_keep h1 fun o q => k i1 (by simp) o q, SrcK.at_keep h2 fun o q => k i2 (by simp) o q⟩
  item := by
    intro X hP hw hK hc i pins s σ H E I hf st hg
    subst hP hw hK
    obtain ⟨⟨old, he⟩, ⟨f0, fl, gd, hz⟩, hTI, ⟨x0, y0, hTO⟩, h1, h2⟩ := st
    obtain ⟨n1, P1, St1, D1, st1, lt1, bk1, y1⟩ := SrcK.draws_go (A := X.A.in1.in1) I (I.ok.hd hc) h1 hn1 hg.1
    obtain ⟨n2, P2, St2, D2, st2, lt2, bk2, y2⟩ := SrcK.draws_go (A := X.A.in1.in1) I (I.ok.hd hc) h2 hn2 hg.2
    have hel : e < s.heap.objs.size := Heap.lt_size he
    have hzl : z < s.heap.objs.size := Heap.lt_size hz
    have hl1 : i1 < s.heap.objs.size := by obtain ⟨_, q, _⟩ := SrcK.at_obj h1; exact Heap.lt_size q
    have hl2 : i2 < s.heap.objs.size := by obtain ⟨_, q, _⟩ := SrcK.at_obj h2; exact Heap.lt_size q
    refine ez_item S D1 D2 he ez eT e1 e2 hz gd hTI hTO st1 st2 lt1 lt2 fun u u2 p h' tk q1 q2 z' TO' s1' s2' hT hsz hk e' kp hU => ?_
    obtain ⟨x, ru, hy1⟩ := y1 u q1
    obtain ⟨y, ru2, hy2⟩ := y2 u2 q2
    have h1' := bk1 _ _ s1'
    have h2' := bk2 _ _ s2'
    refine ⟨_, rfl, wpAny_letOwnedTupleGo_enum (s := { s with heap := h', toks := tk + 1 }) e' fun h'' e'' sb => ?_⟩
    have I1 : Inv X pins σ (upd H s.heap.objs.size (.tup [x, y])) { s with heap := p, toks := tk } :=
      I.turnedNew (t' := tk) (ch := [e, z, TI, TO, i1, i2]) (fun c o hb q => hk c o (fun q' => hb (by simp [q'])) (fun q' => hb (by simp [q'])) (fun q' => hb (by simp [q'])) (fun q' => hb (by simp [q'])) q) hf (Nat.le_refl _)
        ⟨by show 2 ≤ sizeLine; decide, [u, u2], .cons ru (.cons ru2 .nil), ⟨_, hT, rfl, _, rfl⟩⟩
    have neT : s.heap.objs.size ≠ e := Nat.ne_of_gt hel
    have hf1 : ∀ b ∈ [e], FpOk X pins (upd H s.heap.objs.size (.tup [x, y])) b := fun b hb => by
      rw [show b = e by simpa using hb]
      obtain ⟨g0, g1⟩ := hf e (by simp)
      exact ⟨by rw [upd_ne (Ne.symm neT)]; exact g0, g1⟩
    have hU2 : h''.get? p.objs.size = some { cls := .type "tuple", data := .seq #[.int i tk, .ref s.heap.objs.size] } := (sb.2 _ (fun z => absurd (show s.heap.objs.size + 1 = e from hsz.symm.trans z) (Nat.ne_of_gt (Nat.lt_succ_of_lt hel)))).trans hU
    have I2 : Inv X pins σ (upd (upd H s.heap.objs.size (.tup [x, y])) p.objs.size (.tup [.int (i : Nat), .ref s.heap.objs.size])) { s with heap := h'', toks := tk + 1 } :=
      I1.turnedNew (t' := tk + 1) (ch := [e]) (fun b o hb q => (sb.2 b (fun z => hb (by simp [z]))).trans (kp b o (fun z => hb (by simp [z])) q)) hf1 (Nat.le_refl _)
        ⟨by show 2 ≤ sizeLine; decide, [.int i tk, .ref s.heap.objs.size], .cons ⟨_, rfl⟩ (.cons rfl .nil), ⟨_, hU2, rfl, _, rfl⟩⟩
    have up : ∀ b o, b ≠ e → p.get? b = some o → h''.get? b = some o := fun b o hb q => (sb.2 b hb).trans (kp b o hb q)
    have fr1 : H s.heap.objs.size = none := I.hok.fresh (Nat.le_refl _)
    have fr2 : (upd H s.heap.objs.size (.tup [x, y])) p.objs.size = none := I1.hok.fresh (Nat.le_refl p.objs.size)
    refine ⟨.ref p.objs.size, _, I2, rfl, ⟨s.heap.objs.size, p.objs.size, x, y, rfl, fr1, fr2, rfl, hy1, hy2⟩, ⟨⟨Value.ref s.heap.objs.size, ?_⟩, ?_, ?_, ?_, ?_, ?_⟩, fun c hcm => ?_⟩
    · have e1 : ((i + 1 : Nat) : Int) = (i : Int) + 1 := by omega
      rw [e1]; exact e''
    · obtain ⟨f1, fl1, gd1, hz1⟩ := z'
      exact ⟨f1, fl1, gd1, up _ _ (Ne.symm ez) hz1⟩
    · exact up _ _ (Ne.symm eI) (hk _ _ S.TIz S.TITO S.TIi1 S.TIi2 hTI)
    · obtain ⟨b1, b2, hb⟩ := TO'
      exact ⟨b1, b2, up _ _ (Ne.symm eT) hb⟩
    · exact SrcK.at_keep h1' fun o q => up _ _ (Ne.symm e1) q
    · exact SrcK.at_keep h2' fun o q => up _ _ (Ne.symm e2) q
    · have hlt : c < s.heap.objs.size := by
        have e' : c = e ∨ c = z ∨ c = TI ∨ c = TO ∨ c = i1 ∨ c = i2 := by simpa using hcm
        rcases e' with q | q | q | q | q | q
        · rw [q]; exact hel
        · rw [q]; exact hzl
        · rw [q]; exact Heap.lt_size hTI
        · rw [q]; exact Heap.lt_size hTO
        · rw [q]; exact hl1
        · rw [q]; exact hl2
      rw [upd_ne (by rw [hsz]; exact Nat.ne_of_lt (Nat.lt_succ_of_lt hlt)), upd_ne (Nat.ne_of_lt hlt)]
      exact (hf c hcm).1
  done := by
    intro X hP hw hK hc i pins s σ H E I hf st hg
    subst hP hw hK
    obtain ⟨⟨old, he⟩, ⟨f0, fl, gd, hz⟩, hTI, ⟨x0, y0, hTO⟩, h1, h2⟩ := st
    have fin : ∀ (h' : Heap) (tk : Nat), (∀ c o, c ≠ z → c ≠ TO → c ≠ i1 → c ≠ i2 → s.heap.get? c = some o → h'.get? c = some o) → (none : Option Value) = none ∧ Inv X pins σ H { s with heap := h', toks := tk } := fun h' tk hk =>
      ⟨rfl, I.turnedL (t' := tk) (ch := [e, z, TI, TO, i1, i2]) (fun c o hb q => hk c o (fun q' => hb (by simp [q'])) (fun q' => hb (by simp [q'])) (fun q' => hb (by simp [q'])) (fun q' => hb (by simp [q'])) q) hf⟩
    rcases hg with ⟨g1, g2 | g2⟩ | ⟨g1, g2⟩
    · obtain ⟨P1, St1, D1, st1⟩ := SrcK.draws_stop (A := X.A.in1.in1) I (I.ok.hd hc) h1 hn1 g1
      obtain ⟨n2, P2, St2, D2, st2, lt2, bk2, y2⟩ := SrcK.draws_go (A := X.A.in1.in1) I (I.ok.hd hc) h2 hn2 g2
      exact ez_end S D1 D2 he hz gd hTI hTO st1 st2 (Nat.le_refl _) (Nat.le_of_lt lt2) (.inl rfl) fin
    · obtain ⟨P1, St1, D1, st1⟩ := SrcK.draws_stop (A := X.A.in1.in1) I (I.ok.hd hc) h1 hn1 g1
      obtain ⟨P2, St2, D2, st2⟩ := SrcK.draws_stop (A := X.A.in1.in1) I (I.ok.hd hc) h2 hn2 g2
      exact ez_end S D1 D2 he hz gd hTI hTO st1 st2 (Nat.le_refl _) (Nat.le_refl _) (.inl rfl) fin
    · obtain ⟨n1, P1, St1, D1, st1, lt1, bk1, y1⟩ := SrcK.draws_go (A := X.A.in1.in1) I (I.ok.hd hc) h1 hn1 g1
      obtain ⟨P2, St2, D2, st2⟩ := SrcK.draws_stop (A := X.A.in1.in1) I (I.ok.hd hc) h2 hn2 g2
      exact ez_end S D1 D2 he hz gd hTI hTO st1 st2 (Nat.le_of_lt lt1) (Nat.le_refl _) (.inr rfl) fin
  self := fun A i s Q E st h => let ⟨⟨_, he⟩, _⟩ := st; wpAny_pyIter_enum he h
end Py
end SB29
section SB30
set_option autoImplicit false
set_option linter.all false
set_option maxRecDepth 100000
set_option maxHeartbeats 4000000
/-! The evaluator over the hand layer, 30: x = enumerate(zip(a, b)); return [.. for .. in x ..]. -/
namespace Py
open PySem L2 PySem.Spec PyProof.Rows

section
variable {X : Cx} {e e2 : Expr} {ta : TA} {p pos tpos : Pos} {elts : List Expr} {kk : Nat}
def exZ (N : Nat) (k k2 : SrcK) : List (Addr × (Heap → Prop)) :=
  [(N + 4, fun h => IsZip h (N + 4) (N + 2) (N + 3) .none), (N + 2, fun h => IsTupOf2 h (N + 2) (.ref N) (.ref (N + 1))), (N + 3, fun h => ∃ x y, IsTupOf2 h (N + 3) x y), (N, fun h => k.at N 0 h), (N + 1, fun h => k2.at (N + 1) 0 h)]
theorem exZ_mem {N : Nat} {k k2 : SrcK} {q : Addr × (Heap → Prop)} (h : q ∈ exZ N k k2) : ∃ j : Nat, j ≤ 4 ∧ q.1 = N + j := by
  simp only [exZ, List.mem_cons, List.not_mem_nil, or_false] at h
  rcases h with z | z | z | z | z <;> rw [z]
  · exact ⟨4, by decide, rfl⟩
  · exact ⟨2, by decide, rfl⟩
  · exact ⟨3, by decide, rfl⟩
  · exact ⟨0, by decide, rfl⟩
  · exact ⟨1, by decide, rfl⟩
theorem exZ_nd (N : Nat) (k k2 : SrcK) : ((exZ N k k2).map (·.1)).Nodup := by
  show [N + 4, N + 2, N + 3, N, N + 1].Nodup
  simp
def tZV (X : Cx) (ta : TA) : TE := fun σ H Q => ta σ H fun vs H1 => ∃ v v2 k k2, vs = [v, v2] ∧ SrcAt X.K H1 v k ∧ SrcAt X.K H1 v2 k2 ∧
  ∀ N : Nat, X.s_0.heap.objs.size ≤ N → (∀ j : Nat, H1 (N + j) = none) → (∀ b ∈ k.ad, b < N) → (∀ b ∈ k2.ad, b < N) → Q (.ref (N + 4)) (addL H1 (exZ N k k2))
theorem pe_zipV (hg : Gl X "zip") (hm : X.mg "zip" = none) (ha : PA X [e, e2] ta) (hs : starEach [e, e2] X.env = (false, eval e X.env) :: starEach [e2] X.env) (hpl : (backTo pos (starEach [e2] X.env)).any (·.1) = false) :
    PE X (.Call (.Name "zip" p) [e, e2] [] pos) (tZV X ta) := by
  refine ⟨fun pins s σ H Q I h => ?_⟩
  refine Call_ (ld_blt I hg hm PyProof.Rows.boot_zip (PyProof.Rows.callWith_type1 (thn (ha.run pos pins s σ H _ I h) fun us s1 ⟨vs, H1, I1, r1, q1⟩ => ?_) hs hpl))
  obtain ⟨v, v2, k, k2, ex, hk, hk2, q⟩ := q1
  subst ex
  cases r1 with
  | cons r rr =>
    cases rr with
    | cons r' rr =>
      cases rr
      obtain ⟨o, Hh, B, hh, hat, hlt⟩ := hk.begins I1 r
      obtain ⟨o2, Hh2, B2, hh2, hat2, hlt2⟩ := hk2.begins I1 r'
      refine zip_begins2 B B2 hh hh2 fun h' hz hTI hTO h1 h2 hsz hkp => ?_
      have I2 : Inv X pins σ H1 { s1 with heap := h' } := I1.kept (t' := s1.toks) hkp
      have fr : ∀ j : Nat, H1 (s1.heap.objs.size + j) = none := fun j => I1.hok.fresh (Nat.le_add_right _ _)
      refine ⟨.ref (s1.heap.objs.size + 4), _, inv_tracks I2 (exZ_nd s1.heap.objs.size k k2) fun x hx => ?_, rfl, q _ I1.sz fr hlt hlt2⟩
      have fp : ∀ j : Nat, FpOk X pins H1 (s1.heap.objs.size + j) := fun j => I1.fpOk (Nat.le_add_right _ _) (fr j)
      have sz : ∀ j : Nat, X.s_0.heap.objs.size ≤ s1.heap.objs.size + j := fun j => Nat.le_trans I1.sz (Nat.le_add_right _ _)
      simp only [exZ, List.mem_cons, List.not_mem_nil, or_false] at hx
      rcases hx with z | z | z | z | z <;> rw [z]
      · exact ⟨fp 4, sz 4, hz, ⟨_, hz⟩, fun _ _ a b => b _ a⟩
      · exact ⟨fp 2, sz 2, hTI, ⟨_, hTI⟩, fun _ _ a b => b _ a⟩
      · exact ⟨fp 3, sz 3, ⟨_, _, hTO⟩, ⟨_, hTO⟩, fun _ _ ⟨x, y, a⟩ b => ⟨x, y, b _ a⟩⟩
      · exact ⟨fp 0, sz 0, hat _ _ h1, ⟨_, h1⟩, fun _ _ a b => SrcK.at_keep a b⟩
      · exact ⟨fp 1, sz 1, hat2 _ _ h2, ⟨_, h2⟩, fun _ _ a b => SrcK.at_keep a b⟩
def tEV (X : Cx) (ta : TA) : TE := fun σ H Q => ta σ H fun vs H1 => ∃ z TI TO, vs = [.ref z] ∧ H1 z = some (.ext fun h => IsZip h z TI TO .none) ∧ ∀ q : Nat, X.s_0.heap.objs.size ≤ q → z < q → H1 q = none → Q (.ref q) (upd H1 q (.ext fun h => IsEnum h q z 0 .none))
theorem pe_enV (hg : Gl X "enumerate") (hm : X.mg "enumerate" = none) (ha : PA X [e] ta) (hs : starEach [e] X.env = [(false, eval e X.env)]) : PE X (.Call (.Name "enumerate" p) [e] [] pos) (tEV X ta) := by
  refine ⟨fun pins s σ H Q I h => ?_⟩
  refine Call_ (ld_blt I hg hm boot_enumerate (PyProof.Rows.callWith_type1 (thn (ha.run pos pins s σ H _ I h) fun us s1 ⟨vs, H1, I1, r1, q1⟩ => ?_) hs rfl))
  obtain ⟨z, TI, TO, ex, hz, q⟩ := q1
  subst ex
  cases r1 with
  | cons r rr =>
    cases rr
    cases r
    obtain ⟨hz', _, _⟩ := I1.hok z _ hz
    refine enum_beginsZ hz' fun h' he hsz hkp => ?_
    have I2 : Inv X pins σ H1 { s1 with heap := h' } := I1.kept (t' := s1.toks) hkp
    have fr : H1 s1.heap.objs.size = none := I1.hok.fresh (Nat.le_refl _)
    exact ⟨.ref s1.heap.objs.size, _, inv_track (o := .ext fun h => IsEnum h s1.heap.objs.size z 0 .none) I2 (I1.fpOk (Nat.le_refl _) fr) I1.sz ⟨he, ⟨_, he⟩, fun _ _ a b => b _ a⟩, rfl, q _ I1.sz (Heap.lt_size hz') fr⟩
def exE (N q : Nat) (k k2 : SrcK) : List (Addr × (Heap → Prop)) := (q, fun h => IsEnum h q (N + 4) 0 .none) :: exZ N k k2
theorem exE_nd {N q : Nat} {k k2 : SrcK} (h : N + 4 < q) : ((exE N q k k2).map (·.1)).Nodup := by
  unfold exE
  rw [List.map_cons, List.nodup_cons]
  refine ⟨fun z => ?_, exZ_nd N k k2⟩
  obtain ⟨x, hx, e⟩ := List.mem_map.mp z
  obtain ⟨j, hj, e'⟩ := exZ_mem hx
  have : q = N + j := e.symm.trans e'
  omega
def tVEZ (X : Cx) (j : Nat) : TI := fun σ H R => ∃ (N q : Nat) (k k2 : SrcK) (H0 : Hp), σ[j]? = some (some (.ref q)) ∧ X.s_0.heap.objs.size ≤ N ∧ N + 4 < q ∧ (∀ i : Nat, H0 (N + i) = none) ∧ (∀ b ∈ k.ad, b < N) ∧ (∀ b ∈ k2.ad, b < N) ∧
  H = addL H0 (exE N q k k2) ∧ R (ItEZ (k.J X.K) (k2.J X.K)) H0
theorem pi_vez {j : Nat} {x : Str} (hv : PE X (.Name x pos) (tVar j)) : PI X (.Tuple elts kk tpos) (.Name x pos) (tVEZ X j) := by
  refine ⟨fun pins s σ H R I h => ?_⟩
  obtain ⟨N, q, k, k2, H0, hσ, h0, hq, hn, hk, hk2, e, r⟩ := h
  subst e
  refine thn (hv.run pins s σ _ (fun v H' => v = .ref q ∧ H' = addL H0 (exE N q k k2)) I ⟨_, hσ, rfl, rfl⟩) fun u s1 ⟨v, H', I1, ru, e1, e2⟩ => ?_
  subst e1 e2
  cases ru
  have nq : H0 q = none := by
    have : q = N + (q - N) := by omega
    rw [this]; exact hn _
  have fr : ∀ p ∈ exE N q k k2, H0 p.1 = none ∧ X.s_0.heap.objs.size ≤ p.1 := fun p hp => by
    rcases List.mem_cons.mp hp with z | z
    · rw [z]; exact ⟨nq, Nat.le_trans h0 (Nat.le_trans (Nat.le_add_right _ _) (Nat.le_of_lt hq))⟩
    · obtain ⟨j, _, e⟩ := exZ_mem z
      rw [e]; exact ⟨hn j, Nat.le_trans h0 (Nat.le_add_right _ _)⟩
  obtain ⟨I0, kf⟩ := inv_drops I1 (exE_nd hq) fr
  have mem : ∀ p : Addr × (Heap → Prop), p ∈ exZ N k k2 → p ∈ exE N q k k2 := fun p h => List.mem_cons_of_mem _ h
  obtain ⟨f0, g0⟩ := kf _ (List.mem_cons_self)
  obtain ⟨f1, g1⟩ := kf (N + 4, fun h => IsZip h (N + 4) (N + 2) (N + 3) .none) (mem _ (by simp [exZ]))
  obtain ⟨f2, g2⟩ := kf (N + 2, fun h => IsTupOf2 h (N + 2) (.ref N) (.ref (N + 1))) (mem _ (by simp [exZ]))
  obtain ⟨f3, g3⟩ := kf (N + 3, fun h => ∃ x y, IsTupOf2 h (N + 3) x y) (mem _ (by simp [exZ]))
  obtain ⟨f4, g4⟩ := kf (N, fun h => k.at N 0 h) (mem _ (by simp [exZ]))
  obtain ⟨f5, g5⟩ := kf (N + 1, fun h => k2.at (N + 1) 0 h) (mem _ (by simp [exZ]))
  have n1 : N ∉ k.ad := fun z => Nat.lt_irrefl _ (hk _ z)
  have n2 : N + 1 ∉ k2.ad := fun z => Nat.not_succ_lt_self (hk2 _ z)
  have big : ∀ {b : Nat}, b < N → q ≠ b := fun {b} h z => by omega
  refine wpAny_pyIter_enum g0 ⟨q, [q, N + 4, N + 2, N + 3, N, N + 1], _, _, H0, rfl, I0, turn_ez k k2 (sepN N _ _ hk hk2) n1 n2 (by show q ≠ N + 4; omega) (by show q ≠ N + 2; omega) (by show q ≠ N + 3; omega) (by show q ≠ N; omega) (by show q ≠ N + 1; omega) (fun z => big (hk _ z) rfl) (fun z => big (hk2 _ z) rfl),
    ⟨⟨.none, g0⟩, ⟨.none, false, .inl rfl, g1⟩, g2, g3, g4, g5⟩, fun c hc => ?_, r⟩
  have e' : c = q ∨ c = N + 4 ∨ c = N + 2 ∨ c = N + 3 ∨ c = N ∨ c = N + 1 := by simpa using hc
  rcases e' with z | z | z | z | z | z <;> rw [z]
  · exact f0
  · exact f1
  · exact f2
  · exact f3
  · exact f4
  · exact f5
end
section
variable {G : Gx} {fc fc' : Fc} {fm fm2 : List Addr} {ex ex2 : Bar} {σ σ2 σ' : L2.St} {s s' s0 s1 s2 : S} {H H1 H2 H' : Hp} {W : WX} {run : Run} {X : Cx} {B1 M1 M2 : Bar} {J J2 : L2.It} {xs ys : List D} {pos pos' pos2 pos3 pos4 p p2 tpos : Pos} {a b : Expr} {a' b' : E} {elts : List Expr} {kk j : Nat} {x : Str}
theorem src_ez (hm : ∀ a, M1 a → B1 a) (S : Src G H1 B1 M1 J xs) (S2 : Src G H1 B1 M1 J2 ys) : Src G H1 B1 M1 (ItEZ J J2) (enumD 0 (zipD xs ys)) := by
  refine ⟨fun i H b hi => ?_, fun i H b hi => ?_, fun i H v H' x b hx y => ?_⟩
  · rw [enumD_len, zipD_len] at hi
    exact ⟨S.go i H b (by omega), S2.go i H b (by omega)⟩
  · rw [enumD_len, zipD_len] at hi
    by_cases h1 : xs.length ≤ i
    · refine .inl ⟨S.stop i H b h1, ?_⟩
      by_cases h2 : ys.length ≤ i
      · exact .inr (S2.stop i H b h2)
      · exact .inl (S2.go i H b (by omega))
    · exact .inr ⟨S.go i H b (by omega), S2.stop i H b (by omega)⟩
  · obtain ⟨T, U, w, w2, rfl, hT, hU, rfl, hy, hy2⟩ := y
    rw [enumD_get] at hx
    obtain ⟨d, hd, rfl⟩ := Option.map_eq_some_iff.mp hx
    obtain ⟨x0, y0, h0, g0, rfl⟩ := zipD_get _ _ _ _ hd
    refine ⟨.step hT (.step hU (.refl _)), fun B' kp hB => ?_⟩
    have kp' : Kp H1 H B1 B' := fun a o n h => ⟨b a o h fun m => n (hm a m), (kp a o n h).2⟩
    have up : Kp H (upd H T (.tup [w, w2])) B' B' := fun a o n h => ⟨upd_keep hT h, n⟩
    have up2 : Kp (upd H T (.tup [w, w2])) (upd (upd H T (.tup [w, w2])) U (.tup [.int (i : Nat), .ref T])) B' B' := fun a o n h => ⟨upd_keep hU h, n⟩
    have hU' : H U = none := by
      have : U ≠ T := fun e => by rw [e, upd_same] at hU; cases hU
      rw [upd_ne this] at hU; exact hU
    have inn : DR G (upd H T (.tup [w, w2])) B' (.tup [x0, y0]) (.ref T) := ⟨T, _, rfl, .inl ⟨fun z => hB T z hT, .inl upd_same⟩, w, [w2], rfl, ((S.yld i H w H x0 b h0 hy).2 B' kp' hB).mono up, w2, [], rfl, ((S2.yld i H w2 H y0 b g0 hy2).2 B' kp' hB).mono up, rfl⟩
    exact ⟨U, _, rfl, .inl ⟨fun z => hB U z hU', .inl upd_same⟩, .int (i : Nat), [.ref T], rfl, by rw [Nat.zero_add]; exact rfl, .ref T, [], rfl, inn.mono up2, rfl⟩
theorem ss_ez {elt : Expr} {ifs : List Expr} {scope : Scope} {own : List (Str × Nat)} {elt' : E} {tg' : Tg} {ifs' : List E} {W' : WX} (hc : X.calm = true) (hK : X.K = G.K) (hN : X.N.Nodup) (hi : X.N[j]? = some x) (hx : Loc X.env.scope x) (hf : X.fn x = true ∨ X.env.scope.names.lookup x = some .local)
    (hv : PE X (.Name x pos3) (tVar j)) (ge : Gl X "enumerate") (me : X.mg "enumerate" = none) (gz : Gl X "zip") (mz : X.mg "zip" = none) (hs : noStar a = true) (hs2 : noStar b = true) (ha : PA X [a, b] (tA G run W [a', b'])) (ok : BlkOk X.N X.env.scope scope own)
    (hg : ∀ (s : Shared) (H : Hp) (C : Addr) (cl : List (Str × Addr)) (fp : List Addr), PG (X.blk s H scope (compEnvC scope cl C X.env) fp) (.Tuple elts kk tpos) (tTg G tg')) (ht : ∀ (s : Shared) (H : Hp) (C : Addr) (cl : List (Str × Addr)) (fp : List Addr), PTs (X.blk s H scope (compEnvC scope cl C X.env) fp) ifs (tTs G run W' ifs'))
    (he : ∀ (s : Shared) (H : Hp) (C : Addr) (cl : List (Str × Addr)) (fp : List Addr), PE (X.blk s H scope (compEnvC scope cl C X.env) fp) elt (tI G run W' elt')) (hsub : ∀ i ∈ tgSlots tg', i ∈ own.map (·.2)) {pc pc2 pd pe : Pos} :
    PSs X [.Assign [.Name x pos'] (.Call (.Name "enumerate" p) [.Call (.Name "zip" p2) [a, b] [] pc] [] pc2) pos, .Return (some (.ListComp elt [⟨.Tuple elts kk tpos, .Name x pos3, ifs, 0⟩] scope pd)) pe]
      (tSs G run W [.asgI j (.enumZ [a', b']), .ret (some (.lc elt' tg' (.var j) ifs' (own.map (·.2))))]) := by
  refine PSs.imp (pss_cons (ps_set hN hi hx (pe_enV ge me (pa_cons (pe_zipV gz mz ha (star1 hs [b] X.env) (by rw [star1 hs2]; rfl)) pa_nil (star1 rfl _ _)) (star1 rfl _ _)) rfl hf)
    (pss_cons (ps_ret (pe_lc hc hN (pi_vez hv) ok hg ht he (fun _ => rfl))) pss_nil)) fun De σ H h => ?_
  obtain ⟨fc, fm, ex, s, F, p⟩ := h
  rw [exTs, exT, Out.bind_assoc] at p
  simp only [evI, Out.bind_assoc] at p
  refine ⟨fc, fm, ex, s, F, p.bind.imp fun vs H1 ⟨rs, s1, ee, st1, F1, r1, p1⟩ => ?_⟩
  match rs, r1, p1 with
  | [], _, p1 => exact p1.elim
  | [_], _, p1 => exact p1.elim
  | _ :: _ :: _ :: _, _, p1 => exact p1.elim
  | [r, r'], ⟨v, ws, e1, _, rr, v2, ws2, e2, _, rr2, e3⟩, p1 =>
    cases e3
    subst e2
    subst e1
    simp only [ziI] at p1
    cases e : itD s1 r with
    | none => rw [e] at p1; exact p1.elim
    | some xs =>
    cases e' : itD s1 r' with
    | none => rw [e, e'] at p1; exact p1.elim
    | some ys =>
    rw [e, e'] at p1
    obtain ⟨k, h1, h2⟩ := srcAt_of F1 rr e
    obtain ⟨k2, g1, g2⟩ := srcAt_of F1 rr2 e'
    simp only [Out.bind] at p1
    cases eb : brwOf r ++ brwOf r' with
    | cons _ _ => rw [eb] at p1; exact p1.elim
    | nil =>
    rw [eb] at p1
    simp only at p1
    have b1 : brwOf r = [] := (List.append_eq_nil_iff.mp eb).1
    have b2 : brwOf r' = [] := (List.append_eq_nil_iff.mp eb).2
    rw [b1] at h2
    rw [b2] at g2
    rw [exTs, exT, evE_lc, Out.bind_assoc, Out.bind_assoc] at p1
    have hlt : j < s1.env.length := by
      refine Nat.lt_of_not_le fun z => ?_
      rw [S.set_out z, evI] at p1
      have : s1.get j = .non := by simp [S.get, List.getD_eq_getElem?_getD, z]
      rw [this] at p1
      exact p1.elim
    have eI : evI G.P run (.var j) (s1.set j (.itr (enumD 0 (zipD xs ys)))) = .ok (enumD 0 (zipD xs ys), []) (s1.set j .non) := by
      simp only [evI]
      rw [S.get_eq hlt]
      simp [S.set, List.set_set]
    rw [eI] at p1
    simp only [Out.bind] at p1
    refine ⟨v, v2, k, k2, rfl, by rw [hK]; exact h1, by rw [hK]; exact g1, fun N hN0 hfr hk hk2 => ?_⟩
    refine ⟨N + 4, N + 2, N + 3, rfl, upd_same, fun q hq0 hzq hq => ?_⟩
    refine ⟨N, q, k, k2, H1, ?_, hN0, hzq, hfr, hk, hk2, rfl, ?_⟩
    · by_cases hj : j < σ.length
      · exact List.getElem?_set_self hj
      · exact absurd (by rw [← F1.len] at hlt; exact hlt) hj
    have hO : ∀ i c, OwnA (s1.set j .non) (σ.set j (some (.ref q))) i c → i ≠ j ∧ OwnA s1 σ i c := fun i c h => by
      have ne : i ≠ j := fun z => by
        have h1 := h.1
        rw [z, S.get_eq hlt] at h1
        cases h1
      exact ⟨ne, by rw [← S.get_ne (s := s1) (x := .non) ne]; exact h.1, by rw [← getσ_ne (x := some (.ref q)) ne]; exact h.2⟩
    have hM : ∀ i c, MutA (s1.set j .non) (σ.set j (some (.ref q))) i c → MutA s1 σ i c := fun i c h => by
      obtain ⟨ne, _⟩ := hO i c ⟨muts_owns h.1, h.2⟩
      exact ⟨by rw [← S.get_ne (s := s1) (x := .non) ne]; exact h.1, by rw [← getσ_ne (x := some (.ref q)) ne]; exact h.2⟩
    have hB : ∀ c, Br fm ex (s1.set j .non) (σ.set j (some (.ref q))) c → Br fm ex s1 σ c := fun c h => by
      rcases h with h | h | ⟨i, h⟩
      · exact .inl h
      · exact .inr (.inl h)
      · exact .inr (.inr ⟨i, (hO i c h).2⟩)
    have F2 : FR G fc fm ex (σ.set j (some (.ref q))) (s1.set j .non) H1 := F1.slot j (List.length_set ..) (S.len_set _ _ _) rfl (fun i h => getσ_ne h) (fun i h => S.get_ne h) (fun _ h => h) hB (by rw [S.get_eq hlt]; trivial) fun c h => absurd rfl (hO j c h).1
    have S2 := (src_ez (fun a m => (mu_lend m).br) h2 g2).mono (B1' := Br fm ex (s1.set j .non) (σ.set j (some (.ref q)))) (M1' := Mu fm (lend (s1.set j .non) (ownIn (s1.set j .non) ([] : List Nat))) (σ.set j (some (.ref q)))) hB fun c h => by
      rcases h with h | ⟨i, h⟩
      · exact .inl h
      · exact .inr ⟨i, hM i c h⟩
    rw [← hK] at S2
    exact lc_body (pr := (enumD 0 (zipD xs ys), [])) hsub F2 S2 ((p1.bind (RA := RE G fc fm ex (σ.set j (some (.ref q))))).imp fun w H2 hh => by
      obtain ⟨r0, s2, _, _, F3, r3, pp⟩ := hh
      exact pp fm _ H2 w F3 r3)
end
end Py
end SB30
section SB31
set_option autoImplicit false
set_option linter.all false
set_option maxRecDepth 100000
set_option maxHeartbeats 4000000
/-! pop, extend, list(range), an attribute that is set, a box that nobody names. -/
namespace Py
open PySem L2

section
variable {G : Gx} {fc fc' : Fc} {fm fm2 : List Addr} {ex ex2 : Bar} {σ σ2 σ' : L2.St} {s s' s0 s1 s2 : S} {H H1 H2 H' : Hp} {W : WX} {run : Run} {X : Cx} {ls : List Nat} {De : Ends} {pos p pos' pos2 p2 : Pos} {o a e tg : Expr} {a' b' c' e' : E} {es : List Expr} {es' : List E} {i : Nat} {x : Str}

theorem atI_ix {α : Type} {xs : List α} {z : Int} {y : α} (h : atI xs z = some y) : ∃ k, ixN xs.length z = some k ∧ xs[k]? = some y ∧ seqIndex? z xs.length = some k ∧ z.natAbs ≤ xs.length := by
  unfold atI at h
  obtain ⟨k, h1, h2⟩ := Option.bind_eq_some_iff.mp h
  refine ⟨k, h1, h2, ?_, ?_⟩
  · unfold ixN at h1
    simp only [seqIndex?]
    by_cases h0 : 0 ≤ z
    · rw [if_pos h0] at h1
      rw [if_neg (show ¬ z < 0 by omega)]
      split at h1
      · cases h1
        rename_i hz
        simp [h0, hz]
      · cases h1
    · rw [if_neg h0] at h1
      rw [if_pos (show z < 0 by omega)]
      split at h1
      · cases h1
        rename_i hz
        rw [if_pos (by simp only [Bool.and_eq_true, decide_eq_true_eq]; omega)]
      · cases h1
  · unfold ixN at h1
    split at h1
    · split at h1
      · omega
      · cases h1
    · split at h1
      · omega
      · cases h1
/-- xs.pop(k) of an own list -/
theorem e_pop (ho : PE X o (tVar i)) (he : PE X e (tI G run W e')) (hn : noStar e = true) (hbase : attributeBase o "pop" X.env (eval o X.env) = eval o X.env) (hline : (pos'.endLine == pos2.line) = true) :
    PE X (.Call (.Attribute o "pop" pos') [e] [] pos2) (tI G run W (.pop i (some e'))) := by
  have h1 := star1 hn [] X.env
  refine PE.imp (pe_bm F.plainAttrs_list F.slot_list_pop F.type_list_pop mt_popAt ho (a_cons he a_nil h1) hbase (by rw [h1]; rfl) hline h1 rfl) fun σ H Q h => ?_
  obtain ⟨fc, fm, ex, s, F, p⟩ := h
  simp only [evE] at p
  cases hL : isOwnL (s.get i) with
  | false => rw [hL] at p; exact p.elim
  | true =>
    rw [hL] at p
    simp only [Bool.not_true, Bool.false_eq_true, if_false, evO, Out.bind_assoc] at p
    obtain ⟨a, vs, ha, hv⟩ := getL F hL
    refine ⟨_, ha, .inl ⟨rfl, vs, .of hv⟩, fc, fm, ex, s, F, ?_⟩
    simp only [evEs]
    revert p
    cases evE G.P run e' s with
    | stuck => exact fun p => p
    | exc c fs s1 => exact fun p => p
    | ok r s1 =>
      simp only [Out.bind]
      cases er : rdat s1 r with
      | none => exact fun p => p.elim
      | some d =>
        cases d with
        | int z =>
          simp only [Option.getD_some]
          cases ei : s1.get i with
          | own d0 =>
            cases d0 with
            | lst xs =>
              simp only
              split
              · rename_i hz
                cases eA : atI xs z with
                | none => exact fun p => p.elim
                | some y =>
                  obtain ⟨k, k1, k2, k3, k4⟩ := atI_ix eA
                  simp only [k1, Option.getD_some]
                  intro p ws H1 st1 F1 rl
                  obtain ⟨v, ws', rfl, _, rv, e0⟩ := rl
                  cases e0
                  have rvz : RD G H1 (Br fm ex s1 σ) (.int z) v := RR.rd (r := r) F1 rv er
                  obtain rfl : v = .int z := rvz
                  obtain ⟨a', ha', us, hu, t⟩ := getσ_own F1 ei
                  rw [ha] at ha'
                  cases ha'
                  obtain ⟨w, hw, rw'⟩ := t.get k2
                  obtain ⟨F3, st3⟩ := F1.mutL ei ha (t.eraseIdx k)
                  refine ⟨a, us, z, k, w, rfl, rfl, hu, by omega, by omega, by rw [← t.length]; exact k3, hw, ?_⟩
                  exact p w _ (st1.trans st3) F3 (DR.stp st3 rw')
              · exact fun p => p.elim
            | _ => exact fun p => p.elim
          | _ => exact fun p => p.elim
        | _ => exact fun p => p.elim
/-- xs.extend(a new list) -/
theorem s_ext (ho : PE X o (tVar i)) (he : PE X e (tI G run W e')) (hn : noStar e = true) (hbase : attributeBase o "extend" X.env (eval o X.env) = eval o X.env) (hline : (pos'.endLine == pos2.line) = true) (hs : swapsWith (.Call (.Attribute o "extend" pos') [e] [] pos2) none pos.line X.env = pure false) :
    PS X (.Expr (.Call (.Attribute o "extend" pos') [e] [] pos2) pos) (tSt G run W (.ext i e')) := by
  have h1 := star1 hn [] X.env
  refine PS.imp (ps_expr (pe_bm F.plainAttrs_list F.slot_list_extend F.type_list_extend mt_extend ho (pa_cons he pa_nil h1) hbase (by rw [h1]; rfl) hline h1 rfl) hs) fun De σ H h => ?_
  obtain ⟨fc, fm, ex, s, F, p⟩ := h
  rw [exT] at p
  cases hL : isOwnL (s.get i) with
  | false => rw [hL] at p; exact p.elim
  | true =>
    rw [hL] at p
    simp only [Bool.not_true, Bool.false_eq_true, if_false] at p
    obtain ⟨a, vs, ha, hv⟩ := getL F hL
    refine ⟨_, ha, .inl ⟨rfl, vs, .of hv⟩, fc, fm, ex, s, F, (p.bind (RA := RE G fc fm ex σ)).imp fun v H1 ⟨r, s1, _, st1, F1, r1, p1⟩ => ?_⟩
    cases r with
    | own d =>
      cases d with
      | lst ys =>
        cases ei : s1.get i with
        | own d0 =>
          rw [ei] at p1
          cases d0 with
          | lst xs =>
            simp only at p1
            split at p1
            · rename_i hz
              obtain ⟨b, rfl, ⟨us, hb, tb⟩, F2, nb, hn2⟩ := r1
              obtain ⟨a', ha', ws, hu, t⟩ := getσ_own F1 ei
              rw [ha] at ha'
              cases ha'
              have up : Kp H1 H1 (Br fm (fun c => ex c ∨ c = b) s1 σ) (Br fm ex s1 σ) := fun c o n z => ⟨z, fun q => n q.more⟩
              refine ⟨a, b, ws, us, rfl, rfl, hu, hb, by rw [← t.length, ← tb.length, sizeSZ]; unfold SZ; omega, ?_⟩
              exact p1 fm σ _ (F1.mutL ei ha (t.append (tb.mono up))).1
            · exact p1.elim
          | _ => exact p1.elim
        | _ => rw [ei] at p1; exact p1.elim
      | _ => exact p1.elim
    | _ => exact p1.elim
/-- dead code -/
theorem s_dead {st : Stmt} : PS X st (tSt G run W .dead) := ⟨fun pins s σ H Q I ⟨fc, fm, ex, s0, F, p⟩ => p.elim⟩
theorem rangeD_rgV (lo hi : Int) {B : Bar} : DRs G H B (rangeD lo (hi - lo).toNat) (rgV lo hi) := by
  have : ∀ (n : Nat) (lo : Int), DRs G H B (rangeD lo n) ((List.range n).map fun i => V.int (lo + (i : Nat))) := by
    intro n
    induction n with
    | zero => intro lo; rfl
    | succ n ih =>
      intro lo
      rw [List.range_succ_eq_map, List.map_cons, List.map_map]
      refine ⟨_, _, rfl, by simp [DR], ?_⟩
      have h := ih (lo + 1)
      have e : ((fun i : Nat => V.int (lo + 1 + (i : Nat)))) = ((fun i : Nat => V.int (lo + (i : Nat))) ∘ Nat.succ) := by
        funext i
        simp only [Function.comp]
        congr 1
        omega
      rw [e] at h
      exact h
  exact this _ _
theorem small62_ok {z : Int} (h : small62 z = true) : -(2 ^ 62) ≤ z ∧ z < 2 ^ 62 := by
  have : z.natAbs < 2 ^ 62 := of_decide_eq_true h
  omega
theorem rangeOf1 {d : D} {xs : List D} (h : rangeOf [d] = some xs) : ∃ z, d = .int z ∧ small62 z = true ∧ xs = rangeD 0 z.toNat := by
  cases d with
  | int z =>
    simp only [rangeOf] at h
    split at h
    · rename_i hs
      cases h
      exact ⟨z, rfl, hs, rfl⟩
    · cases h
  | _ => cases h
/-- list(range(n)) -/
theorem e_listR (hc : X.calm = true) (hgl : Gl X "list") (hml : X.mg "list" = none) (hg : Gl X "range") (hm : X.mg "range" = none) (ha : PE X a (tI G run W a')) (hn : noStar a = true) :
    PE X (.Call (.Name "list" p) [.Call (.Name "range" p2) [a] [] pos2] [] pos) (tI G run W (.ofIt .list (.range [a']))) := by
  refine PE.imp (pe_listRg hc hgl hml (prg_1 hg hm ha (star1 hn [] X.env)) rfl) fun σ H Q h => ?_
  obtain ⟨fc, fm, ex, s, F, p⟩ := h
  refine ⟨fc, fm, ex, s, F, ?_⟩
  simp only [evE, evI, evEs, Out.bind_assoc] at p
  refine (p.bind (RA := RE G fc fm ex σ)).imp fun v H1 ⟨r, s1, _, st1, F1, r1, p1⟩ => ?_
  simp only [Out.bind, rdats, rdat_wk] at p1
  cases er : rdat s1 r with
  | none => rw [er] at p1; exact p1.elim
  | some d =>
    rw [er] at p1
    simp only [Option.bind, Option.map] at p1
    cases eR : rangeOf [d] with
    | none => rw [eR] at p1; exact p1.elim
    | some xs =>
      obtain ⟨z, rfl, hs, rfl⟩ := rangeOf1 eR
      rw [eR] at p1
      simp only [Out.of] at p1
      obtain rfl : v = .int z := r1.data F1 er
      obtain ⟨b1, b2⟩ := small62_ok hs
      split at p1
      · rename_i hl
        refine ⟨z, rfl, ⟨by omega, by omega, b1, b2, ?_⟩, fun q hq => ?_⟩
        · have : (rangeD 0 z.toNat).length ≤ 100000 := hl
          rw [rangeD_length] at this
          omega
        · refine p1 _ _ (.alloc hq) (F1.alloc hq) (RR.newL F1 hq ?_)
          have := rangeD_rgV (G := G) (H := H1) (B := Br fm ex s1 σ) 0 z
          rw [Int.sub_zero] at this
          exact this
      · exact p1.elim
end
end Py
end SB31
section SB32
set_option autoImplicit false
set_option linter.all false
set_option maxRecDepth 100000
set_option maxHeartbeats 4000000
/-! An attribute of the object that is made; a box that nobody names. -/
namespace Py
open PySem L2

section
variable {G : Gx} {fc fc' : Fc} {fm fm2 : List Addr} {ex ex2 : Bar} {σ σ2 σ' : L2.St} {s s' s0 s1 s2 : S} {H H1 H2 H' : Hp} {W : WX} {run : Run} {X : Cx} {ls : List Nat} {De : Ends} {pos p pos' pos2 p2 upos : Pos} {o a e tg : Expr} {a' b' c' e' : E} {es : List Expr} {es' : List E} {i : Nat} {x : Str}

theorem FR.mutX (F : FR G fc fm ex σ s H) {i : Nat} {z z' : Sl} {a : Addr} {o : HO} (e : s.get i = z) (oz : owns z = true) (mz : muts z = true) (oz' : owns z' = true) (mz' : muts z' = true) (ha : σ[i]? = some (some (.ref a)))
    (hd : SlOk G fc fm (upd H a o) (Br fm ex s σ) σ[i]? z') : FR G fc fm ex σ (s.set i z') (upd H a o) ∧ Stp fm ex σ s H (s.set i z') (upd H a o) := by
  have hi : i < s.env.length := S.get_lt (by rw [e]; exact fun z => by subst z; cases oz)
  have oi : OwnA s σ i a := ⟨by rw [e]; exact oz, ha⟩
  have mi : MutA s σ i a := ⟨by rw [e]; exact mz, ha⟩
  have own : ∀ j b, OwnA (s.set i z') σ j b ↔ OwnA s σ j b := fun j b => by
    unfold OwnA
    by_cases q : j = i
    · subst q; rw [S.get_eq hi, e, oz, oz']
    · rw [S.get_ne q]
  have mut' : ∀ j b, MutA (s.set i z') σ j b ↔ MutA s σ j b := fun j b => by
    unfold MutA
    by_cases q : j = i
    · subst q; rw [S.get_eq hi, e, mz, mz']
    · rw [S.get_ne q]
  have br : ∀ b, Br fm ex (s.set i z') σ b ↔ Br fm ex s σ b := fun b => by unfold Br; simp only [own]
  have ba : Br fm ex s σ a := .inr (.inr ⟨i, oi⟩)
  have live : ∀ b, H b ≠ none → upd H a o b ≠ none := fun b h => upd_live h
  have ne : ∀ b u, b ≠ a → H b = some u → upd H a o b = some u := fun b u n z => by rw [upd_ne n]; exact z
  have up : Kp H (upd H a o) (Br fm ex s σ) (Br fm ex (s.set i z') σ) := fun b u n z => ⟨ne b u (fun q => n (by rw [q]; exact ba)) z, fun q => n ((br b).mp q)⟩
  refine ⟨{
    len := by rw [S.len_set]; exact F.len
    fml := F.fml
    nd := F.nd
    cells := fun k xs ek => let ⟨b, vs, h1, h2, h3, h4⟩ := F.cells k xs ek; ⟨b, vs, h1, ne b _ (fun q => (F.apF i a oi).1 (by rw [← q]; exact List.mem_of_getElem? h1)) h2, h3.flat h4, h4⟩
    slots := fun j => by
      by_cases q : j = i
      · subst q
        rw [S.get_eq hi]
        exact SlOk.chg (fc := fc) rfl (fun b h => (br b).mp h) hd
      · rw [S.get_ne q]
        have w := F.slots j
        cases hoj : owns (s.get j) with
        | true =>
          refine SlOk.mono up (fun b u eb hb => ne b u (fun w => q (F.apO j i b ⟨hoj, eb⟩ (by rw [w]; exact oi))) hb) w
        | false =>
          revert w hoj
          cases s.get j with
          | non => intro _ _; trivial
          | rng xs => intro ⟨r, lo, hi, e1, nb, e2, e3⟩ _; exact ⟨r, lo, hi, e1, (up r _ nb e2).2, (up r _ nb e2).1, e3⟩
          | itr xs => intro w _; exact w
          | pub d => intro ⟨v, e1, r⟩ _; exact ⟨v, e1, r.mono up⟩
          | cell k => intro w _; exact w
          | exc c fs => intro ⟨b, e1, r⟩ _; exact ⟨b, e1, r.mono up⟩
          | own d => intro _ w; cases w
          | lent d => intro _ w; cases w
          | new c fs => intro _ w; cases w
    apF := fun j b h => F.apF j b ((own j b).mp h)
    apO := fun j k b h1 h2 => F.apO j k b ((own j b).mp h1) ((own k b).mp h2)
    exF := F.exF
    exH := fun b h => live b (F.exH b h)
    base := fun b u h n => ne b u (fun q => by
      rcases F.newO i a mi with z | z
      · rw [q, z] at h; cases h
      · exact n (by rw [q]; exact z)) (F.base b u h n)
    newO := fun j b h => F.newO j b ((mut' j b).mp h)
    newL := fun j b h m => F.newL j b ((own j b).mp h) (by
      by_cases q : j = i
      · subst q; rw [S.get_eq hi, mz'] at m; cases m
      · rw [S.get_ne q] at m; exact m)
    newF := F.newF
    pre := F.pre
    m0 := F.m0
    m1 := fun b h => live b (F.m1 b h) }, ⟨fun b u h n => ne b u (fun q => n (.inr ⟨i, by rw [q]; exact mi⟩)) h, live, fun b h => (br b).mp h, fun b h => ?_⟩⟩
  rcases h with h | ⟨j, h⟩
  · exact .inl h
  · exact .inr ⟨j, (mut' j b).mp h⟩
theorem FRs.upd {a : Addr} {o : HO} {B : Bar} {fs : List (Nat × D)} {gs : List (Str × V)} (hB : B a) (r : FRs G H B fs gs) : FRs G (upd H a o) B fs gs := r.mono fun b u n z => ⟨by rw [upd_ne (show b ≠ a from fun q => n (by rw [q]; exact hB))]; exact z, n⟩
theorem FRs.put {B : Bar} {f : Nat} {d : D} {v : V} (inj : ∀ g, (G.L.fld g == G.L.fld f) = (g == f)) (hd : DR G H B d v) : ∀ {fs : List (Nat × D)} {gs : List (Str × V)}, fs.lookup f = none → FRs G H B fs gs → FRs G H B (fs ++ [(f, d)]) (putF (G.L.fld f) v gs)
  | [], _, _, h => by cases h; exact ⟨v, [], rfl, hd, rfl⟩
  | (g, y) :: fs, _, hl, ⟨w, ws, e, r, t⟩ => by
    subst e
    rw [List.lookup_cons] at hl
    cases q : f == g with
    | true => rw [q] at hl; cases hl
    | false =>
      rw [q] at hl
      have n : ¬ G.L.fld g = G.L.fld f := by
        have h1 := inj g
        have q2 : (g == f) = false := by rw [BEq.comm]; exact q
        rw [q2] at h1
        simpa using h1
      refine ⟨w, putF (G.L.fld f) v ws, ?_, r, FRs.put inj hd hl t⟩
      show (if G.L.fld g = G.L.fld f then _ else _) = _
      rw [if_neg n]
theorem FRs.length {B : Bar} : ∀ {fs : List (Nat × D)} {gs : List (Str × V)}, FRs G H B fs gs → fs.length = gs.length
  | [], _, h => by cases h; rfl
  | p :: fs, _, ⟨_, _, e, _, t⟩ => by subst e; simp [FRs.length t]
/-- self.f = e -/
theorem s_setF {f : Nat} (hK : X.K = G.K) (inj : ∀ g, (G.L.fld g == G.L.fld f) = (g == f)) (hC : ∀ c C, ClsOk G c C → NoAttr G.K C (G.L.fld f)) (ho : PE X o (tVar i)) (he : PE X e (tI G run W e'))
    (hs : swapsWith e (some (.Attribute o (G.L.fld f) pos')) pos.line X.env = pure false) : PS X (.Assign [.Attribute o (G.L.fld f) pos'] e pos) (tSt G run W (.setF i f e')) := by
  refine PS.imp (ps_fld ho he hs) fun De σ H h => ?_
  obtain ⟨fc, fm, ex, s, F, p⟩ := h
  rw [exT] at p
  refine ⟨fc, fm, ex, s, F, (p.bind (RA := RE G fc fm ex σ)).imp fun v H1 ⟨r, s1, _, st1, F1, r1, p1⟩ => ?_⟩
  cases q : esc s1 r with
  | none => rw [q] at p1; exact p1.elim
  | some pr =>
    obtain ⟨d, s2⟩ := pr
    rw [q] at p1
    simp only at p1
    obtain ⟨F2, st2, dr⟩ := esc_ok F1 r1 q
    cases e0 : s2.get i with
    | new c fs =>
      rw [e0] at p1
      simp only at p1
      split at p1
      · rename_i hz
        simp only [Bool.and_eq_true, decide_eq_true_eq, Option.isNone_iff_eq_none] at hz
        have w := F2.slots i
        rw [e0] at w
        obtain ⟨b, C, dx, gs, e1, e2, om, t⟩ := w
        refine ⟨.ref b, e1, b, C, dx, gs, rfl, e2, by rw [hK]; exact om.1.cls, by rw [hK]; exact hC c C om.1, by rw [← t.length]; omega, ?_⟩
        have bb : Br fm ex s2 σ b := .inr (.inr ⟨i, by rw [e0]; rfl, e1⟩)
        have w : SlOk G fc fm (upd H1 b (.ins C dx (putF (G.L.fld f) v gs))) (Br fm ex s2 σ) σ[i]? (.new c (fs ++ [(f, d)])) := ⟨b, C, dx, _, e1, upd_same, om, FRs.put inj (DR.upd bb dr) hz.2 (t.upd bb)⟩
        exact p1 fm σ _ (F2.mutX e0 rfl rfl rfl rfl e1 w).1
      · exact p1.elim
    | _ => rw [e0] at p1; exact p1.elim
section
variable {k : Nat} {fa : Addr} {fd : FuncData} {ps : List Str} {f : Nat} {ta : TE}
/-- f(a), the argument by its own reading -/
theorem pe_callR (F : FnOk X.prog X.w X.K X.mg X.base (L2.CX X.prog X.w) k fa fd ps (SpF G run f ps.length)) (hr : Room k X.A) (tk : Takes X W) (hg : Gl X x) (hm : X.mg x = some (.ref fa)) (hk : PySem.W.keepIn X.K (.ref fa) = true) (hdb : (x == ("__debug__" : Str)) = false)
    (B : KBd X.K fd ps [] 1 some) (hn : noStar a = true) (ha : PE X a ta) (hw : ∀ σ H (Q : List V → Hp → Prop), ta σ H (fun v H1 => Q [v] H1) → ta σ H fun v H1 => [v].length = 1 ∧ Q [v] H1) : PE X (.Call (.Name x p) [a] [] pos) (fun σ H Q => ta σ H fun v H1 => SpF G run f ps.length [v] H1 Q (WE W σ)) := by
  refine ⟨fun pins s σ H Q I h => ?_⟩
  refine wpAny_Call_Name_kw (ld_glob I hg hm ?_ hdb)
  refine cw (ks := []) I.ok.mod.kin hk (by simp [hn]) rfl (fun e => nomatch e) ?_
  refine thn ((pa_cons ha pa_nil (star1 hn [] X.env)).run pos pins s σ H (fun vs H1 => vs.length = 1 ∧ SpF G run f ps.length vs H1 Q (WE W σ)) I ?_) fun us s1 ⟨vs, H1, I1, r, hl, q⟩ => ?_
  · exact hw σ H (fun vs H1 => SpF G run f ps.length vs H1 Q (WE W σ)) h
  · refine wpAny_pure ⟨I1.kIn, ?_⟩
    exact run_G (us := us) (ws := []) F hr tk B I1 (by rw [List.append_nil]; exact r) (by rw [← r.length]; exact hl) rfl rfl q
end
theorem exC_nil {b : Addr} (h : Br fm ex s σ b) : CB fm (exC fm ex s σ []) b := by
  by_cases m : b ∈ fm
  · exact .inl m
  · exact .inr ⟨h, m, fun ⟨i, h, _⟩ => nomatch h⟩
/-- if not f(a new list): .. -/
theorem s_iteB {k : Nat} {fa : Addr} {fd : FuncData} {ps : List Str} {f : Nat} {body orelse : List Stmt} {x' y' : List T} (F : FnOk X.prog X.w X.K X.mg X.base (L2.CX X.prog X.w) k fa fd ps (SpF G run f ps.length)) (hps : ps.length = 1) (hr : Room k X.A) (tk : Takes X W) (hg : Gl X x) (hm : X.mg x = some (.ref fa)) (hk : PySem.W.keepIn X.K (.ref fa) = true) (hdb : (x == ("__debug__" : Str)) = false)
    (B : KBd X.K fd ps [] 1 some) (hn : noStar a = true) (ha : PE X a (tI G run W a')) (hx : PSs X orelse (tSs G run W x')) (hy : PSs X body (tSs G run W y')) :
    PS X (.If (.UnaryOp .Not (.Call (.Name x p) [a] [] pos2) upos) body orelse pos) (tSt G run W (.iteB f a' x' y')) := by
  refine PS.imp (ps_if (pt_not (pt_val (pe_callR F hr tk hg hm hk hdb B hn ha ?_) fun _ => rfl)) hy hx) fun De σ H h => ?_
  · rintro σ H Q ⟨fc, fm, ex, s, F, p⟩
    exact ⟨fc, fm, ex, s, F, p.imp fun v H1 q => ⟨rfl, q⟩⟩
  obtain ⟨fc, fm, ex, s, F0, p0⟩ := h
  rw [exT] at p0
  refine ⟨fc, fm, ex, s, F0, (p0.bind (RA := RE G fc fm ex σ)).imp fun v H1 ⟨r, s1, _, st1, F1, r1, p1⟩ => ?_⟩
  cases r with
  | own d =>
    cases d with
    | lst xs =>
      simp only at p1
      split at p1
      · rename_i hf
        obtain ⟨b, rfl, F2⟩ := F1.addCell s1.env.length r1 hf
        have eσ : σ.set s1.env.length (some (.ref b)) = σ := List.set_eq_of_length_le (by rw [F1.len]; exact Nat.le_refl _)
        have eE : s1.env.set s1.env.length (.cell s1.cells.length) = s1.env := List.set_eq_of_length_le (Nat.le_refl _)
        rw [eσ, eE] at F2
        refine ⟨hps.symm, [.cell s1.cells.length], s1.cells ++ [xs], fm ++ [b], _, F2.cpre [], ⟨_, [], rfl, ⟨b, by rw [← F1.fml]; simp, rfl⟩, rfl⟩, ?_⟩
        revert p1
        cases run f [.cell s1.cells.length] (s1.cells ++ [xs]) with
        | stuck => exact fun p1 => p1
        | exc c fs cs =>
          intro p1 C d H' cp xr
          have F3 := F2.call cp fun _ h => .inl h
          exact p1 _ σ C d H' F3 (xr.less fun a h => exC_nil h)
        | ok t cs =>
          cases t with
          | d y =>
            cases y with
            | bl q =>
              intro p1 v H' cp rr
              obtain rfl : v = .bl q := rr
              have F3 := F2.call cp fun _ h => .inl h
              refine ⟨q, rfl, ?_⟩
              cases q with
              | true => exact ⟨fc, _, ex, _, F3, p1⟩
              | false => exact ⟨fc, _, ex, _, F3, p1⟩
            | _ => exact fun p1 => p1.elim
          | _ => exact fun p1 => p1.elim
      · exact p1.elim
    | _ => exact p1.elim
  | _ => exact p1.elim
end
end Py
end SB32
section SB33
set_option autoImplicit false
set_option linter.all false
set_option maxRecDepth 100000
set_option maxHeartbeats 4000000
/-! sorted(set(a list of ints)). -/
namespace Py
open PySem PySem.Spec PyProof.Rows L2

/-- a new set's object -/
abbrev nS (w : World) : Obj := { cls := .type "set", dict := none, data := .set #[] 0 (.fresh 0 0 (!w.params.followText "set-order")) }
section
variable {P : Program} {w : World} {A : Around} {E : Value → Shared → Prop} {s : Shared}
set_option maxRecDepth 100000 in
set_option maxHeartbeats 8000000 in
theorem set_of_ints {l : Addr} {items : Array Value} (ns : List Int) {Q : Value → Shared → Prop} (hA : A.handled = none) (hl : s.heap.IsList l items) (hit : IntsAre items.toList ns) (hb : ns.length + 1 < scanBound)
    (h : ∀ (h' : Heap) (tk c : Nat), SetR w h' s.heap.objs.size (fun j => decide (j ∈ ns)) c → c ≤ ns.length → (∀ b o, s.heap.get? b = some o → h'.get? b = some o) → Q (.ref s.heap.objs.size) { s with heap := h', toks := tk }) :
    wpAny (model P w) A (call (.type "set") [.ref l]) Q E s := by
  have hsz : items.size = ns.length := by rw [← Array.length_toList]; exact IntsAre.length hit
  have hmro := F.called_set.mro; obtain ⟨c0, tl, hmro⟩ := hmro
  have hmade := F.called_set.made; have hsub := F.called_set.sub; have hnt := F.called_set.notType; have hcr := F.called_set.canCreate; have hct := F.typeCall_set_1 (.ref l)
  refine wpAny_call (codeAny_of_tree (show wpAny _ _ (callAny (.type "set") _) _ _ _ from wpAny_pure ⟨Code.quiet_builtin _ (by decide +kernel), codeAny_builtin F.entry_type_call ?_⟩))
  rw [Around.under_plain (weight_type_call_type "set" [.ref l] []) rfl]
  repeat (any_goals (first | assumption | wp_step))
  refine codeAny_mono (L2.code_set_led1 (.ref l) (E := E) (Q₁ := fun ob s₁ => ob = .ref s.heap.objs.size ∧ s₁ = { s with heap := s.heap.push (nS w) }) ⟨rfl, rfl⟩) fun r s₁ hr => ?_
  rcases r with e | (ob | _ | _ | _) <;> first | exact hr | exact hr.elim | skip
  obtain ⟨rfl, rfl⟩ := hr
  have hS : (s.heap.push (nS w)).get? s.heap.objs.size = some (nS w) := Heap.get?_push_size _ rfl
  have hT : Shared.TypeIs { s with heap := s.heap.push (nS w) } (.ref s.heap.objs.size) "set" := ⟨_, hS, rfl⟩
  have hli := F.called_set.init.lookup; have hbi := F.called_set.init.bind (.ref s.heap.objs.size)
  repeat (any_goals (first | assumption | wp_step))
  refine codeAny_mono (codeAny_call_builtin (R := wants (fun r s₂ => r = .none ∧ ∃ h' tk c, s₂ = { s with heap := h', toks := tk } ∧ SetR w h' s.heap.objs.size (fun j => decide (j ∈ ns)) c ∧ c ≤ ns.length ∧ (∀ b o, s.heap.get? b = some o → h'.get? b = some o)) E)
    F.called_set.init.plain F.entry_set_init (check_set_init_1 hT ?_)) fun r₂ s₂ hr₂ => ?_
  · obtain ⟨⟨oc, od, odt, osl⟩, hol, hcl, nl, hdl⟩ := hl
    cases hcl; cases hdl
    have hol' : (s.heap.push (nS w)).get? l = some { cls := .type "list", dict := od, data := .seq items nl, slots := osl } := Heap.get?_push_of_some _ hol
    have k1 := F.sub_list_set; have k2 := F.sub_list_frozenset; have k3 : (Value.type "list" == Value.type "dict") = false := by decide
    have hl1 : (s.heap.push (nS w)).IsList l items := ⟨_, hol', rfl, nl, rfl⟩
    unfold Builtin.«set.__init__» noKeywords Builtin.Frozenset.updateFrom
    generalize hPI : pyIter = PI
    wp_walk
    subst hPI
    refine wpAny_pyIter_list hl1 (wpAny_bind (wpAny_runValue ?_))
    have hlt : l < s.heap.objs.size := Heap.lt_size hol
    have z1 : (s.heap.push (nS w)).objs.size = s.heap.objs.size + 1 := Heap.size_push ..
    have n1 : l ≠ (s.heap.push (nS w)).objs.size := Nat.ne_of_lt (by rw [z1]; exact Nat.lt_succ_of_lt hlt)
    have n2 : s.heap.objs.size ∉ [(s.heap.push (nS w)).objs.size, l] := by
      rw [z1]; intro hm
      rcases List.mem_cons.mp hm with e | e
      · exact absurd e (Nat.ne_of_lt (Nat.lt_succ_self _))
      · exact Nat.lt_irrefl _ (show l < l from (List.mem_singleton.mp e) ▸ hlt)
    have hval : ∀ (i : Nat) (v : Value), items[i]? = some v → ∃ k t, ns[i]? = some k ∧ v = .int k t := fun i v hv => by
      have hi : i < ns.length := by have := (Array.getElem?_eq_some_iff.mp hv).1; omega
      obtain ⟨t, e⟩ := PyProof.Rows.IntsAre.int_at hit i v (by rw [Array.getElem?_toList]; exact hv)
      exact ⟨ns[i], t, List.getElem?_eq_getElem hi, by rw [e, List.getD_eq_getElem?_getD, List.getElem?_eq_getElem hi] <;> rfl⟩
    refine L2.set_update_ints ((Walks.list (by simp [hA]) _ l n1 items).toS) s.heap.objs.size n2 ns hsz hb hval (items.size - 0) 0 _ (by omega) (Nat.zero_le _) ⟨⟨_, Heap.get?_push_size _ rfl, rfl, rfl⟩, (hl1.push _)⟩ ?_ ?_
    · exact ⟨0, Nat.le_refl 0, L2.setR_new_at (Heap.get?_push_of_some _ hS)⟩
    · intro ⟨h', g2, d', tk', os'⟩ c' hm hc' hS'
      have eg : g2 = s.gens := hm.gens; have ed : d' = s.drawn := hm.drawn; have eo : os' = s.os := hm.os
      subst eg; subst ed; subst eo
      show wpAny _ _ _ _ _ _
      refine wpAny_pure (show wpAny _ _ (ret Value.none) _ _ _ from wpAny_pure ⟨rfl, h', tk', c', rfl, hS', by omega, fun b o e => ?_⟩)
      have hb0 : b < s.heap.objs.size := Heap.lt_size e
      refine hm.heap b o (fun hm => ?_) (Heap.get?_push_of_some _ (Heap.get?_push_of_some _ e))
      rcases List.mem_cons.mp hm with e | e
      · exact Nat.lt_irrefl _ (show b < b from e ▸ hb0)
      · exact Nat.lt_irrefl _ (Nat.lt_trans hb0 (show s.heap.objs.size < b from by rw [List.mem_singleton.mp e, z1]; exact Nat.lt_succ_self _))
  · rcases r₂ with e | (r | _ | _ | _) <;> first | exact hr₂ | exact hr₂.elim | skip
    obtain ⟨rfl, h', tk, c', rfl, hS', hc', hk'⟩ := hr₂
    repeat (any_goals (first | assumption | wp_step))
    exact h _ _ _ hS' hc' hk'
end
section
variable {X : Cx}
def rSetOfI (K : PySem.W.Frag) (w : World) : List V → Hp → VK → Prop := fun xs H Q => ∃ (l : Addr) (ns : List Int), xs = [V.ref l] ∧ SqL K H l (ns.map V.int) ∧ ns.length < 64 ∧
  ∀ (p : Addr) (n : Nat), H p = none → n ≤ ns.length → Q (.ref p) (upd H p (SetO w p (fun j => decide (j ∈ ns)) n))
theorem cr_setOfI (hc : X.calm = true) : CallR X (.type "set") (rSetOfI X.K X.w) := by
  intro pins s σ H vs us Q I r h
  obtain ⟨l, ns, rfl, hs, hn, q⟩ := h
  rw [Vals.ref1 r]
  obtain ⟨its, rv, pl, hz⟩ := I.list hs
  refine set_of_ints ns (I.ok.hd hc) pl.isList rv.ints (by unfold scanBound; omega) fun h' tk c hS hc' hk => ?_
  have hf : H s.heap.objs.size = none := I.hok.fresh (Nat.le_refl _)
  exact ⟨.ref s.heap.objs.size, _, I.laid (t' := tk) hk (Nat.le_refl _) (L2.setO_new hS), rfl, q _ _ hf hc'⟩
end
/-! ### the sorted ones -/
theorem insI_mem {x z : Int} : ∀ {l : List Int}, z ∈ insI x l ↔ z = x ∨ z ∈ l
  | [] => by simp [insI]
  | y :: r => by
    unfold insI
    split
    · simp
    · simp only [List.mem_cons, insI_mem]
      exact ⟨fun h => h.elim (fun h => .inr (.inl h)) fun h => h.elim .inl fun h => .inr (.inr h), fun h => h.elim (fun h => .inr (.inl h)) fun h => h.elim .inl fun h => .inr (.inr h)⟩
theorem insI_lt {x : Int} : ∀ {l : List Int}, l.Pairwise (· < ·) → x ∉ l → (insI x l).Pairwise (· < ·)
  | [], _, _ => by simp [insI]
  | y :: r, h, n => by
    obtain ⟨h1, h2⟩ := List.pairwise_cons.mp h
    unfold insI
    have ny : x ≠ y := fun e => n (by rw [e]; exact List.mem_cons_self)
    split
    · rename_i hle
      refine List.pairwise_cons.mpr ⟨fun z hz => ?_, h⟩
      rcases List.mem_cons.mp hz with e | e
      · omega
      · have := h1 z e; omega
    · rename_i hle
      refine List.pairwise_cons.mpr ⟨fun z hz => ?_, insI_lt h2 fun m => n (List.mem_cons_of_mem _ m)⟩
      rcases insI_mem.mp hz with e | e
      · omega
      · exact h1 z e
theorem sortI_mem' {z : Int} : ∀ {l : List Int}, z ∈ sortI l ↔ z ∈ l
  | [] => by simp [sortI]
  | y :: r => by simp only [sortI, insI_mem, sortI_mem' (l := r), List.mem_cons]
theorem sortI_lt : ∀ {l : List Int}, l.Nodup → (sortI l).Pairwise (· < ·)
  | [], _ => .nil
  | y :: r, h => by
    obtain ⟨h1, h2⟩ := List.nodup_cons.mp h
    exact insI_lt (sortI_lt h2) fun m => h1 (sortI_mem'.mp m)
theorem lt_unique : ∀ {l m : List Int}, l.Pairwise (· < ·) → m.Pairwise (· < ·) → (∀ z, z ∈ l ↔ z ∈ m) → l = m
  | [], [], _, _, _ => rfl
  | [], y :: m, _, _, h => absurd ((h y).mpr List.mem_cons_self) (by simp)
  | x :: l, [], _, _, h => absurd ((h x).mp List.mem_cons_self) (by simp)
  | x :: l, y :: m, h1, h2, h => by
    obtain ⟨a1, a2⟩ := List.pairwise_cons.mp h1
    obtain ⟨b1, b2⟩ := List.pairwise_cons.mp h2
    have e : x = y := by
      rcases List.mem_cons.mp ((h x).mp List.mem_cons_self) with e | e
      · exact e
      · rcases List.mem_cons.mp ((h y).mpr List.mem_cons_self) with e2 | e2
        · exact e2.symm
        · have := b1 x e; have := a1 y e2; omega
    subst e
    rw [lt_unique a2 b2 fun z => ⟨fun hz => ?_, fun hz => ?_⟩]
    · rcases List.mem_cons.mp ((h z).mp (List.mem_cons_of_mem _ hz)) with e | e
      · have := a1 z hz; omega
      · exact e
    · rcases List.mem_cons.mp ((h z).mpr (List.mem_cons_of_mem _ hz)) with e | e
      · have := b1 z hz; omega
      · exact e
theorem mem_eraseDups' (z : Int) (l : List Int) : z ∈ l.eraseDups ↔ z ∈ l := by simp
theorem nodup_eraseDups : ∀ (n : Nat) (l : List Int), l.length ≤ n → l.eraseDups.Nodup
  | _, [], _ => by simp
  | 0, x :: l, h => by simp at h
  | n + 1, x :: l, h => by
    rw [List.eraseDups_cons]
    refine List.nodup_cons.mpr ⟨?_, nodup_eraseDups n _ ?_⟩
    · rw [mem_eraseDups']
      simp
    · have := List.length_filter_le (fun b => !b == x) l
      simp only [List.length_cons] at h
      omega
section
variable {G : Gx} {fc : Fc} {fm : List Addr} {ex : Bar} {σ : L2.St} {s s1 : S} {H H1 : Hp} {W : WX} {run : Run} {X : Cx} {pos p pos2 p2 : Pos} {a : Expr} {a' : E}
/-- sorted(set(xs)) -/
theorem e_sortedSet (hc : X.calm = true) (hK : X.K = G.K) (hg : Gl X "sorted") (hm : X.mg "sorted" = none) (hg2 : Gl X "set") (hm2 : X.mg "set" = none) (hn : noStar a = true) (ha : PE X a (tI G run W a')) :
    PE X (.Call (.Name "sorted" p) [.Call (.Name "set" p2) [a] [] pos2] [] pos) (tI G run W (.bi .sortedSet [a'])) := by
  have h1 := star1 hn [] X.env
  refine PE.imp (pe_callB (cr_sortedSet (X := X) hc) hg hm rfl (pa_cons (pe_callTy (cr_setOfI (X := X) hc) hg2 hm2 rfl (pa_cons ha pa_nil h1) (he := h1)) pa_nil rfl)) fun σ H Q h => ?_
  obtain ⟨fc, fm, ex, s, F, p⟩ := h
  refine ⟨fc, fm, ex, s, F, ?_⟩
  simp only [evE, evEs, Out.bind_assoc] at p
  refine (p.bind (RA := RE G fc fm ex σ)).imp fun v H1 ⟨r, s1, _, st1, F1, r1, p1⟩ => ?_
  simp only [Out.bind, rdats, rdat_wk] at p1
  cases er : rdat s1 r with
  | none => rw [er] at p1; exact p1.elim
  | some d =>
    rw [er] at p1
    simp only [Option.bind, Option.map] at p1
    cases d with
    | lst xs =>
      simp only [biOp] at p1
      cases ei : toI xs with
      | none => rw [ei] at p1; exact p1.elim
      | some ns =>
        rw [ei] at p1
        simp only at p1
        split at p1
        · rename_i hl
          obtain ⟨l, vs, rfl, q, t⟩ := (show RD G H1 (Br fm ex s1 σ) (.lst xs) v from r1.data F1 er)
          have ev := DRs.toI ei t
          subst ev
          rw [← hK] at q
          refine ⟨l, ns, rfl, q, hl, fun b n hb hle => ⟨b, _, n, rfl, upd_same, by omega, fun ms c hlt hmem hlen hcn => ?_⟩⟩
          have e : ms = sortI ns.eraseDups := lt_unique hlt (sortI_lt (nodup_eraseDups _ ns (Nat.le_refl _))) fun z => by
            rw [hmem z, sortI_mem', mem_eraseDups']
            simp
          subst e
          have hc1 : c ≠ b := fun w => by rw [w, upd_same] at hcn; cases hcn
          refine p1 _ _ ((Stp.alloc hb).trans (.alloc hcn)) ((F1.alloc hb).alloc hcn) (RR.newL (F1.alloc hb) hcn (DRs.ofI _))
        · exact p1.elim
    | _ => exact p1.elim
end
end Py
end SB33
section SC1
set_option autoImplicit false
set_option linter.all false
set_option maxRecDepth 100000
set_option maxHeartbeats 4000000
/-! The check of a row's text against the evaluator's own text. -/
namespace Py
open PySem L2

theorem pe_and1 {X : Cx} {a : Expr} {ta : TE} {pos : Pos} (ha : PE X a ta) : PE X (.BoolOp .And [a] pos) ta := ⟨fun pins s σ H Q I h => by
  have := ha.run pins s σ H Q I h
  rw [show eval (.BoolOp .And [a] pos) X.env = eval a X.env from by with_unfolding_all rfl]
  exact this⟩
theorem pe_or1 {X : Cx} {a : Expr} {ta : TE} {pos : Pos} (ha : PE X a ta) : PE X (.BoolOp .Or [a] pos) ta := ⟨fun pins s σ H Q I h => by
  have := ha.run pins s σ H Q I h
  rw [show eval (.BoolOp .Or [a] pos) X.env = eval a X.env from by with_unfolding_all rfl]
  exact this⟩
/-- what a context must be -/
structure CxOk (G : Gx) (prog : Program) (w : World) (base : Heap) (N : List Str) (sc : Scope) (k : Nat) (W : WX) (X : Cx) : Prop where
  K : X.K = G.K
  mg : X.mg = G.mg
  prog : X.prog = prog
  w : X.w = w
  base : X.base = base
  eN : X.N = N
  nd : N.Nodup
  eS : X.env.scope = sc
  calm : X.calm = true
  room : Room (k + 1) X.A
  tk : Takes X W
/-- the names of the built-ins -/
def blNames : List Str := ["len", "abs", "max", "min", "int", "str", "sum", "any", "all", "sorted", "list", "tuple", "isinstance", "range", "bool", "dict", "enumerate", "zip", "set"]
/-- plain parameters -/
def plainA (a : Arguments) (ps : List Str) : Bool := a.posonlyargs.isEmpty && a.args.map (·.arg) == ps && a.kwonlyargs.isEmpty && a.vararg.isNone && a.kwarg.isNone
/-- the module's facts, and that the defs keep their promise at depth k -/
structure GOk (G : Gx) (prog : Program) (w : World) (base : Heap) (run : Run) (dd : Nat → List D) (fns : Nat → Bool) (k : Nat) : Prop where
  fn : ∀ f, fns f = true → ∃ fa fd, G.mg (G.L.fnm f) = some (.ref fa) ∧ PySem.W.keepIn G.K (.ref fa) = true ∧ FnOk prog w G.K G.mg base (L2.CX prog w) k fa fd (G.L.ps f) (SpF G run f (G.L.ps f).length) ∧
    ∃ x qual params body scope dvs, FunD G.K x qual params body scope dvs [] fa fd ∧ plainA params (G.L.ps f) = true ∧ (dd f).map conV = dvs.map some
  bl : ∀ x ∈ blNames, G.mg x = none
  con : ∀ g d, G.P.con g = some d → ∃ v u, G.mg (G.L.glo g) = some u ∧ RelV v u ∧ ∀ H B, DR G H B d v
  cl : ∀ c f, G.P.init c = some f → ∃ C fa fd, ClsOk G c C ∧ Mk G.K C fa ∧ FnOk prog w G.K G.mg base (L2.CX prog w) k fa fd (G.L.ps f) (SpI G run c f (G.L.ps f).length) ∧
    ∃ x qual params body scope dvs, FunD G.K x qual params body scope dvs [] fa fd ∧ plainA params (G.L.ps f) = true ∧ (dd f).map conV = dvs.map some
  mt : ∀ c m f, G.P.meth c m = some f → ∀ C, ClsOk G c C → ∃ fa fd, Meth G.K C (G.L.mth m) fa ∧ FnOk prog w G.K G.mg base (L2.CX prog w) k fa fd (G.L.ps f) (SpF G run f (G.L.ps f).length) ∧
    ∃ x qual params body scope dvs, FunD G.K x qual params body scope dvs [] fa fd ∧ plainA params (G.L.ps f) = true ∧ (dd f).map conV = dvs.map some
/-! ### the check -/
structure Ch where
  e : Scope → Expr → E → Bool
  t : Scope → Expr → E → Bool
  it : Scope → Expr → Expr → Py.It → Bool
def isGl (sc : Scope) (x : Str) : Bool := sc.names.lookup x == some .globalImplicit && x != "__debug__"
def isVis (sc : Scope) (x : Str) : Bool := (match sc.names.lookup x with
  | some .local => true
  | some .cell => true
  | some .free => true
  | _ => false) && x != "__debug__" && x != "__classdict__"
def isLoc (sc : Scope) (x : Str) : Bool := match sc.names.lookup x with
  | some .local => true
  | some .cell => true
  | _ => false
def ckEs (f : Expr → E → Bool) : List Expr → List E → Bool
  | [], [] => true
  | a :: as, b :: bs => noStar a && f a b && ckEs f as bs
  | _, _ => false
def ckKw (f : Expr → E → Bool) : List Keyword → List E → Bool
  | [], [] => true
  | a :: as, b :: bs => a.arg.isSome && f a.value b && ckKw f as bs
  | _, _ => false
def ckKs (f : Expr → E → Bool) : List (Option Expr) → List Expr → List (E × E) → Bool
  | [], [], [] => true
  | some k :: ks, v :: vs, kv :: r => f k kv.1 && f v kv.2 && ckKs f ks vs r
  | _, _, _ => false
def ckAnd (f : Expr → E → Bool) : List Expr → E → Bool
  | [], _ => false
  | [a], b => f a b
  | a :: c :: r, b => (match b with
    | .and a' b' => f a a' && ckAnd f (c :: r) b'
    | _ => false)
def ckOr (f : Expr → E → Bool) : List Expr → E → Bool
  | [], _ => false
  | [a], b => f a b
  | a :: c :: r, b => (match b with
    | .or a' b' => f a a' && ckOr f (c :: r) b'
    | _ => false)
def ckCon : Const → D → Bool
  | .none, .non => true
  | .bool b, .bl c => b == c
  | .int i, .int j => i == j
  | .str s, .str z => s.cps.toList == z && okS z
  | _, _ => false
structure Tb where
  L : Lk
  con : Nat → Bool
  dd : Nat → List D
  fns : Nat → Bool
  init : Nat → Option Nat
  fld : Nat → Bool
  mt : Nat → Option Nat := fun _ => none
def ckTy (tb : Tb) (sc : Scope) : Expr → Ty → Bool
  | .Name x _, .cls c => isGl sc x && x == tb.L.cls c && (tb.init c).isSome
  | .Name x _, t => isGl sc x && (match tyNm t with
    | some n => x == (Str.ofString n)
    | none => false)
  | _, _ => false
def ckTys (tb : Tb) (sc : Scope) : List Expr → List Ty → Bool
  | [], [] => true
  | a :: as, b :: bs => ckTy tb sc a b && ckTys tb sc as bs
  | _, _ => false
def notSet : Expr → Bool
  | .Set _ _ _ => false
  | _ => true
theorem notSet_ok {e : Expr} (h : notSet e = true) (env : Env) : ∀ x, foldedSetIterable e env x = pure x := by
  intro x
  cases e <;> first | rfl | cases h
def plainIx : Expr → Bool
  | .Slice _ _ _ _ => false
  | _ => true
/-- what may stand ahead of a dot -/
def plainO : Expr → Bool
  | .Call _ _ _ _ => false
  | _ => true
def ckTg (N : List Str) (sc : Scope) : Nat → Expr → Tg → Bool
  | _, .Name x _, .nm i => N[i]? == some x && isLoc sc x
  | n + 1, .Tuple es _ _, .tup ts => ckTgs (ckTg N sc n) es ts
  | _, _, _ => false
where ckTgs (f : Expr → Tg → Bool) : List Expr → List Tg → Bool
  | [], [] => true
  | a :: as, b :: bs => noStar a && f a b && ckTgs f as bs
  | _, _ => false
def ownOf' (N : List Str) (own : List Nat) : List (Str × Nat) := own.filterMap fun i => (N[i]?).map fun x => (x, i)
def ckJoin (f : Expr → E → Bool) (a : Expr) (es : List E) : Bool := match a with
  | .Call (.Attribute (.Constant (.str z) _ _) m ap) [e0] [] cp => (match es with
    | [.con (.str z'), e1] => z.cps.toList == z' && okS z' && m == "join" && ap.endLine == cp.line && noStar e0 && f e0 e1
    | _ => false)
  | _ => false
def ckBi (f : Expr → E → Bool) (sc : Scope) (a : Expr) (k : Bi) (es : List E) : Bool := match a with
  | .Call (.Name x _) (a0 :: as) [] _ => k != .sortedSet && k != .lenSet && x == (Str.ofString (biNm k)) && isGl sc x && ckEs f (a0 :: as) es
  | _ => false
variable (tb : Tb) (N : List Str)
def ckE (c : Ch) (sc : Scope) (a : Expr) (b : E) : Bool := match b with
  | .loc i => (match a with
    | .Name x _ => N[i]? == some x && isVis sc x
    | _ => false)
  | .con d => (match a with
    | .Constant k _ _ => ckCon k d
    | _ => false)
  | .glo g => (match a with
    | .Name x _ => x == tb.L.glo g && isGl sc x && tb.con g
    | _ => false)
  | .bin op l r => (match a with
    | .BinOp l0 o r0 _ => o == op && c.e sc l0 l && c.e sc r0 r
    | _ => false)
  | .un op x => (match a with
    | .UnaryOp o x0 _ => o == op && op != .UAdd && c.e sc x0 x
    | _ => false)
  | .and _ _ => (match a with
    | .BoolOp .And vs _ => ckAnd (c.e sc) vs b
    | _ => false)
  | .or _ _ => (match a with
    | .BoolOp .Or vs _ => ckOr (c.e sc) vs b
    | _ => false)
  | .ite t x y => (match a with
    | .IfExp t0 x0 y0 _ => c.t sc t0 t && c.e sc x0 x && c.e sc y0 y
    | _ => false)
  | .cmp op x y => (match a with
    | .Compare x0 [o] [y0] _ => o == op && op != .Is && op != .IsNot && !behindInMarks op y0 && c.e sc x0 x && c.e sc y0 y
    | _ => false)
  | .cmp2 op op' x y z => (match a with
    | .Compare x0 [o, o'] [y0, z0] _ => o == op && o' == op' && !lastMarks [op, op'] [y0, z0] && c.e sc x0 x && c.e sc y0 y && c.e sc z0 z
    | _ => false)
  | .isN neg x => (match a with
    | .Compare x0 [o] [.Constant .none _ _] _ => o == isNop neg && c.e sc x0 x
    | _ => false)
  | .isB neg k x => (match a with
    | .Compare x0 [o] [.Constant (.bool k0) _ _] _ => o == isNop neg && k0 == k && c.e sc x0 x
    | _ => false)
  | .isi x ts => (match a with
    | .Call (.Name f _) [x0, t0] [] _ => f == "isinstance" && isGl sc f && noStar x0 && noStar t0 && c.e sc x0 x && (match ts with
      | [t] => ckTy tb sc t0 t
      | _ => (match t0 with
        | .Tuple es _ _ => es.all noStar && ckTys tb sc es ts && decide (ts.length ≤ 20)
        | _ => false))
    | _ => false)
  | .call f es => (match a with
    | .Call (.Name x _) args [] _ => tb.fns f && x == tb.L.fnm f && isGl sc x && args.length == (tb.L.ps f).length && decide ((tb.dd f).length ≤ (tb.L.ps f).length) && decide (tb.L.ps f).Nodup && ckEs (c.e sc) args es
    | _ => false)
  | .callK f es ix => (match a with
    | .Call (.Name x _) args kws _ => tb.fns f && x == tb.L.fnm f && isGl sc x && decide (tb.L.ps f).Nodup && decide (args.length ≤ (tb.L.ps f).length) && decide ((tb.dd f).length ≤ (tb.L.ps f).length) && (match kwNames kws with
        | none => false
        | some ks => kwOk (tb.L.ps f) ((tb.L.ps f).take args.length) ks && ((tb.L.ps f).take ((tb.L.ps f).length - (tb.dd f).length)).all (fun p => ((tb.L.ps f).take args.length ++ ks).contains p) && decide ((tb.L.ps f).take args.length ++ ks).Nodup &&
          ixOk ((tb.L.ps f).take args.length ++ ks) ((tb.L.ps f).drop ((tb.L.ps f).length - (tb.dd f).length)) (tb.dd f) (tb.L.ps f) ix) &&
        conIx (some ix) && ckEs (c.e sc) args (es.take args.length) && ckKw (c.e sc) kws (es.drop args.length)
    | _ => false)
  | .bi k es => if k == .join then ckJoin (c.e sc) a es else if k == .sortedSet then (match a, es with
      | .Call (.Name f _) [.Call (.Name g _) [v] [] _] [] _, [e] => f == "sorted" && g == "set" && isGl sc f && isGl sc g && noStar v && c.e sc v e
      | _, _ => false) else ckBi (c.e sc) sc a k es
  | .mk k es => (match a, tb.init k with
    | .Call (.Name x _) args [] _, some f => x == tb.L.cls k && isGl sc x && args.length + 1 == (tb.L.ps f).length && decide ((tb.dd f).length ≤ (tb.L.ps f).length) && decide (tb.L.ps f).Nodup && ckEs (c.e sc) args es
    | _, _ => false)
  | .fld x f => (match a with
    | .Attribute x0 m _ => m == tb.L.fld f && tb.fld f && plainO x0 && c.e sc x0 x
    | _ => false)
  | .meth o m es => (match a, tb.mt m with
    | .Call (.Attribute o0 n ap) args [] cp, some np => n == tb.L.mth m && plainO o0 && args.length + 1 == np && decide (args.length < 30) && ap.endLine == cp.line && c.e sc o0 o && ckEs (c.e sc) args es
    | _, _ => false)
  | .pop i (some e) => (match a with
    | .Call (.Attribute (.Name x _) m p) [v] [] q => N[i]? == some x && isVis sc x && m == "pop" && p.endLine == q.line && noStar v && c.e sc v e
    | _ => false)
  | .ofIt .list (.range [e]) => (match a with
    | .Call (.Name f _) [.Call (.Name g _) [v] [] _] [] _ => f == "list" && g == "range" && isGl sc f && isGl sc g && noStar v && c.e sc v e
    | _ => false)
  | .ix x y => (match a with
    | .Subscript x0 y0 _ => plainIx y0 && c.e sc x0 x && c.e sc y0 y
    | _ => false)
  | .sl x lo hi => (match a with
    | .Subscript x0 (.Slice lo0 hi0 none _) _ => c.e sc x0 x && (match lo0, lo with
        | none, none => true
        | some p, some q => c.e sc p q
        | _, _ => false) && (match hi0, hi with
        | none, none => true
        | some p, some q => c.e sc p q
        | _, _ => false)
    | _ => false)
  | .tup es => (match a with
    | .Tuple es0 _ _ => ckEs (c.e sc) es0 es
    | _ => false)
  | .lst es => (match a with
    | .List es0 _ => ckEs (c.e sc) es0 es
    | _ => false)
  | .dic kvs => (match a with
    | .Dict ks vs _ => (ks.isEmpty && vs.isEmpty && kvs.isEmpty) || (!ks.isEmpty && decide (ks.length ≤ 15) && ckKs (c.e sc) ks vs kvs)
    | _ => false)
  | .pick kvs kx => (match kx with
    | .loc i => (match a with
      | .Subscript (.Dict ks vs _) (.Name x _) _ => N[i]? == some x && isVis sc x && !ks.isEmpty && decide (ks.length ≤ 15) && ckKs (c.e sc) ks vs kvs
      | _ => false)
    | _ => false)
  | .lc elt tg it ifs own => (match a with
    | .ListComp elt0 [⟨tg0, it0, ifs0, 0⟩] scope _ => notSet it0 && (ownOf' N own).map (·.2) == own && blkC N sc scope (ownOf' N own) && c.it sc tg0 it0 it && ckTg N scope 3 tg0 tg && (tgSlots tg).all (fun j => own.contains j) &&
        (match ifs0, ifs with
          | [], [] => true
          | [i0], [i] => c.t (relS scope sc) i0 i
          | _, _ => false) && c.e (relS scope sc) elt0 elt
    | _ => false)
  | _ => false
def ckT (c : Ch) (sc : Scope) (a : Expr) (b : E) : Bool := match a with
  | .UnaryOp .Not x _ => (match b with
    | .un .Not x' => c.t sc x x'
    | _ => false)
  | .BoolOp .And vs _ => ckAnd (c.t sc) vs b
  | .BoolOp .Or vs _ => ckOr (c.t sc) vs b
  | .IfExp _ _ _ _ => false
  | .Compare _ _ _ _ => (match b with
    | .cmp _ _ _ => ckE tb N c sc a b
    | .cmp2 _ _ _ _ _ => ckE tb N c sc a b
    | .isN _ _ => ckE tb N c sc a b
    | .isB _ _ _ => ckE tb N c sc a b
    | _ => false)
  | _ => ckE tb N c sc a b
def isTupE : Expr → Bool
  | .Tuple _ _ _ => true
  | _ => false
def ckIt (c : Ch) (sc : Scope) (tg a : Expr) (b : Py.It) : Bool := match b with
  | .seq e => (match a with
    | .Set _ _ _ => false
    | _ => c.e sc a e)
  | .range [x] => (match a with
    | .Call (.Name f _) [x0] [] _ => f == "range" && isGl sc f && noStar x0 && c.e sc x0 x
    | _ => false)
  | .range [x, y] => (match a with
    | .Call (.Name f _) [x0, y0] [] _ => f == "range" && isGl sc f && noStar x0 && noStar y0 && c.e sc x0 x && c.e sc y0 y
    | _ => false)
  | .enum [x] => (match a with
    | .Call (.Name f _) [x0] [] _ => f == "enumerate" && isGl sc f && noStar x0 && c.e sc x0 x && isTupE tg
    | _ => false)
  | .zip [x, y] => (match a with
    | .Call (.Name f _) [x0, y0] [] _ => f == "zip" && isGl sc f && noStar x0 && noStar y0 && c.e sc x0 x && c.e sc y0 y && isTupE tg
    | _ => false)
  | _ => false
def chN : Nat → Ch
  | 0 => ⟨fun _ _ _ => false, fun _ _ _ => false, fun _ _ _ _ => false⟩
  | n + 1 => ⟨ckE tb N (chN n), ckT tb N (chN n), ckIt (chN n)⟩
end Py
end SC1
section SC2
set_option autoImplicit false
set_option linter.all false
set_option maxRecDepth 100000
set_option maxHeartbeats 4000000
/-! The check is sound: expressions. -/
namespace Py
open PySem L2

section
variable {G : Gx} {prog : Program} {w : World} {base : Heap} {run : Run} {k : Nat} {N : List Str} {tb : Tb} {c : Ch}
def noW : WX := fun _ _ _ _ => False
def ChOk (G : Gx) (prog : Program) (w : World) (base : Heap) (run : Run) (k : Nat) (N : List Str) (c : Ch) : Prop := ∀ sc W X, CxOk G prog w base N sc k W X →
  (∀ a b, c.e sc a b = true → PE X a (tI G run W b)) ∧ (∀ a b, c.t sc a b = true → PT X a (tT G run W b)) ∧ (∀ tg a b, c.it sc tg a b = true → PI X tg a (tIt G run W b))
variable {sc : Scope} {W : WX} {X : Cx}
theorem gl_of (O : CxOk G prog w base N sc k W X) {x : Str} (h : isGl sc x = true) : Gl X x ∧ (x == ("__debug__" : Str)) = false := by
  simp only [isGl, Bool.and_eq_true, beq_iff_eq, bne_iff_ne, ne_eq] at h
  refine ⟨?_, by simpa using h.2⟩
  show X.env.scope.names.lookup x = _
  rw [O.eS]; exact h.1
theorem vis_of (O : CxOk G prog w base N sc k W X) {x : Str} (h : isVis sc x = true) : Vis X.env.scope x ∧ (x == ("__debug__" : Str)) = false ∧ (x == ("__classdict__" : Str)) = false := by
  simp only [isVis, Bool.and_eq_true, bne_iff_ne, ne_eq] at h
  refine ⟨?_, by simpa using h.1.2, by simpa using h.2⟩
  unfold Vis
  rw [O.eS]
  have h1 := h.1.1
  split at h1 <;> first | exact .inl (by assumption) | exact .inr (.inl (by assumption)) | exact .inr (.inr (by assumption)) | cases h1
theorem CxOk.u65 (O : CxOk G prog w base N sc k W X) : X.A.units + 65 < cLine := by have := O.room.un; omega
theorem CxOk.u1 (O : CxOk G prog w base N sc k W X) : X.A.units + 1 < cLine := by have := O.room.un; omega
theorem ckCon_ok {X : Cx} {z : Const} {d : D} {j : Nat} {pos : Pos} (h : ckCon z d = true) : PE X (.Constant z j pos) (tI G run W (.con d)) := by
  cases z with
  | none => cases d <;> first | cases h; done | skip
            exact e_con (v := .non) rfl pe_non
  | bool b => cases d <;> first | cases h; done | skip
              rename_i b'
              have e : b = b' := by simpa [ckCon] using h
              subst e
              exact e_con (v := .bl b) rfl pe_bl
  | int i => cases d <;> first | cases h; done | skip
             rename_i i'
             have e : i = i' := by simpa [ckCon] using h
             subst e
             exact e_con (v := .int i) rfl pe_int
  | str s => cases d <;> first | cases h; done | skip
             rename_i z
             simp only [ckCon, Bool.and_eq_true, beq_iff_eq] at h
             obtain ⟨e, hz⟩ := h
             have e2 : s = ST z := by
               cases s with
               | mk cps => simp at e; simp [ST, ← e]
             rw [e2]
             exact e_con (v := .str (ST z)) (by simp [conV, hz]) pe_str
  | _ => cases d <;> cases h
section
variable {f : Expr → E → Bool} (hf : ∀ a b, f a b = true → PE X a (tI G run W b))
include hf
theorem ckEs_a : ∀ {as : List Expr} {bs : List E}, ckEs f as bs = true → PA X as (tA G run W bs) ∧ as.all noStar = true ∧ bs.length = as.length
  | [], [], _ => ⟨a_nil, rfl, rfl⟩
  | a :: as, b :: bs, h => by
    simp only [ckEs, Bool.and_eq_true] at h
    obtain ⟨h1, h2, h3⟩ := ckEs_a h.2
    exact ⟨a_cons (hf a b h.1.2) h1 (star1 h.1.1 as X.env), by simp [h.1.1, h2], by simp [h3]⟩
  | [], _ :: _, h => by cases h
  | _ :: _, [], h => by cases h
theorem ckEs_x : ∀ {as : List Expr} {bs : List E}, ckEs f as bs = true → PA X as (tX G run W bs)
  | [], [], _ => x_nil
  | a :: as, b :: bs, h => by
    simp only [ckEs, Bool.and_eq_true] at h
    exact x_cons (hf a b h.1.2) (ckEs_x h.2) (star1 h.1.1 as X.env)
  | [], _ :: _, h => by cases h
  | _ :: _, [], h => by cases h
theorem ckEs_p : ∀ {as : List Expr} {bs : List E}, ckEs f as bs = true → PA X as (tP G run W bs)
  | [], [], _ => p_nil
  | a :: as, b :: bs, h => by
    simp only [ckEs, Bool.and_eq_true] at h
    exact p_cons (hf a b h.1.2) (ckEs_p h.2) (star1 h.1.1 as X.env)
  | [], _ :: _, h => by cases h
  | _ :: _, [], h => by cases h
theorem ckKw_a : ∀ {as : List Keyword} {bs : List E}, ckKw f as bs = true → PK X as (tA G run W bs) ∧ bs.length = as.length
  | [], [], _ => ⟨k_nil, rfl⟩
  | ⟨nm, v, p⟩ :: as, b :: bs, h => by
    simp only [ckKw, Bool.and_eq_true] at h
    obtain ⟨h1, h2⟩ := ckKw_a h.2
    exact ⟨k_cons (hf v b h.1.2) h1, by simp [h2]⟩
  | [], _ :: _, h => by cases h
  | _ :: _, [], h => by cases h
theorem ckKs_a {pos : Pos} : ∀ {ks : List (Option Expr)} {vs : List Expr} {kvs : List (E × E)}, ckKs f ks vs kvs = true → PPs X pos ks vs (kvs.map fun kv => (tI G run W kv.1, tI G run W kv.2)) ∧ ks.all (·.isSome) = true ∧ ks.length = vs.length ∧ kvs.length = ks.length
  | [], [], [], _ => ⟨pps_nil, rfl, rfl, rfl⟩
  | some k :: ks, v :: vs, kv :: r, h => by
    simp only [ckKs, Bool.and_eq_true] at h
    obtain ⟨h1, h2, h3, h4⟩ := ckKs_a (pos := pos) h.2
    exact ⟨pps_cons (hf k kv.1 h.1.1) (hf v kv.2 h.1.2) h1, by simp [h2], by simp [h3], by simp [h4]⟩
  | none :: _, _, _, h => by cases h
  | [], _ :: _, _, h => by cases h
  | [], [], _ :: _, h => by cases h
  | some _ :: _, [], _, h => by cases h
  | some _ :: _, _ :: _, [], h => by cases h
theorem ckAnd_a (hK : X.K = G.K) {pos : Pos} : ∀ {vs : List Expr} {b : E}, ckAnd f vs b = true → PE X (.BoolOp .And vs pos) (tI G run W b)
  | [], _, h => by cases h
  | [a], b, h => pe_and1 (hf a b h)
  | a :: c :: r, b, h => by
    cases b <;> first | cases h; done | skip
    simp only [ckAnd, Bool.and_eq_true] at h
    exact e_and hK (hf _ _ h.1) (ckAnd_a hK h.2)
theorem ckOr_a (hK : X.K = G.K) {pos : Pos} : ∀ {vs : List Expr} {b : E}, ckOr f vs b = true → PE X (.BoolOp .Or vs pos) (tI G run W b)
  | [], _, h => by cases h
  | [a], b, h => pe_or1 (hf a b h)
  | a :: c :: r, b, h => by
    cases b <;> first | cases h; done | skip
    simp only [ckOr, Bool.and_eq_true] at h
    exact e_or hK (hf _ _ h.1) (ckOr_a hK h.2)
end
section
variable {f : Expr → E → Bool} (hf : ∀ a b, f a b = true → PT X a (tT G run W b))
include hf
theorem ckAnd_t {pos : Pos} : ∀ {vs : List Expr} {b : E}, ckAnd f vs b = true → PW X (.BoolOp .And vs pos) (tT G run W b)
  | [], _, h => by cases h
  | [a], b, h => t_and1 (hf a b h)
  | a :: c :: r, b, h => by
    cases b <;> first | cases h; done | skip
    simp only [ckAnd, Bool.and_eq_true] at h
    exact t_and (hf _ _ h.1) (ckAnd_t h.2)
theorem ckOr_t {pos : Pos} : ∀ {vs : List Expr} {b : E}, ckOr f vs b = true → PW X (.BoolOp .Or vs pos) (tT G run W b)
  | [], _, h => by cases h
  | [a], b, h => t_or1 (hf a b h)
  | a :: c :: r, b, h => by
    cases b <;> first | cases h; done | skip
    simp only [ckOr, Bool.and_eq_true] at h
    exact t_or (hf _ _ h.1) (ckOr_t h.2)
end
/-! ### targets -/
theorem star_g {es : List Expr} {env : Env} (h : es.all noStar = true) : (assignEach es env).length = es.length ∧ (assignEach es env).findIdx? (·.1) = none := by
  induction es with
  | nil => exact ⟨rfl, rfl⟩
  | cons e es ih =>
    rw [List.all_cons, Bool.and_eq_true] at h
    obtain ⟨h1, h2⟩ := ih h.2
    have e1 : assignEach (e :: es) env = (false, assign e env) :: assignEach es env := by
      have := h.1
      cases e <;> first | rfl | cases this
    rw [e1]
    exact ⟨by simp [h1], by simp [List.findIdx?_cons, h2]⟩
theorem star_gc {e : Expr} {es : List Expr} {env : Env} (h : noStar e = true) : (assignEach (e :: es) env).map (·.2) = assign e env :: (assignEach es env).map (·.2) := by
  cases e <;> first | rfl | cases h
def TgOk (X : Cx) (scT : Scope) : Prop := ∀ x, isLoc scT x = true → L2.Loc X.env.scope x ∧ (X.fn x = true ∨ X.env.scope.names.lookup x = some .local)
theorem ckTg_ok {scT : Scope} (hN : X.N = N) (nd : N.Nodup) (hK : X.K = G.K) (hc : X.calm = true) (O : TgOk X scT) : ∀ (n : Nat) (e : Expr) (t : Tg), ckTg N scT n e t = true → PG X e (tTg G t)
  | n, .Name x p, .nm i, h => by
    have h : (N[i]? == some x && isLoc scT x) = true := by cases n <;> exact h
    simp only [Bool.and_eq_true, beq_iff_eq] at h
    obtain ⟨l, hf⟩ := O x h.2
    exact g_name (pg_name (by rw [hN]; exact nd) (by rw [hN]; exact h.1) l hf)
  | n + 1, .Tuple es kk p, .tup ts, h => by
    have go : ∀ {es : List Expr} {ts : List Tg}, ckTg.ckTgs (ckTg N scT n) es ts = true → PGs X es (tTgs G ts) ∧ es.all noStar = true ∧ es.length = ts.length := by
      intro es
      induction es with
      | nil => intro ts h; cases ts with
        | nil => exact ⟨gs_nil, rfl, rfl⟩
        | cons t ts => cases h
      | cons e es ih => intro ts h; cases ts with
        | nil => cases h
        | cons t ts =>
          simp only [ckTg.ckTgs, Bool.and_eq_true] at h
          obtain ⟨h1, h2, h3⟩ := ih h.2
          exact ⟨gs_cons (ckTg_ok hN nd hK hc O n e t h.1.2) h1 (star_gc h.1.1), by simp [h.1.1, h2], by simp [h3]⟩
    obtain ⟨h1, h2, h3⟩ := go (show ckTg.ckTgs (ckTg N scT n) es ts = true from h)
    obtain ⟨h4, h5⟩ := star_g (env := X.env) h2
    exact g_tup hc hK h1 (by rw [h4, h3]) h5
  | 0, .Tuple _ _ _, .tup _, h => by cases h
  | n, .Name _ _, .tup _, h => by cases n <;> cases h
  | n, .Tuple _ _ _, .nm _, h => by cases n <;> cases h
  | n, .BoolOp .., t, h => by cases n <;> cases t <;> cases h
  | n, .NamedExpr .., t, h => by cases n <;> cases t <;> cases h
  | n, .BinOp .., t, h => by cases n <;> cases t <;> cases h
  | n, .UnaryOp .., t, h => by cases n <;> cases t <;> cases h
  | n, .Lambda .., t, h => by cases n <;> cases t <;> cases h
  | n, .IfExp .., t, h => by cases n <;> cases t <;> cases h
  | n, .Dict .., t, h => by cases n <;> cases t <;> cases h
  | n, .Set .., t, h => by cases n <;> cases t <;> cases h
  | n, .ListComp .., t, h => by cases n <;> cases t <;> cases h
  | n, .SetComp .., t, h => by cases n <;> cases t <;> cases h
  | n, .DictComp .., t, h => by cases n <;> cases t <;> cases h
  | n, .GeneratorExp .., t, h => by cases n <;> cases t <;> cases h
  | n, .Await .., t, h => by cases n <;> cases t <;> cases h
  | n, .Yield .., t, h => by cases n <;> cases t <;> cases h
  | n, .YieldFrom .., t, h => by cases n <;> cases t <;> cases h
  | n, .Compare .., t, h => by cases n <;> cases t <;> cases h
  | n, .Call .., t, h => by cases n <;> cases t <;> cases h
  | n, .FormattedValue .., t, h => by cases n <;> cases t <;> cases h
  | n, .JoinedStr .., t, h => by cases n <;> cases t <;> cases h
  | n, .Constant .., t, h => by cases n <;> cases t <;> cases h
  | n, .Attribute .., t, h => by cases n <;> cases t <;> cases h
  | n, .Subscript .., t, h => by cases n <;> cases t <;> cases h
  | n, .Starred .., t, h => by cases n <;> cases t <;> cases h
  | n, .List .., t, h => by cases n <;> cases t <;> cases h
  | n, .Slice .., t, h => by cases n <;> cases t <;> cases h
/-! ### a comprehension's block -/
theorem blk_ok (O : CxOk G prog w base N sc k W X) {scope : Scope} (s : Shared) (H : Hp) (C : Addr) (cl : List (Str × Addr)) (fp : List Addr) :
    CxOk G prog w base N (relS scope sc) k noW (X.blk s H scope (compEnvC scope cl C X.env) fp) where
  K := O.K
  mg := O.mg
  prog := O.prog
  w := O.w
  base := O.base
  eN := O.eN
  nd := O.nd
  eS := by rw [← O.eS]; rfl
  calm := O.calm
  room := O.room
  tk := fun _ _ ⟨_, _, _, _, _, _, _, _, _, _, _, _, _, _, _, _, w⟩ => w.elim
theorem blk_tg (O : CxOk G prog w base N sc k W X) {scope : Scope} (hu : ∀ y ∈ scope.names, scope.names.lookup y.1 = some y.2) (s : Shared) (H : Hp) (C : Addr) (cl : List (Str × Addr)) (fp : List Addr) : TgOk (X.blk s H scope (compEnvC scope cl C X.env) fp) scope := by
  intro x h
  unfold isLoc at h
  have e : (X.blk s H scope (compEnvC scope cl C X.env) fp).env.scope = relS scope X.env.scope := rfl
  unfold L2.Loc
  rw [e]
  split at h
  · rename_i hl
    have := lookup_relS_keep (sc := X.env.scope) (names := scope.names) (k := .local) (by decide) hl
    exact ⟨.inl this, .inr this⟩
  · rename_i hl
    have := lookup_relS_keep (sc := X.env.scope) (names := scope.names) (k := .cell) (by decide) hl
    refine ⟨.inr this, .inl ?_⟩
    show (scope.names.lookup x == some .cell) = true
    rw [hl]; rfl
  · cases h
end
end Py
end SC2
section SC3
set_option autoImplicit false
set_option linter.all false
set_option maxRecDepth 100000
set_option maxHeartbeats 4000000
/-! The check is sound: expressions, 2. -/
namespace Py
open PySem L2

section
variable {G : Gx} {prog : Program} {w : World} {base : Heap} {run : Run} {k : Nat} {N : List Str} {tb : Tb} {c : Ch} {sc : Scope} {W : WX} {X : Cx}
/-- the table fits the module -/
structure TbOk (G : Gx) (tb : Tb) : Prop where
  L : G.L = tb.L
  con : ∀ g, tb.con g = true → (G.P.con g).isSome = true
  init : ∀ c, tb.init c = G.P.init c
  fld : ∀ f, tb.fld f = true → (∀ g, (G.L.fld g == G.L.fld f) = (g == f)) ∧ ∀ c C, ClsOk G c C → NoAttr G.K C (G.L.fld f)
  mt : ∀ m np, tb.mt m = some np → (∀ c f, G.P.meth c m = some f → (G.L.ps f).length = np ∧ tb.dd f = [] ∧ (G.L.ps f).Nodup) ∧ ∀ f, G.L.fld f ≠ G.L.mth m
/-- a method's call -/
theorem attr_plain {o : Expr} {m : Str} {env : Env} {x : Sem Value} (h : plainO o = true) : attributeBase o m env x = x := by
  cases o <;> first | rfl | cases h
theorem meth_ht {o : Expr} {m : Str} {apos pos : Pos} {args : List Expr} {env : Env} (ho : plainO o = true) (hs : args.all noStar = true) (hl : args.length < 30) (hp : (apos.endLine == pos.line) = true) :
    eval (.Call (.Attribute o m apos) args [] pos) env = (do
      let ov ← eval o env
      standAt apos.atName
      let (f, first) ← holding [ov] (getMethod ov m (do return (← importBound o env).getD true))
      callWith pos f first (backTo pos (starEach args env)) (backToKw pos (keywordEach [] env))) := by
  have hf : methodCallForm (args.length + ([] : List Keyword).length) (backTo pos (starEach args env)) (backToKw pos (keywordEach [] env)) = true := by
    unfold methodCallForm
    have h1 : (backTo pos (starEach args env)).all (fun x => !x.1) = true := by
      have := star_any pos env hs
      rw [List.any_eq_false] at this
      rw [List.all_eq_true]
      intro x hx
      simpa using this x hx
    rw [h1]
    simp [keywordEach, backToKw]
    omega
  rw [show eval (.Call (.Attribute o m apos) args [] pos) env = (do
      let ov ← attributeBase o m env (eval o env)
      standAt apos.atName
      methodCall o m apos pos env ov (args.length + ([] : List Keyword).length) (backTo pos (starEach args env)) (backToKw pos (keywordEach [] env))) from by with_unfolding_all rfl]
  rw [attr_plain ho]
  simp only [methodCall, hf, calleeOf, methodCallPos, hp, if_true, Bool.not_true, Bool.false_or, pure_bind]
theorem ty_name (TO : TbOk G tb) (Q : GOk G prog w base run tb.dd tb.fns k) (O : CxOk G prog w base N sc k W X) {a : Expr} {t : Ty} (h : ckTy tb sc a t = true) : ∃ v u, TyV G t v u ∧ PE X a (tC v) := by
  unfold ckTy at h
  split at h
  · rename_i x p c
    simp only [Bool.and_eq_true, beq_iff_eq] at h
    obtain ⟨⟨h1, h3⟩, h2⟩ := h
    obtain ⟨hg, hd⟩ := gl_of O h1
    obtain ⟨f, hf⟩ := Option.isSome_iff_exists.mp h2
    rw [TO.init] at hf
    obtain ⟨C, fa, fd, hC, _⟩ := Q.cl c f hf
    exact ⟨.ref C, .ref C, ⟨C, hC, rfl, rfl⟩, pe_glob hg (by rw [O.mg, h3, ← TO.L]; exact hC.nm) rfl hd⟩
  · rename_i _ _ x p _
    simp only [Bool.and_eq_true] at h
    obtain ⟨h1, h2⟩ := h
    obtain ⟨hg, hd⟩ := gl_of O h1
    split at h2
    · rename_i n e
      have ex : x = Str.ofString n := by simpa using h2
      subst ex
      have fin : ∀ n : String, tyNm t = some n → Str.ofString n ∈ blNames → bootBuiltins (Str.ofString n) = some (.type n) → (Str.ofString n : Str) ≠ "__name__" → Gl X (Str.ofString n) → (Str.ofString n == ("__debug__" : Str)) = false → ∃ v u, TyV G t v u ∧ PE X (.Name (Str.ofString n) p) (tC v) := by
        intro n e hb hv hn hg hd
        refine ⟨.ty n, .type n, ?_, pe_bltn hg (by rw [O.mg]; exact Q.bl _ hb) hv rfl hn hd⟩
        cases t with
        | cls c => cases e
        | _ => exact ⟨n, e, rfl, rfl⟩
      refine fin n e ?_ ?_ ?_ hg hd
      · cases t <;> cases e <;> decide
      · cases t <;> cases e <;> rfl
      · cases t <;> cases e <;> decide
    · cases h2
  · cases h
theorem tys_name (TO : TbOk G tb) (Q : GOk G prog w base run tb.dd tb.fns k) (O : CxOk G prog w base N sc k W X) : ∀ {as : List Expr} {ts : List Ty}, ckTys tb sc as ts = true → as.all noStar = true → ∃ vs us tv, TyVs G ts vs us ∧ PA X as tv ∧ (∀ σ H Q, Q vs H → tv σ H Q) ∧ vs.length = ts.length
  | [], [], _, _ => ⟨[], [], tNil, .nil, pa_nil, fun _ _ _ q => q, rfl⟩
  | a :: as, t :: ts, h, hs => by
    simp only [ckTys, Bool.and_eq_true] at h
    rw [List.all_cons, Bool.and_eq_true] at hs
    obtain ⟨v, u, h1, h2⟩ := ty_name TO Q O h.1
    obtain ⟨vs, us, tv, h3, h4, h5, h6⟩ := tys_name TO Q O h.2 hs.2
    exact ⟨v :: vs, u :: us, _, .cons h1 h3, pa_cons h2 h4 (star1 hs.1 as X.env), fun σ H Q q => h5 σ H _ q, by simp [h6]⟩
  | [], _ :: _, h, _ => by cases h
  | _ :: _, [], h, _ => by cases h
theorem ofStr (z : Str) {l : List Nat} (h : z.cps.toList = l) : z = ST l := by
  cases z with
  | mk cps => simp at h; simp [ST, ← h]
theorem idIx_place : ∀ (vs pre : List V), placeV (pre ++ vs) ((List.range' pre.length vs.length).map Sum.inl) = some vs
  | [], _ => rfl
  | v :: vs, pre => by
    simp only [List.length_cons, List.range'_succ, List.map_cons, placeV]
    have h1 : (pre ++ v :: vs)[pre.length]? = some v := by simp
    have h2 := idIx_place vs (pre ++ [v])
    simp only [List.append_assoc, List.singleton_append, List.length_append, List.length_cons, List.length_nil] at h2
    rw [h1]
    simp [h2]
theorem idIx_ok (dn : List Str) (dd : List D) : ∀ (ps pre : List Str), ixOk (pre ++ ps) dn dd ps ((List.range' pre.length ps.length).map Sum.inl) = true
  | [], _ => rfl
  | p :: ps, pre => by
    simp only [List.length_cons, List.range'_succ, List.map_cons, ixOk, Bool.and_eq_true, beq_iff_eq]
    have h2 := idIx_ok dn dd ps (pre ++ [p])
    simp only [List.append_assoc, List.singleton_append, List.length_append, List.length_cons, List.length_nil] at h2
    exact ⟨by simp, h2⟩
theorem plainA_of {a : Arguments} {ps : List Str} (h : plainA a ps = true) : a.posonlyargs = [] ∧ a.args.map (·.arg) = ps ∧ a.kwonlyargs = [] ∧ a.vararg = none ∧ a.kwarg = none := by
  simp only [plainA, Bool.and_eq_true, beq_iff_eq, List.isEmpty_iff, Option.isNone_iff_eq_none] at h
  exact ⟨h.1.1.1.1, h.1.1.1.2, h.1.1.2, h.1.2, h.2⟩
/-- all the parameters are written -/
theorem kbd_all {K : PySem.W.Frag} {x qual : Str} {params : Arguments} {body : List Stmt} {scope : Scope} {dvs : List V} {f : Addr} {fd : FuncData} {ps : List Str} {dd : List D}
    (F : FunD K x qual params body scope dvs [] f fd) (hP : params.posonlyargs = [] ∧ params.args.map (·.arg) = ps ∧ params.kwonlyargs = [] ∧ params.vararg = none ∧ params.kwarg = none) (hps : ps.Nodup)
    (hd : dd.map conV = dvs.map some) (hdl : dd.length ≤ ps.length) : KBd K fd ps [] ps.length some := by
  have B := kbd_of (n := ps.length) (ks := []) (ix := (List.range' 0 ps.length).map Sum.inl) F hP hps hd (Nat.le_refl _) rfl hdl (by
    rw [List.all_eq_true]; intro p hp; simpa using List.mem_of_mem_take hp) (by simpa using hps) (by simpa using idIx_ok (ps.drop (ps.length - dd.length)) dd ps [])
  refine ⟨fun s us ws X l1 l2 => ?_⟩
  obtain ⟨zs, h1, h2⟩ := B.to s us ws X l1 l2
  have hw : ws = [] := List.eq_nil_of_length_eq_zero l2
  refine ⟨zs, h1, fun vs vs' r e => ?_⟩
  cases e
  refine h2 vs vs r ?_
  have hl : vs.length = ps.length := by rw [r.length, hw, List.append_nil, l1]
  have := idIx_place vs []
  rw [hl] at this
  simpa using this
theorem placeV_length : ∀ {vs : List V} {ix : List (Nat ⊕ D)} {ws : List V}, placeV vs ix = some ws → ws.length = ix.length
  | _, [], _, h => by cases h; rfl
  | vs, .inl j :: r, _, h => by
    obtain ⟨x, _, h2⟩ := Option.bind_eq_some_iff.mp (show (vs[j]?).bind (fun x => (placeV vs r).map (x :: ·)) = some _ from h)
    obtain ⟨ws, h3, rfl⟩ := Option.map_eq_some_iff.mp h2
    simp [placeV_length h3]
  | vs, .inr d :: r, _, h => by
    obtain ⟨x, _, h2⟩ := Option.bind_eq_some_iff.mp (show (conV d).bind (fun x => (placeV vs r).map (x :: ·)) = some _ from h)
    obtain ⟨ws, h3, rfl⟩ := Option.map_eq_some_iff.mp h2
    simp [placeV_length h3]
theorem ixOk_length {names dn : List Str} {dd : List D} : ∀ {ps : List Str} {ix : List (Nat ⊕ D)}, ixOk names dn dd ps ix = true → ix.length = ps.length
  | [], [], _ => rfl
  | p :: ps, .inl j :: r, h => by simp only [ixOk, Bool.and_eq_true] at h; simp [ixOk_length h.2]
  | p :: ps, .inr d :: r, h => by simp only [ixOk, Bool.and_eq_true] at h; simp [ixOk_length h.2]
  | [], _ :: _, h => by cases h
  | _ :: _, [], h => by cases h
theorem KBd.len {K : PySem.W.Frag} {fd : FuncData} {ps ks : List Str} {n : Nat} {pl : List V → Option (List V)} (h : KBd K fd ps ks n pl) : True := trivial
theorem ckE_ok (TO : TbOk G tb) (Q : GOk G prog w base run tb.dd tb.fns k) (IH : ChOk G prog w base run k N c) (O : CxOk G prog w base N sc k W X) (a : Expr) (b : E) (h : ckE tb N c sc a b = true) : PE X a (tI G run W b) := by
  have ie : ∀ a b, c.e sc a b = true → PE X a (tI G run W b) := (IH sc W X O).1
  have it' : ∀ a b, c.t sc a b = true → PT X a (tT G run W b) := (IH sc W X O).2.1
  cases b with
  | loc i =>
    simp only [ckE] at h
    split at h
    · simp only [Bool.and_eq_true, beq_iff_eq] at h
      obtain ⟨v, d1, d2⟩ := vis_of O h.2
      exact e_loc (pe_var (by rw [O.eN]; exact h.1) v d1 d2)
    · cases h
  | con d =>
    simp only [ckE] at h
    split at h
    · exact ckCon_ok h
    · cases h
  | glo g =>
    simp only [ckE] at h
    split at h
    · simp only [Bool.and_eq_true, beq_iff_eq] at h
      obtain ⟨hg, hd⟩ := gl_of O h.1.2
      obtain ⟨d, hd2⟩ := Option.isSome_iff_exists.mp (TO.con g h.2)
      obtain ⟨v, u, h1, h2, h3⟩ := Q.con g d hd2
      exact e_glo hd2 h3 (pe_glob hg (by rw [O.mg, h.1.1, ← TO.L]; exact h1) h2 hd)
    · cases h
  | bin op l r =>
    simp only [ckE] at h
    split at h
    · simp only [Bool.and_eq_true, beq_iff_eq] at h
      rw [h.1.1]
      exact e_bin O.K (ie _ _ h.1.2) (ie _ _ h.2)
    · cases h
  | un op x =>
    simp only [ckE] at h
    split at h
    · simp only [Bool.and_eq_true, beq_iff_eq, bne_iff_ne, ne_eq] at h
      rw [h.1.1]
      exact e_un h.1.2 O.K (ie _ _ h.2)
    · cases h
  | and p q =>
    simp only [ckE] at h
    split at h
    · exact ckAnd_a ie O.K h
    · cases h
  | or p q =>
    simp only [ckE] at h
    split at h
    · exact ckOr_a ie O.K h
    · cases h
  | ite t x y =>
    simp only [ckE] at h
    split at h
    · simp only [Bool.and_eq_true] at h
      exact e_ite (it' _ _ h.1.1) (ie _ _ h.1.2) (ie _ _ h.2)
    · cases h
  | cmp op x y =>
    simp only [ckE] at h
    split at h
    · simp only [Bool.and_eq_true, beq_iff_eq, Bool.not_eq_true'] at h
      rw [h.1.1.1.1.1]
      exact e_cmp O.K O.u65 h.1.1.2 (ie _ _ h.1.2) (ie _ _ h.2)
    · cases h
  | cmp2 op op' x y z =>
    simp only [ckE] at h
    split at h
    · simp only [Bool.and_eq_true, beq_iff_eq, Bool.not_eq_true'] at h
      rw [h.1.1.1.1.1, h.1.1.1.1.2]
      exact e_cmp2 O.K O.u65 h.1.1.1.2 (ie _ _ h.1.1.2) (ie _ _ h.1.2) (ie _ _ h.2)
    · cases h
  | isN neg x =>
    simp only [ckE] at h
    split at h
    · simp only [Bool.and_eq_true, beq_iff_eq] at h
      rw [h.1]
      exact e_isN pe_non (ie _ _ h.2)
    · cases h
  | isB neg k0 x =>
    simp only [ckE] at h
    split at h
    · simp only [Bool.and_eq_true, beq_iff_eq] at h
      rw [h.1.1, h.1.2]
      exact e_isB pe_bl (ie _ _ h.2)
    · cases h
  | isi x ts =>
    simp only [ckE] at h
    split at h
    · rename_i f p x0 t0 p2
      simp only [Bool.and_eq_true, beq_iff_eq] at h
      obtain ⟨⟨⟨⟨⟨hf, hg⟩, n1⟩, n2⟩, hx⟩, ht⟩ := h
      subst hf
      obtain ⟨hg, hd⟩ := gl_of O hg
      have hm : X.mg "isinstance" = none := by rw [O.mg]; exact Q.bl _ (by decide)
      have st2 : starEach [x0, t0] X.env = (false, eval x0 X.env) :: starEach [t0] X.env := star1 n1 _ _
      have hpl : (backTo p2 (starEach [t0] X.env)).any (·.1) = false := star_any p2 X.env (by simp [n2])
      have one : ∀ t, ts = [t] → ckTy tb sc t0 t = true → PE X (.Call (.Name "isinstance" p) [x0, t0] [] p2) (tI G run W (.isi x ts)) := by
        rintro t rfl ht
        obtain ⟨v, u, h1, h2⟩ := ty_name TO Q O ht
        exact PE.imp (pe_callB call_isi hg hm rfl (pa_cons (ie _ _ hx) (pa_cons h2 pa_nil (star1 n2 _ _)) st2) (by decide) hd st2 hpl) fun σ H R q => isi1_rd O.K h1 q
      split at ht
      · exact one _ rfl ht
      · clear one
        split at ht
        · rename_i es k2 p3
          simp only [Bool.and_eq_true, decide_eq_true_eq] at ht
          obtain ⟨vs, us, tv, h1, h2, h3, h4⟩ := tys_name TO Q O ht.1.2 ht.1.1
          have st3 : starEach [x0, .Tuple es k2 p3] X.env = (false, eval x0 X.env) :: starEach [.Tuple es k2 p3] X.env := star1 n1 _ _
          exact PE.imp (pe_callB call_isiT hg hm rfl (pa_cons (ie _ _ hx) (pa_cons (pe_tup h2) pa_nil (star1 rfl _ _)) st3) (by decide) hd st3 rfl) fun σ H R q => isiT_rd O.K h1 (by rw [h4, sizeSZ]; unfold SZ; omega) h3 q
        · cases ht
    · cases h
  | call f es =>
    simp only [ckE] at h
    split at h
    · rename_i x p args p2
      simp only [Bool.and_eq_true, beq_iff_eq, decide_eq_true_eq] at h
      obtain ⟨⟨⟨⟨⟨⟨hf, hx⟩, hg⟩, hl⟩, hdl⟩, nd⟩, hes⟩ := h
      obtain ⟨hg, hd⟩ := gl_of O hg
      obtain ⟨fa, fd, h1, h2, h3, y, qual, params, body, scope, dvs, h4, h5, h6⟩ := Q.fn f hf
      obtain ⟨ha, hs, hlen⟩ := ckEs_a ie hes
      rw [TO.L] at h1 h3 h5
      refine e_callG (oi := none) (es2 := []) (ks := []) (kws := []) (by rw [O.prog, O.w, O.K, O.mg, O.base]; exact h3) (O.room.mono (Nat.le_succ _)) O.tk hg (by rw [O.mg, hx]; exact h1) (by rw [O.K]; exact h2) hd (by rw [O.K, hl]; exact kbd_all h4 (plainA_of h5) nd h6 hdl) rfl hs rfl ha k_nil hlen rfl ?_ ?_
      · intro vs ws l e; cases e; simpa [hl] using l
      · intro s; rw [List.append_nil, evE]; rfl
    · cases h
  | callK f es ix =>
    simp only [ckE] at h
    split at h
    · rename_i x p args kws p2
      simp only [Bool.and_eq_true, beq_iff_eq, decide_eq_true_eq] at h
      obtain ⟨⟨⟨⟨⟨⟨⟨⟨⟨hf, hx⟩, hg⟩, nd⟩, hl⟩, hdl⟩, hk⟩, hci⟩, hes⟩, hkw⟩ := h
      split at hk
      · cases hk
      · rename_i ks eks
        simp only [Bool.and_eq_true, decide_eq_true_eq] at hk
        obtain ⟨⟨⟨k1, k2⟩, k3⟩, k4⟩ := hk
        obtain ⟨hg, hd⟩ := gl_of O hg
        obtain ⟨fa, fd, h1, h2, h3, y, qual, params, body, scope, dvs, h4, h5, h6⟩ := Q.fn f hf
        obtain ⟨ha, hs, hlen⟩ := ckEs_a ie hes
        obtain ⟨hkk, hkl⟩ := ckKw_a ie hkw
        rw [TO.L] at h1 h3 h5
        have ees : es.take args.length ++ es.drop args.length = es := List.take_append_drop _ _
        refine e_callG (oi := some ix) (es1 := es.take args.length) (es2 := es.drop args.length) (ks := ks) (kws := kws) (by rw [O.prog, O.w, O.K, O.mg, O.base]; exact h3) (O.room.mono (Nat.le_succ _)) O.tk hg (by rw [O.mg, hx]; exact h1) (by rw [O.K]; exact h2) hd (by rw [O.K]; exact kbd_of h4 (plainA_of h5) nd h6 hl k1 hdl k2 k3 k4) hci hs eks ha hkk hlen hkl ?_ ?_
        · intro vs ws l e
          rw [placeV_length (show placeV vs ix = some ws from e), ixOk_length k4]
        · intro s; rw [ees, evE]; rfl
    · cases h
  | bi b es =>
    simp only [ckE] at h
    by_cases hj : b = .join
    · subst hj
      rw [if_pos (by decide)] at h
      unfold ckJoin at h
      split at h
      · rename_i z q1 q2 m ap e0 cp
        split at h
        · rename_i z' e1
          simp only [Bool.and_eq_true, beq_iff_eq] at h
          obtain ⟨⟨⟨⟨⟨h1, h2⟩, h3⟩, h4⟩, h5⟩, h6⟩ := h
          rw [h3, ofStr z h1]
          exact e_join O.K pe_str h2 (ie _ _ h6) h5 rfl (by simpa using h4)
        · cases h
      · cases h
    · rw [if_neg (by simpa using hj)] at h
      by_cases hss : b = .sortedSet
      · subst hss
        rw [if_pos (by decide)] at h
        split at h
        · rename_i f p1 g p2 v p3 p4 e
          simp only [Bool.and_eq_true, beq_iff_eq] at h
          obtain ⟨⟨⟨⟨⟨rfl, rfl⟩, g1⟩, g2⟩, hn⟩, he⟩ := h
          exact e_sortedSet O.calm O.K (gl_of O g1).1 (by rw [O.mg]; exact Q.bl _ (by decide)) (gl_of O g2).1 (by rw [O.mg]; exact Q.bl _ (by decide)) hn (ie _ _ he)
        · cases h
      rw [if_neg (by simpa using hss)] at h
      unfold ckBi at h
      split at h
      · rename_i x p a0 as p2
        simp only [Bool.and_eq_true, beq_iff_eq, bne_iff_ne, ne_eq] at h
        obtain ⟨⟨⟨⟨h1, h2⟩, h3⟩, h4⟩, h5⟩ := h
        obtain ⟨hg, hd⟩ := gl_of O h4
        obtain ⟨ha, hs, hlen⟩ := ckEs_a ie h5
        rw [h3] at hg ⊢
        rw [List.all_cons, Bool.and_eq_true] at hs
        refine e_bi hj h1 h2 O.calm O.K hg ?_ ha (star1 hs.1 _ _) (star_any p2 X.env hs.2)
        rw [O.mg]
        refine Q.bl _ ?_
        cases b <;> first | exact absurd rfl hj | exact absurd rfl h1 | exact absurd rfl h2 | decide
      · cases h
  | ix x y =>
    simp only [ckE] at h
    split at h
    · rename_i x0 y0 p
      simp only [Bool.and_eq_true] at h
      refine e_ix O.K O.u1 ?_ (ie _ _ h.1.2) (ie _ _ h.2)
      have := h.1.1
      intro o i
      cases y0 <;> first | rfl | cases this
    · cases h
  | sl x lo hi =>
    simp only [ckE] at h
    split at h
    · rename_i x0 lo0 hi0 p1 p2
      simp only [Bool.and_eq_true] at h
      refine e_sl O.K (ie _ _ h.1.1) ?_ ?_
      · have h1 := h.1.2
        split at h1
        · exact o_none
        · exact o_some (ie _ _ h1)
        · cases h1
      · have h1 := h.2
        split at h1
        · exact o_none
        · exact o_some (ie _ _ h1)
        · cases h1
    · cases h
  | tup es =>
    simp only [ckE] at h
    split at h
    · exact e_tup (ckEs_x ie h)
    · cases h
  | lst es =>
    simp only [ckE] at h
    split at h
    · exact e_lst (ckEs_x ie h)
    · cases h
  | dic kvs =>
    simp only [ckE] at h
    split at h
    · rename_i ks vs p
      simp only [Bool.or_eq_true, Bool.and_eq_true, List.isEmpty_iff, Bool.not_eq_true', decide_eq_true_eq] at h
      rcases h with ⟨⟨rfl, rfl⟩, rfl⟩ | ⟨⟨h1, h2⟩, h3⟩
      · exact e_dic0
      · obtain ⟨g1, g2, g3, g4⟩ := ckKs_a (pos := p) ie h3
        refine e_dic g1 g2 g3 (fun e => ?_) h2 g4
        rw [e] at h1; cases h1
    · cases h
  | pick kvs kx =>
    simp only [ckE] at h
    split at h
    · rename_i i
      split at h
      · rename_i ks vs p x p2 p3
        simp only [Bool.and_eq_true, beq_iff_eq, List.isEmpty_iff, Bool.not_eq_true', decide_eq_true_eq] at h
        obtain ⟨⟨⟨⟨hx, hv⟩, h1⟩, h2⟩, h3⟩ := h
        obtain ⟨v, d1, d2⟩ := vis_of O hv
        obtain ⟨g1, g2, g3, g4⟩ := ckKs_a (pos := p) ie h3
        refine e_pick O.u1 g1 g2 g3 (fun e => ?_) h2 g4 (pe_var (by rw [O.eN]; exact hx) v d1 d2) (fun _ _ => rfl)
        rw [e] at h1; cases h1
      · cases h
    · cases h
  | lc elt tg it ifs own =>
    simp only [ckE] at h
    split at h
    · rename_i elt0 tg0 it0 ifs0 scope p
      simp only [Bool.and_eq_true, beq_iff_eq] at h
      obtain ⟨⟨⟨⟨⟨⟨⟨h0, h1⟩, h2⟩, h3⟩, h4⟩, h5⟩, h6⟩, h7⟩ := h
      have bo := blkOk_by h2
      have ok : BlkOk X.N X.env.scope scope (ownOf' N own) := by rw [O.eN, O.eS]; exact bo
      have hs := notSet_ok h0 X.env
      have hsub : ∀ j ∈ tgSlots tg, j ∈ (ownOf' N own).map (·.2) := fun j hj => by rw [h1]; simpa using List.all_eq_true.mp h5 j hj
      have hifs : ∀ X' : Cx, (∀ a b, c.t (relS scope sc) a b = true → PT X' a (tT G run noW b)) → PTs X' ifs0 (tTs G run noW ifs) := by
        intro X' ib
        split at h6
        · exact c_nil
        · exact c_one (ib _ _ h6)
        · cases h6
      have := e_lc (W := W) (W' := noW) (ifs := ifs0) (ifs' := ifs) (elt' := elt) (pos := p) O.calm (by rw [O.eN]; exact O.nd) ((IH sc W X O).2.2 tg0 it0 it h3) ok
        (fun s H C cl fp => ckTg_ok (X := X.blk s H scope (compEnvC scope cl C X.env) fp) O.eN O.nd O.K O.calm (blk_tg O bo.uniq s H C cl fp) 3 tg0 tg h4)
        (fun s H C cl fp => hifs _ (IH (relS scope sc) noW _ (blk_ok O (scope := scope) s H C cl fp)).2.1)
        (fun s H C cl fp => (IH (relS scope sc) noW _ (blk_ok O (scope := scope) s H C cl fp)).1 elt0 elt h7) hs hsub
      rw [h1] at this
      exact this
    · cases h
  | mk q es =>
    simp only [ckE] at h
    split at h
    · rename_i x p args p2 f ef
      simp only [Bool.and_eq_true, beq_iff_eq, decide_eq_true_eq] at h
      obtain ⟨⟨⟨⟨⟨hx, hg⟩, hl⟩, hdl⟩, nd⟩, hes⟩ := h
      obtain ⟨hg, hd⟩ := gl_of O hg
      rw [TO.init] at ef
      obtain ⟨C, fa, fd, hC, hM, h3, y, qual, params, body, scope, dvs, h4, h5, h6⟩ := Q.cl q f ef
      obtain ⟨ha, hs, hlen⟩ := ckEs_a ie hes
      rw [TO.L] at h3 h5
      refine e_mkG (oi := none) (es2 := []) (ks := []) (kws := []) (pl := some) (by rw [O.K]; exact hM) hC ef (by rw [O.prog, O.w, O.K, O.mg, O.base]; exact h3) O.room O.tk hg (by rw [O.mg, hx, ← TO.L]; exact hC.nm) hd (by rw [O.K, hl]; exact kbd_all h4 (plainA_of h5) nd h6 hdl) (fun v vs ws e => by cases e; rfl) rfl hs rfl ha k_nil hlen rfl ?_ ?_
      · intro vs ws l e; cases e; simp only [List.length_nil, Nat.add_zero] at l; omega
      · intro s; rw [List.append_nil, evE]; rfl
    · cases h
  | fld x f =>
    simp only [ckE] at h
    split at h
    · rename_i x0 m p
      simp only [Bool.and_eq_true, beq_iff_eq] at h
      obtain ⟨⟨⟨rfl, hf⟩, hp⟩, hx⟩ := h
      obtain ⟨inj, nat⟩ := TO.fld f hf
      rw [← TO.L]
      exact e_fld O.K inj nat (attr_plain hp) (ie _ _ hx)
    · cases h
  | meth o m es =>
    simp only [ckE] at h
    split at h
    · rename_i o0 n ap args cp np enp
      simp only [Bool.and_eq_true, beq_iff_eq, decide_eq_true_eq] at h
      obtain ⟨⟨⟨⟨⟨⟨rfl, hp⟩, hl⟩, hl2⟩, hli⟩, ho⟩, hes⟩ := h
      obtain ⟨hmt, hnf⟩ := TO.mt m np enp
      obtain ⟨ha, hs, hlen⟩ := ckEs_a ie hes
      rw [← TO.L]
      refine e_meth (k := k) O.K (ie _ _ ho) hs ha hlen (fun c C f hC hf => ?_) (fun c => hnf c) (O.room.mono (Nat.le_succ _)) O.tk (meth_ht hp hs hl2 (by simpa using hli))
      obtain ⟨fa, fd, hM, h3, y, qual, params, body, scope, dvs, h4, h5, h6⟩ := Q.mt c m f hf C hC
      obtain ⟨z1, z2, z3⟩ := hmt c f hf
      refine ⟨fa, fd, G.L.ps f, by rw [O.K]; exact hM, by rw [O.prog, O.w, O.K, O.mg, O.base]; exact h3, by rw [z1, ← hl], ?_⟩
      rw [O.K, hl, ← z1]
      exact kbd_all h4 (plainA_of h5) z3 h6 (by rw [z2]; exact Nat.zero_le _)
    · cases h
  | pop i eo =>
    cases eo with
    | none => simp [ckE] at h
    | some e =>
      simp only [ckE] at h
      split at h
      · rename_i x p1 m p v q
        simp only [Bool.and_eq_true, beq_iff_eq] at h
        obtain ⟨⟨⟨⟨⟨hx, hv⟩, rfl⟩, hl⟩, hn⟩, he⟩ := h
        obtain ⟨v1, d1, d2⟩ := vis_of O hv
        exact e_pop (pe_var (by rw [O.eN]; exact hx) v1 d1 d2) (ie _ _ he) hn rfl (by simpa using hl)
      · cases h
  | ofIt b it =>
    cases b <;> first | (simp [ckE] at h; done) | skip
    cases it <;> first | (simp [ckE] at h; done) | skip
    rename_i es
    match es, h with
    | [], h => simp [ckE] at h
    | _ :: _ :: _, h => simp [ckE] at h
    | [e], h =>
      simp only [ckE] at h
      split at h
      · rename_i f p1 g p2 v p3 p4
        simp only [Bool.and_eq_true, beq_iff_eq] at h
        obtain ⟨⟨⟨⟨⟨rfl, rfl⟩, g1⟩, g2⟩, hn⟩, he⟩ := h
        exact e_listR O.calm (gl_of O g1).1 (by rw [O.mg]; exact Q.bl _ (by decide)) (gl_of O g2).1 (by rw [O.mg]; exact Q.bl _ (by decide)) (ie _ _ he) hn
      · cases h
  | _ => simp [ckE] at h
theorem ckT_ok (TO : TbOk G tb) (Q : GOk G prog w base run tb.dd tb.fns k) (IH : ChOk G prog w base run k N c) (O : CxOk G prog w base N sc k W X) (a : Expr) (b : E) (h : ckT tb N c sc a b = true) : PT X a (tT G run W b) := by
  have ie : ∀ a b, c.e sc a b = true → PE X a (tI G run W b) := (IH sc W X O).1
  have it' : ∀ a b, c.t sc a b = true → PT X a (tT G run W b) := (IH sc W X O).2.1
  have plain : (∀ whole, isTrue a X.env whole = (do let v ← whole; standAt a.pos; holding [v] (PySem.truthy v))) → ckE tb N c sc a b = true → PT X a (tT G run W b) := fun hw h => e_truth O.K (ckE_ok TO Q IH O a b h) hw
  cases a with
  | UnaryOp op x p =>
    cases op with
    | Not =>
      simp only [ckT] at h
      split at h
      · exact t_not (it' _ _ h)
      · cases h
    | Invert => exact plain (fun _ => rfl) h
    | UAdd => exact plain (fun _ => rfl) h
    | USub => exact plain (fun _ => rfl) h
  | BoolOp op vs p =>
    cases op with
    | And => exact (ckAnd_t it' h).pt
    | Or => exact (ckOr_t it' h).pt
  | IfExp t x y p => cases h
  | Compare x ops ys p =>
    simp only [ckT] at h
    split at h
    · simp only [ckE] at h
      split at h
      · rename_i e
        simp only [Expr.Compare.injEq] at e
        obtain ⟨rfl, rfl, rfl, rfl⟩ := e
        simp only [Bool.and_eq_true, beq_iff_eq, Bool.not_eq_true'] at h
        rw [h.1.1.1.1.1]
        exact t_cmp O.K O.u65 h.1.1.2 (ie _ _ h.1.2) (ie _ _ h.2)
      · cases h
    · simp only [ckE] at h
      split at h
      · rename_i e
        simp only [Expr.Compare.injEq] at e
        obtain ⟨rfl, rfl, rfl, rfl⟩ := e
        simp only [Bool.and_eq_true, beq_iff_eq, Bool.not_eq_true'] at h
        rw [h.1.1.1.1.1, h.1.1.1.1.2]
        exact t_cmp2 O.K O.u65 h.1.1.1.2 (ie _ _ h.1.1.2) (ie _ _ h.1.2) (ie _ _ h.2)
      · cases h
    · simp only [ckE] at h
      split at h
      · rename_i e
        simp only [Expr.Compare.injEq] at e
        obtain ⟨rfl, rfl, rfl, rfl⟩ := e
        simp only [Bool.and_eq_true, beq_iff_eq] at h
        rw [h.1]
        exact t_isN pe_non (ie _ _ h.2)
      · cases h
    · simp only [ckE] at h
      split at h
      · rename_i e
        simp only [Expr.Compare.injEq] at e
        obtain ⟨rfl, rfl, rfl, rfl⟩ := e
        simp only [Bool.and_eq_true, beq_iff_eq] at h
        rw [h.1.1, h.1.2]
        exact t_isB pe_bl (ie _ _ h.2)
      · cases h
    · cases h
  | _ => exact plain (fun _ => rfl) h
theorem ckIt_ok (TO : TbOk G tb) (Q : GOk G prog w base run tb.dd tb.fns k) (IH : ChOk G prog w base run k N c) (O : CxOk G prog w base N sc k W X) (tg a : Expr) (b : Py.It) (h : ckIt c sc tg a b = true) : PI X tg a (tIt G run W b) := by
  have ie : ∀ a b, c.e sc a b = true → PE X a (tI G run W b) := (IH sc W X O).1
  unfold ckIt at h
  split at h
  · split at h
    · cases h
    · exact i_seq O.K (ie _ _ h)
  · split at h
    · simp only [Bool.and_eq_true, beq_iff_eq] at h
      obtain ⟨⟨⟨h1, h2⟩, h3⟩, h4⟩ := h
      obtain ⟨hg, hd⟩ := gl_of O h2
      rw [h1] at hg ⊢
      exact i_range1 hg (by rw [O.mg]; exact Q.bl _ (by decide)) h3 (a_cons (ie _ _ h4) a_nil (star1 h3 _ _))
    · cases h
  · split at h
    · simp only [Bool.and_eq_true, beq_iff_eq] at h
      obtain ⟨⟨⟨⟨⟨h1, h2⟩, h3⟩, h3'⟩, h4⟩, h5⟩ := h
      obtain ⟨hg, hd⟩ := gl_of O h2
      rw [h1] at hg ⊢
      exact i_range2 hg (by rw [O.mg]; exact Q.bl _ (by decide)) h3 h3' (a_cons (ie _ _ h4) (a_cons (ie _ _ h5) a_nil (star1 h3' _ _)) (star1 h3 _ _))
    · cases h
  · split at h
    · simp only [Bool.and_eq_true, beq_iff_eq] at h
      obtain ⟨⟨⟨⟨h1, h2⟩, h3⟩, h4⟩, h6⟩ := h
      obtain ⟨hg, hd⟩ := gl_of O h2
      rw [h1] at hg ⊢
      cases tg with
      | Tuple => exact i_enum O.K hg (by rw [O.mg]; exact Q.bl _ (by decide)) h3 (a_cons (ie _ _ h4) a_nil (star1 h3 _ _))
      | _ => cases h6
    · cases h
  · split at h
    · simp only [Bool.and_eq_true, beq_iff_eq] at h
      obtain ⟨⟨⟨⟨⟨⟨h1, h2⟩, h3⟩, h3'⟩, h4⟩, h5⟩, h6⟩ := h
      obtain ⟨hg, hd⟩ := gl_of O h2
      rw [h1] at hg ⊢
      cases tg with
      | Tuple => exact i_zip O.K hg (by rw [O.mg]; exact Q.bl _ (by decide)) h3 h3' (a_cons (ie _ _ h4) (a_cons (ie _ _ h5) a_nil (star1 h3' _ _)) (star1 h3 _ _))
      | _ => cases h6
    · cases h
  · cases h
theorem chN_ok (TO : TbOk G tb) (Q : GOk G prog w base run tb.dd tb.fns k) : ∀ n, ChOk G prog w base run k N (chN tb N n)
  | 0 => fun sc W X O => ⟨fun _ _ h => (by cases h), fun _ _ h => (by cases h), fun _ _ _ h => (by cases h)⟩
  | n + 1 => fun sc W X O => ⟨fun a b h => ckE_ok TO Q (chN_ok TO Q n) O a b h, fun a b h => ckT_ok TO Q (chN_ok TO Q n) O a b h, fun tg a b h => ckIt_ok TO Q (chN_ok TO Q n) O tg a b h⟩
end
end Py
end SC3
section SD1
set_option autoImplicit false
set_option linter.all false
set_option maxRecDepth 100000
set_option maxHeartbeats 4000000
/-! The check of statements. -/
namespace Py
open PySem L2

/-! ### how several names are stored -/
def nmsOf (sc : Scope) (ts : List Expr) : List Str := ts.filterMap fun
    | .Name id pos => if sc.names.lookup id == some .local && pos.line == (ts.head?.map (·.pos.line)).getD 0 then some id else none
    | _ => none
def swapPure (sc : Scope) (ts vs : List Expr) : Option (Option (List Str)) :=
  if !(ts.length == 2 || ts.length == 3) || vs.length != ts.length then some none
  else if !vs.all noStar then none
  else if (nmsOf sc ts).length != ts.length || (nmsOf sc ts).eraseDups.length != (nmsOf sc ts).length then some none
  else if vs.all (foldedForSure 8) then some none
  else if vs.all (constantsAlone 8) then none
  else some (some (nmsOf sc ts))
theorem swap_ok {env : Env} {ts vs : List Expr} {k k2 : Nat} {p p2 : Pos} {r : Option (List Str)} (hk : env.scope.kind = .function) (h : swapPure env.scope ts vs = some r) : swappedStores [.Tuple ts k p] (.Tuple vs k2 p2) env = pure r := by
  have hb : env.blockKind = .function := by unfold Env.blockKind; rw [hk]; rfl
  unfold swapPure at h
  unfold swappedStores
  simp only [hb]
  by_cases h1 : (!(ts.length == 2 || ts.length == 3) || vs.length != ts.length) = true
  · rw [if_pos h1] at h
    cases h
    simp only [h1, Bool.true_or, if_true]
  · rw [if_neg h1] at h
    have h1' : (!(ts.length == 2 || ts.length == 3) || vs.length != ts.length) = false := by simpa using h1
    have h1'' : (!(ts.length == 2 || ts.length == 3) || vs.length != ts.length || (ScopeKind.function != ScopeKind.function)) = false := by rw [h1']; rfl
    rw [h1'', if_neg (by decide)]
    by_cases h2 : (!vs.all noStar) = true
    · rw [if_pos h2] at h; cases h
    · rw [if_neg h2] at h
      have h2' : (vs.any fun | .Starred .. => true | _ => false) = false := by
        have h2 : vs.all noStar = true := by simpa using h2
        rw [List.any_eq_false]
        intro e he
        have := List.all_eq_true.mp h2 e he
        cases e <;> first | (intro z; cases z; done) | cases this
      refine (if_neg (fun z => absurd (z.symm.trans h2') (by decide))).trans ?_
      by_cases h3 : ((nmsOf env.scope ts).length != ts.length || (nmsOf env.scope ts).eraseDups.length != (nmsOf env.scope ts).length) = true
      · rw [if_pos h3] at h
        cases h
        exact if_pos h3
      · rw [if_neg h3] at h
        refine (if_neg h3).trans ?_
        by_cases h4 : vs.all (foldedForSure 8) = true
        · rw [if_pos h4] at h
          cases h
          exact if_pos h4
        · rw [if_neg h4] at h
          refine (if_neg h4).trans ?_
          by_cases h5 : vs.all (constantsAlone 8) = true
          · rw [if_pos h5] at h; cases h
          · rw [if_neg h5] at h
            cases h
            exact (if_neg h5)
theorem swap_none {env : Env} {ts : List Expr} {e : Expr} (h : (match e with | .Tuple _ _ _ => false | _ => true) = true) : swappedStores ts e env = pure none := by
  unfold swappedStores
  cases e <;> first | cases h; done | skip
  all_goals (cases ts with
    | nil => rfl
    | cons t ts => cases t <;> cases ts <;> rfl)
/-- no comprehension -/
def notComp : Expr → Bool
  | .ListComp _ _ _ _ => false
  | .SetComp _ _ _ _ => false
  | .DictComp _ _ _ _ _ => false
  | _ => true
theorem notComp_ok {e : Expr} (h : notComp e = true) (t : Option Expr) (l : Nat) (env : Env) : swapsWith e t l env = pure false := by
  unfold swapsWith
  cases e <;> first | rfl | cases h
theorem sole_ok {e : Expr} (h : notComp e = true) (t : Expr) (l : Nat) (env : Env) : swapsWithSole [t] e l env = pure false := notComp_ok h (some t) l env
def isTup : Expr → Bool
  | .Tuple _ _ _ => true
  | _ => false
/-! ### the check -/
def ckSs (f : Stmt → T → Bool) : List Stmt → List T → Bool
  | [], [] => true
  | a :: as, b :: bs => f a b && ckSs f as bs
  | _, _ => false
variable (tb : Tb) (N : List Str) (n : Nat) (sc : Scope)
/-- a name that is stored -/
def ckNm (i : Nat) (x : Str) : Bool := N[i]? == some x && isLoc sc x
def ckNms : List Expr → List Nat → Bool
  | [], [] => true
  | .Name x _ :: r, i :: is => ckNm N sc i x && ckNms r is
  | _, _ => false
def ckPar (r : List Str) (ts : List Expr) (is : List Nat) (vs : List Expr) : Bool := match ts, is, vs with
  | [.Name x _, .Name y _], [_, _], [_, _] => r == [x, y] && sc.names.lookup x == some .local && sc.names.lookup y == some .local
  | [.Name x _, .Name y _, .Name z _], [_, _, _], [_, _, _] => r == [x, y, z] && sc.names.lookup x == some .local && sc.names.lookup y == some .local && sc.names.lookup z == some .local
  | _, _, _ => false
def ckS (f : Stmt → T → Bool) (a : Stmt) (b : T) : Bool := match b with
  | .asg (.nm i) e => (match a with
    | .Assign [.Name x p] v q => ckNm N sc i x && (match v with
      | .ListComp elt0 [⟨tg0, it0, ifs0, 0⟩] scope lp => if sc.names.lookup x == some .local && p.line == lp.line && !(scope.names.any fun (m, k) => m == x && (k == .local || k == .cell)) then
          (match e with
            | .lc elt tg it ifs own => notSet it0 && (ownOf' N own).map (·.2) == own && blkC N sc scope (ownOf' N own) && (chN tb N n).it sc tg0 it0 it && ckTg N scope 3 tg0 tg && (tgSlots tg).all (fun j => own.contains j) &&
              (match ifs0, ifs with
                | [], [] => true
                | [i0], [i] => (chN tb N n).t (relS scope sc) i0 i
                | _, _ => false) && (chN tb N n).e (relS scope sc) elt0 elt
            | _ => false)
        else if !(sc.names.lookup x == some .local) then (chN tb N n).e sc v e else false
      | _ => notComp v && (chN tb N n).e sc v e)
    | _ => false)
  | .asg (.tup ts) e => (match a with
    | .Assign [t] v _ => isTup t && !isTup v && notComp v && ckTg N sc 3 t (.tup ts) && (chN tb N n).e sc v e
    | _ => false)
  | .asgC i e => (match a with
    | .Assign [.Name x _] v _ => ckNm N sc i x && notComp v && (chN tb N n).e sc v e
    | _ => false)
  | .par is es => (match a with
    | .Assign [.Tuple ts _ _] (.Tuple vs _ _) _ => ckEs ((chN tb N n).e sc) vs es && ckNms N sc ts is && decide is.Nodup && decide (is.length ≤ 1000) && (match swapPure sc ts vs with
      | some none => true
      | some (some r) => ckPar sc r ts is vs
      | none => false)
    | _ => false)
  | .setI i ix e => (match a with
    | .Assign [.Subscript (.Name x _) ix0 _] v _ => ckNm N sc i x && isVis sc x && plainIx ix0 && notComp v && !isTup v && (chN tb N n).e sc ix0 ix && (chN tb N n).e sc v e
    | _ => false)
  | .app i e => (match a with
    | .Expr (.Call (.Attribute (.Name x _) m p) [v] [] q) _ => ckNm N sc i x && isVis sc x && m == "append" && p.endLine == q.line && noStar v && (chN tb N n).e sc v e
    | _ => false)
  | .exp e => (match a with
    | .Expr v _ => notComp v && (chN tb N n).e sc v e
    | _ => false)
  | .ret none => (match a with
    | .Return none _ => true
    | _ => false)
  | .ret (some e) => (match a with
    | .Return (some v) _ => (chN tb N n).e sc v e
    | _ => false)
  | .ite c x y => (match a with
    | .If c0 x0 y0 _ => (chN tb N n).t sc c0 c && ckSs f x0 x && ckSs f y0 y
    | _ => false)
  | .for_ t it b => (match a with
    | .For t0 it0 b0 [] _ => notSet it0 && (chN tb N n).it sc t0 it0 it && ckTg N sc 3 t0 t && ckSs f b0 b
    | _ => false)
  | .while_ c b => (match a with
    | .While c0 b0 [] _ => (chN tb N n).t sc c0 c && ckSs f b0 b
    | _ => false)
  | .pass => (match a with
    | .Pass _ => true
    | _ => false)
  | .brk => (match a with
    | .Break _ => true
    | _ => false)
  | .cont => (match a with
    | .Continue _ => true
    | _ => false)
  | .dead => true
  | .ext i e => (match a with
    | .Expr (.Call (.Attribute (.Name x _) m p) [v] [] q) _ => ckNm N sc i x && isVis sc x && m == "extend" && p.endLine == q.line && noStar v && (chN tb N n).e sc v e
    | _ => false)
  | .setF i k e => (match a with
    | .Assign [.Attribute (.Name x _) m _] v _ => N[i]? == some x && isVis sc x && m == tb.L.fld k && tb.fld k && notComp v && (chN tb N n).e sc v e
    | _ => false)
  | .iteB k e x y => (match a with
    | .If (.UnaryOp .Not (.Call (.Name z _) [v] [] _) _) b0 o0 _ => tb.fns k && z == tb.L.fnm k && isGl sc z && (tb.L.ps k).length == 1 && (tb.dd k).isEmpty && noStar v && (chN tb N n).e sc v e && ckSs f o0 x && ckSs f b0 y
    | _ => false)
  | _ => false
def sN : Nat → Stmt → T → Bool
  | 0 => fun _ _ => false
  | m + 1 => ckS tb N n sc (sN m)
end Py
end SD1
section SD2
set_option autoImplicit false
set_option linter.all false
set_option maxRecDepth 100000
set_option maxHeartbeats 4000000
/-! The check of statements is sound. -/
namespace Py
open PySem L2

section
variable {G : Gx} {prog : Program} {w : World} {base : Heap} {run : Run} {k : Nat} {N : List Str} {tb : Tb} {sc : Scope} {W : WX} {X : Cx} {n : Nat}
/-- what a def's context must be -/
structure SxOk (G : Gx) (prog : Program) (w : World) (base : Heap) (N : List Str) (sc : Scope) (k : Nat) (W : WX) (X : Cx) : Prop where
  o : CxOk G prog w base N sc k W X
  kind : sc.kind = .function
  fn : ∀ x, X.fn x = true
  po : PassesOwn (model X.prog X.w) X.A X.env X.xe
theorem SxOk.tg (S : SxOk G prog w base N sc k W X) : TgOk X sc := by
  intro x h
  refine ⟨?_, .inl (S.fn x)⟩
  unfold L2.Loc
  rw [S.o.eS]
  unfold isLoc at h
  split at h <;> first | exact .inl (by assumption) | exact .inr (by assumption) | cases h
def StOk (G : Gx) (run : Run) (W : WX) (X : Cx) (f : Stmt → T → Bool) : Prop := ∀ a b, f a b = true → PS X a (tSt G run W b)
theorem ckSs_ok {f : Stmt → T → Bool} (hf : StOk G run W X f) : ∀ {as : List Stmt} {bs : List T}, ckSs f as bs = true → PSs X as (tSs G run W bs)
  | [], [], _ => ss_nil
  | a :: as, b :: bs, h => by
    simp only [ckSs, Bool.and_eq_true] at h
    exact ss_cons (hf a b h.1) (ckSs_ok hf h.2)
  | [], _ :: _, h => by cases h
  | _ :: _, [], h => by cases h
theorem nm_of (S : SxOk G prog w base N sc k W X) {i : Nat} {x : Str} (h : ckNm N sc i x = true) : X.N[i]? = some x ∧ L2.Loc X.env.scope x ∧ (X.fn x = true ∨ X.env.scope.names.lookup x = some .local) := by
  simp only [ckNm, Bool.and_eq_true, beq_iff_eq] at h
  obtain ⟨l, hf⟩ := S.tg x h.2
  exact ⟨by rw [S.o.eN]; exact h.1, l, hf⟩
theorem ckNms_ok (S : SxOk G prog w base N sc k W X) : ∀ {ts : List Expr} {is : List Nat}, ckNms N sc ts is = true → PGs X ts (gNames is) ∧ ts.all noStar = true ∧ ts.length = is.length
  | [], [], _ => ⟨pgs_nil, rfl, rfl⟩
  | .Name x p :: r, i :: is, h => by
    simp only [ckNms, Bool.and_eq_true] at h
    obtain ⟨h1, h2, h3⟩ := ckNms_ok S h.2
    obtain ⟨a, b, c⟩ := nm_of S h.1
    exact ⟨pgs_cons (pg_name (by rw [S.o.eN]; exact S.o.nd) a b c) h1 (star_gc rfl), by simp [noStar, h2], by simp [h3]⟩
  | [], _ :: _, h => by cases h
  | e :: _, [], h => by cases e <;> cases h
  | .BoolOp .. :: _, _ :: _, h => by cases h
  | .NamedExpr .. :: _, _ :: _, h => by cases h
  | .BinOp .. :: _, _ :: _, h => by cases h
  | .UnaryOp .. :: _, _ :: _, h => by cases h
  | .Lambda .. :: _, _ :: _, h => by cases h
  | .IfExp .. :: _, _ :: _, h => by cases h
  | .Dict .. :: _, _ :: _, h => by cases h
  | .Set .. :: _, _ :: _, h => by cases h
  | .ListComp .. :: _, _ :: _, h => by cases h
  | .SetComp .. :: _, _ :: _, h => by cases h
  | .DictComp .. :: _, _ :: _, h => by cases h
  | .GeneratorExp .. :: _, _ :: _, h => by cases h
  | .Await .. :: _, _ :: _, h => by cases h
  | .Yield .. :: _, _ :: _, h => by cases h
  | .YieldFrom .. :: _, _ :: _, h => by cases h
  | .Compare .. :: _, _ :: _, h => by cases h
  | .Call .. :: _, _ :: _, h => by cases h
  | .FormattedValue .. :: _, _ :: _, h => by cases h
  | .JoinedStr .. :: _, _ :: _, h => by cases h
  | .Constant .. :: _, _ :: _, h => by cases h
  | .Attribute .. :: _, _ :: _, h => by cases h
  | .Subscript .. :: _, _ :: _, h => by cases h
  | .Starred .. :: _, _ :: _, h => by cases h
  | .List .. :: _, _ :: _, h => by cases h
  | .Tuple .. :: _, _ :: _, h => by cases h
  | .Slice .. :: _, _ :: _, h => by cases h
theorem ckS_ok (TO : TbOk G tb) (Q : GOk G prog w base run tb.dd tb.fns k) (S : SxOk G prog w base N sc k W X) {f : Stmt → T → Bool} (hf : StOk G run W X f) (a : Stmt) (b : T) (h : ckS tb N n sc f a b = true) : PS X a (tSt G run W b) := by
  have C := chN_ok (N := N) TO Q n
  have O := S.o
  have ie : ∀ a b, (chN tb N n).e sc a b = true → PE X a (tI G run W b) := (C sc W X O).1
  have it' : ∀ a b, (chN tb N n).t sc a b = true → PT X a (tT G run W b) := (C sc W X O).2.1
  have ii := (C sc W X O).2.2
  have nd : X.N.Nodup := by rw [O.eN]; exact O.nd
  cases b with
  | asg t e =>
    cases t with
    | nm i =>
      simp only [ckS] at h
      split at h
      · rename_i x p v q
        simp only [Bool.and_eq_true] at h
        obtain ⟨hn, h⟩ := h
        obtain ⟨a1, a2, a3⟩ := nm_of S hn
        split at h
        · rename_i elt0 tg0 it0 ifs0 scope lp
          split at h
          · rename_i hsw
            split at h
            · rename_i elt tg it ifs own
              simp only [Bool.and_eq_true, beq_iff_eq] at h
              obtain ⟨⟨⟨⟨⟨⟨⟨h0, h1⟩, h2⟩, h3⟩, h4⟩, h5⟩, h6⟩, h7⟩ := h
              have bo := blkOk_by h2
              have ok : BlkOk X.N X.env.scope scope (ownOf' N own) := by rw [O.eN, O.eS]; exact bo
              have hsub : ∀ j ∈ tgSlots tg, j ∈ (ownOf' N own).map (·.2) := fun j hj => by rw [h1]; simpa using List.all_eq_true.mp h5 j hj
              have hifs : ∀ X' : Cx, (∀ a b, (chN tb N n).t (relS scope sc) a b = true → PT X' a (tT G run noW b)) → PTs X' ifs0 (tTs G run noW ifs) := by
                intro X' ib
                split at h6
                · exact c_nil
                · exact c_one (ib _ _ h6)
                · cases h6
              have hloc : X.env.scope.names.lookup x = some .local := by
                rw [O.eS]
                simpa using hsw.1.1
              have sw : swapsWith (.ListComp elt0 [⟨tg0, it0, ifs0, 0⟩] scope lp) (some (.Name x p)) q.line X.env = pure true := by
                have hb : X.env.blockKind = .function := by unfold Env.blockKind; rw [O.eS, S.kind]; rfl
                unfold swapsWith
                show (pure (X.env.blockKind == .function && X.env.kindOf x == some .local && p.line == lp.line && !(scope.names.any fun (n, k) => n == x && (k == .local || k == .cell))) : Sem Bool) = pure true
                have e : (X.env.kindOf x == some .local) = (sc.names.lookup x == some .local) := by unfold Env.kindOf; rw [O.eS]
                rw [hb, e, hsw.1.1, hsw.1.2, hsw.2]
                rfl
              have := s_setLc (W := W) (W' := noW) (ifs := ifs0) (ifs' := ifs) (elt' := elt) (pos := q) (pos' := p) (lpos := lp) O.calm nd a1 hloc sw (ii tg0 it0 it h3) ok
                (fun s H C cl fp => ckTg_ok (X := X.blk s H scope (compEnvC scope cl C X.env) fp) O.eN O.nd O.K O.calm (blk_tg O bo.uniq s H C cl fp) 3 tg0 tg h4)
                (fun s H C' cl fp => hifs _ (C (relS scope sc) noW _ (blk_ok O (scope := scope) s H C' cl fp)).2.1)
                (fun s H C' cl fp => (C (relS scope sc) noW _ (blk_ok O (scope := scope) s H C' cl fp)).1 elt0 elt h7) (notSet_ok h0 X.env) hsub
              rw [h1] at this
              exact this
            · cases h
          · split at h
            · rename_i hl
              refine s_set nd a1 a2 (ie _ _ h) ?_ a3
              unfold swapsWith
              show (pure (X.env.blockKind == .function && X.env.kindOf x == some .local && p.line == lp.line && !(scope.names.any fun (n, k) => n == x && (k == .local || k == .cell))) : Sem Bool) = pure false
              have e : (X.env.kindOf x == some .local) = false := by unfold Env.kindOf; rw [O.eS]; simpa using hl
              rw [e]
              simp
            · cases h
        · simp only [Bool.and_eq_true] at h
          exact s_set nd a1 a2 (ie _ _ h.2) (notComp_ok h.1 _ _ _) a3
      · cases h
    | tup ts =>
      simp only [ckS] at h
      split at h
      · rename_i t v q
        simp only [Bool.and_eq_true, Bool.not_eq_true'] at h
        obtain ⟨⟨⟨⟨h1, h2⟩, h3⟩, h4⟩, h5⟩ := h
        refine s_asgT (ie _ _ h5) (ckTg_ok O.eN O.nd O.K O.calm S.tg 3 t (.tup ts) h4) (sole_ok h3 _ _ _) (swap_none ?_) ?_
        · cases v <;> first | rfl | cases h2
        · cases t <;> first | rfl | cases h1
      · cases h
  | asgC i e =>
    simp only [ckS] at h
    split at h
    · simp only [Bool.and_eq_true] at h
      obtain ⟨a1, a2, a3⟩ := nm_of S h.1.1
      exact s_asgC nd a1 a2 (ie _ _ h.2) (notComp_ok h.1.2 _ _ _) a3
    · cases h
  | par is es =>
    simp only [ckS] at h
    split at h
    · rename_i ts kt pt vs k2 pt2 q
      simp only [Bool.and_eq_true, decide_eq_true_eq] at h
      obtain ⟨⟨⟨⟨h1, h2⟩, h3⟩, h4⟩, h5⟩ := h
      obtain ⟨g1, g2, g3⟩ := ckNms_ok S h2
      have hk : X.env.scope.kind = .function := by rw [O.eS]; exact S.kind
      split at h5
      · rename_i hsw
        obtain ⟨b1, b2⟩ := star_g (env := X.env) g2
        exact s_parT O.calm g1 (ckEs_p ie h1) h4 (by rw [b1, g3]) b2 (sole_ok rfl _ _ _) (swap_ok hk (by rw [O.eS]; exact hsw)) rfl
      · rename_i r hsw
        have hw := swap_ok (k := kt) (k2 := k2) (p := pt) (p2 := pt2) hk (show swapPure X.env.scope ts vs = some (some r) by rw [O.eS]; exact hsw)
        have pa := ckEs_p ie h1
        unfold ckPar at h5
        split at h5
        · rename_i x px y py i j v1 v2
          simp only [Bool.and_eq_true, beq_iff_eq] at h5
          obtain ⟨⟨rfl, l1⟩, l2⟩ := h5
          simp only [ckNms, ckNm, Bool.and_eq_true, beq_iff_eq] at h2
          rw [← O.eS] at l1 l2
          have e : i ≠ j := fun e => by subst e; simp at h3
          exact s_par2 O.calm nd (by rw [O.eN]; exact h2.1.1) (by rw [O.eN]; exact h2.2.1.1) e l1 l2 pa hw (sole_ok rfl _ _ _)
        · rename_i x px y py z pz i j l v1 v2 v3
          simp only [Bool.and_eq_true, beq_iff_eq] at h5
          obtain ⟨⟨⟨rfl, l1⟩, l2⟩, l3⟩ := h5
          simp only [ckNms, ckNm, Bool.and_eq_true, beq_iff_eq] at h2
          rw [← O.eS] at l1 l2 l3
          have e1 : i ≠ j := fun e => by subst e; simp at h3
          have e2 : i ≠ l := fun e => by subst e; simp at h3
          have e3 : j ≠ l := fun e => by subst e; simp at h3
          exact s_par3 O.calm nd (by rw [O.eN]; exact h2.1.1) (by rw [O.eN]; exact h2.2.1.1) (by rw [O.eN]; exact h2.2.2.1.1) e1 e2 e3 l1 l2 l3 pa hw (sole_ok rfl _ _ _)
        · cases h5
      · cases h5
    · cases h
  | setI i ix e =>
    simp only [ckS] at h
    split at h
    · rename_i x px ix0 p' v q
      simp only [Bool.and_eq_true, Bool.not_eq_true'] at h
      obtain ⟨⟨⟨⟨⟨⟨h1, h2⟩, h3⟩, h4⟩, h5⟩, h6⟩, h7⟩ := h
      obtain ⟨a1, a2, a3⟩ := nm_of S h1
      obtain ⟨v1, v2, v3⟩ := vis_of O h2
      refine s_setI O.u1 (pe_var a1 v1 v2 v3) (ie _ _ h6) (ie _ _ h7) (fun u => ?_) (sole_ok h4 _ _ _) (swap_none ?_) rfl
      · cases ix0 <;> first | rfl | cases h3
      · cases v <;> first | rfl | cases h5
    · cases h
  | app i e =>
    simp only [ckS] at h
    split at h
    · rename_i x px m p v q q2
      simp only [Bool.and_eq_true, beq_iff_eq] at h
      obtain ⟨⟨⟨⟨⟨h1, h2⟩, h3⟩, h4⟩, h5⟩, h6⟩ := h
      obtain ⟨a1, a2, a3⟩ := nm_of S h1
      obtain ⟨v1, v2, v3⟩ := vis_of O h2
      rw [h3]
      exact s_app (pe_var a1 v1 v2 v3) (x_cons (ie _ _ h6) x_nil (star1 h5 _ _)) h5 rfl (by simpa using h4) (notComp_ok rfl _ _ _)
    · cases h
  | exp e =>
    simp only [ckS] at h
    split at h
    · simp only [Bool.and_eq_true] at h
      exact s_exp (notComp_ok h.1 _ _ _) (ie _ _ h.2)
    · cases h
  | ret o =>
    cases o with
    | none =>
      simp only [ckS] at h
      split at h
      · exact s_ret0
      · cases h
    | some e =>
      simp only [ckS] at h
      split at h
      · exact s_ret (ie _ _ h)
      · cases h
  | ite c x y =>
    simp only [ckS] at h
    split at h
    · simp only [Bool.and_eq_true] at h
      exact s_if (it' _ _ h.1.1) (ckSs_ok hf h.1.2) (ckSs_ok hf h.2)
    · cases h
  | for_ t it b =>
    simp only [ckS] at h
    split at h
    · rename_i t0 it0 b0 q
      simp only [Bool.and_eq_true] at h
      exact s_for S.po O.calm (ii t0 it0 it h.1.1.2) (ckTg_ok O.eN O.nd O.K O.calm S.tg 3 t0 t h.1.2) (ckSs_ok hf h.2) (notSet_ok h.1.1.1 _)
    · cases h
  | while_ c b =>
    simp only [ckS] at h
    split at h
    · simp only [Bool.and_eq_true] at h
      exact s_while S.po (it' _ _ h.1) (ckSs_ok hf h.2)
    · cases h
  | pass =>
    simp only [ckS] at h
    split at h
    · exact s_pass
    · cases h
  | brk =>
    simp only [ckS] at h
    split at h
    · exact s_brk
    · cases h
  | cont =>
    simp only [ckS] at h
    split at h
    · exact s_cont
    · cases h
  | dead => exact s_dead
  | ext i e =>
    simp only [ckS] at h
    split at h
    · rename_i x px m p v q q2
      simp only [Bool.and_eq_true, beq_iff_eq] at h
      obtain ⟨⟨⟨⟨⟨h1, h2⟩, h3⟩, h4⟩, h5⟩, h6⟩ := h
      obtain ⟨a1, a2, a3⟩ := nm_of S h1
      obtain ⟨v1, v2, v3⟩ := vis_of O h2
      rw [h3]
      exact s_ext (pe_var a1 v1 v2 v3) (ie _ _ h6) h5 rfl (by simpa using h4) (notComp_ok rfl _ _ _)
    · cases h
  | setF i q e =>
    simp only [ckS] at h
    split at h
    · rename_i x px m p v p2
      simp only [Bool.and_eq_true, beq_iff_eq] at h
      obtain ⟨⟨⟨⟨⟨h1, h2⟩, rfl⟩, h4⟩, h5⟩, h6⟩ := h
      obtain ⟨v1, v2, v3⟩ := vis_of O h2
      obtain ⟨inj, nat⟩ := TO.fld q h4
      rw [← TO.L]
      exact s_setF O.K inj nat (pe_var (by rw [O.eN]; exact h1) v1 v2 v3) (ie _ _ h6) (notComp_ok h5 _ _ _)
    · cases h
  | iteB q e x y =>
    simp only [ckS] at h
    split at h
    · rename_i z pz v p2 p3 b0 o0 p4
      simp only [Bool.and_eq_true, beq_iff_eq, List.isEmpty_iff] at h
      obtain ⟨⟨⟨⟨⟨⟨⟨⟨h1, h2⟩, h3⟩, h4⟩, h5⟩, h6⟩, h7⟩, h8⟩, h9⟩ := h
      obtain ⟨hg, hd⟩ := gl_of O h3
      obtain ⟨fa, fd, g1, g2, g3, _, qual, params, body, scope, dvs, g4, g5, g6⟩ := Q.fn q h1
      rw [TO.L] at g1 g3 g5
      have nd1 : (tb.L.ps q).Nodup := by
        match hp : tb.L.ps q, h4 with
        | [_], _ => simp
      have B := kbd_all g4 (plainA_of g5) nd1 g6 (by rw [h5]; exact Nat.zero_le _)
      rw [h4] at B
      exact s_iteB (k := k) (by rw [O.prog, O.w, O.K, O.mg, O.base]; exact g3) h4 (O.room.mono (Nat.le_succ _)) O.tk hg (by rw [O.mg, h2]; exact g1) (by rw [O.K]; exact g2) hd (by rw [O.K]; exact B) h6 (ie _ _ h7) (ckSs_ok hf h8) (ckSs_ok hf h9)
    · cases h
  | _ => simp [ckS] at h
theorem sN_ok (TO : TbOk G tb) (Q : GOk G prog w base run tb.dd tb.fns k) (S : SxOk G prog w base N sc k W X) : ∀ m, StOk G run W X (sN tb N n sc m)
  | 0 => fun _ _ h => (by cases h)
  | m + 1 => fun a b h => ckS_ok TO Q S (sN_ok TO Q S m) a b h
end
end Py
end SD2
section SD3
set_option autoImplicit false
set_option linter.all false
set_option maxRecDepth 100000
set_option maxHeartbeats 4000000
/-! A def's whole body: x = enumerate(zip(a, b)); return [.. for .. in x ..]. -/
namespace Py
open PySem L2
def ckEZ (tb : Tb) (N : List Str) (n : Nat) (sc : Scope) (as : List Stmt) (bs : List T) : Bool := match bs with
  | [.asgI j (.enumZ [a', b']), .ret (some (.lc elt tg (.var j2) ifs own))] => (match as with
    | [.Assign [.Name x _] (.Call (.Name en _) [.Call (.Name zi _) [a, b] [] _] [] _) _, .Return (some (.ListComp elt0 [⟨.Tuple elts kk tpos, .Name x2 _, ifs0, 0⟩] scope _)) _] =>
      en == "enumerate" && zi == "zip" && isGl sc en && isGl sc zi && x2 == x && j2 == j && ckNm N sc j x && isVis sc x && noStar a && noStar b && (chN tb N n).e sc a a' && (chN tb N n).e sc b b' &&
      ((ownOf' N own).map (·.2) == own && blkC N sc scope (ownOf' N own) && ckTg N scope 3 (.Tuple elts kk tpos) tg && (tgSlots tg).all (fun j => own.contains j) &&
        (match ifs0, ifs with
          | [], [] => true
          | [i0], [i] => (chN tb N n).t (relS scope sc) i0 i
          | _, _ => false) && (chN tb N n).e (relS scope sc) elt0 elt)
    | _ => false)
  | _ => false
section
variable {G : Gx} {prog : Program} {w : World} {base : Heap} {run : Run} {k : Nat} {N : List Str} {tb : Tb} {sc : Scope} {W : WX} {X : Cx} {n : Nat}
theorem ckEZ_ok (TO : TbOk G tb) (Q : GOk G prog w base run tb.dd tb.fns k) (S : SxOk G prog w base N sc k W X) (as : List Stmt) (bs : List T) (h : ckEZ tb N n sc as bs = true) : PSs X as (tSs G run W bs) := by
  have C := chN_ok (N := N) TO Q n
  have O := S.o
  have ie : ∀ a b, (chN tb N n).e sc a b = true → PE X a (tI G run W b) := (C sc W X O).1
  have nd : X.N.Nodup := by rw [O.eN]; exact O.nd
  unfold ckEZ at h
  split at h
  · rename_i j a' b' elt tg j2 ifs own
    split at h
    · rename_i x _ en _ zi _ a b _ _ _ elt0 elts kk tpos x2 _ ifs0 scope _ _
      simp only [Bool.and_eq_true, beq_iff_eq] at h
      obtain ⟨⟨⟨⟨⟨⟨⟨⟨⟨⟨⟨⟨e1, e2⟩, e3⟩, e4⟩, e5⟩, e6⟩, e7⟩, e8⟩, e9⟩, e10⟩, e11⟩, e12⟩, ⟨⟨⟨⟨h1, h2⟩, h4⟩, h5⟩, h6⟩, h7⟩ := h
      subst e1 e2 e5 e6
      obtain ⟨g1, _⟩ := gl_of O e3
      obtain ⟨g2, _⟩ := gl_of O e4
      obtain ⟨a1, a2, a3⟩ := nm_of S e7
      obtain ⟨v1, v2, v3⟩ := vis_of O e8
      have bo := blkOk_by h2
      have ok : BlkOk X.N X.env.scope scope (ownOf' N own) := by rw [O.eN, O.eS]; exact bo
      have hsub : ∀ j ∈ tgSlots tg, j ∈ (ownOf' N own).map (·.2) := fun j hj => by rw [h1]; simpa using List.all_eq_true.mp h5 j hj
      have hifs : ∀ X' : Cx, (∀ a b, (chN tb N n).t (relS scope sc) a b = true → PT X' a (tT G run noW b)) → PTs X' ifs0 (tTs G run noW ifs) := by
        intro X' ib
        split at h6
        · exact c_nil
        · exact c_one (ib _ _ h6)
        · cases h6
      rw [← h1]
      exact ss_ez (G := G) (run := run) (W := W) (W' := noW) (ifs := ifs0) (ifs' := ifs) (elt' := elt) O.calm O.K nd a1 a2 a3 (pe_var a1 v1 v2 v3) g1 (by rw [O.mg]; exact Q.bl _ (by decide)) g2 (by rw [O.mg]; exact Q.bl _ (by decide)) e9 e10
        (a_cons (ie _ _ e11) (a_cons (ie _ _ e12) a_nil (star1 e10 _ _)) (star1 e9 _ _)) ok
        (fun s H C cl fp => ckTg_ok (X := X.blk s H scope (compEnvC scope cl C X.env) fp) O.eN O.nd O.K O.calm (blk_tg O bo.uniq s H C cl fp) 3 (.Tuple elts kk tpos) tg h4)
        (fun s H C' cl fp => hifs _ (C (relS scope sc) noW _ (blk_ok O (scope := scope) s H C' cl fp)).2.1)
        (fun s H C' cl fp => (C (relS scope sc) noW _ (blk_ok O (scope := scope) s H C' cl fp)).1 elt0 elt h7) hsub
    · cases h
  · cases h
def ckBody (tb : Tb) (N : List Str) (n : Nat) (sc : Scope) (m : Nat) (as : List Stmt) (bs : List T) : Bool := ckSs (sN tb N n sc m) as bs || ckEZ tb N n sc as bs
theorem ckBody_ok (TO : TbOk G tb) (Q : GOk G prog w base run tb.dd tb.fns k) (S : SxOk G prog w base N sc k W X) (m : Nat) {as : List Stmt} {bs : List T} (h : ckBody tb N n sc m as bs = true) : PSs X as (tSs G run W bs) := by
  rcases (Bool.or_eq_true _ _).mp h with h | h
  · exact ckSs_ok (sN_ok TO Q S m) h
  · exact ckEZ_ok TO Q S as bs h
end
end Py
end SD3
section SF1
set_option autoImplicit false
set_option linter.all false
set_option maxRecDepth 100000
set_option maxHeartbeats 4000000
/-! A def keeps its promise. -/
namespace Py
open PySem L2

section
variable {G : Gx} {fc fc' : Fc} {fm fm2 : List Addr} {ex ex2 : Bar} {σ σ2 σ' : L2.St} {s s' s0 s1 s2 : S} {H H1 H2 H' : Hp} {W : WX} {run : Run} {X : Cx} {De : Ends}

/-- a frame's start -/
def fcOf (H : Hp) (fm : List Addr) (sf : Option (Nat × Addr × Addr)) : Fc := ⟨H, fun a => a ∈ fm, fm, sf, fun _ _ => False⟩
variable {sf : Option (Nat × Addr × Addr)}
def stOf (as : List Ag) (cs : List (List D)) (n : Nat) : S := ⟨as.map agSl ++ List.replicate n .non, cs⟩
theorem AgRs.get {B : Bar} : ∀ {as : List Ag} {vs : List V} {i : Nat} {g : Ag}, AgRs G H B fm as vs → as[i]? = some g → ∃ v, vs[i]? = some v ∧ AgR G H B fm g v
  | _ :: _, _, 0, _, ⟨v, _, e, h, _⟩, q => by subst e; simp at q; subst q; exact ⟨v, rfl, h⟩
  | _ :: _, _, i + 1, _, ⟨_, _, e, _, t⟩, q => by
    subst e
    obtain ⟨v, h1, h2⟩ := AgRs.get (i := i) t (by simpa using q)
    exact ⟨v, by simpa using h1, h2⟩
theorem start_get {as : List Ag} {cs : List (List D)} {n i : Nat} : (stOf as cs n).get i = (match as[i]? with
    | some g => agSl g
    | none => .non) := by
  unfold stOf S.get
  simp only [List.getD_eq_getElem?_getD]
  by_cases h : i < as.length
  · rw [List.getElem?_append_left (by simpa using h), List.getElem?_map]
    rw [List.getElem?_eq_getElem h]; rfl
  · have h' : as[i]? = none := List.getElem?_eq_none (Nat.le_of_not_lt h)
    rw [h', List.getElem?_append_right (by simpa using h)]
    cases q : (List.replicate n Sl.non)[i - (as.map agSl).length]? with
    | none => rfl
    | some x =>
      have := List.mem_of_getElem? q
      rw [List.eq_of_mem_replicate this]; rfl
theorem FR.start {as : List Ag} {cs : List (List D)} {vs : List V} {N : List Str} (hp : CPre G H fm ex cs) (ha : AgRs G H (CB fm ex) fm as vs) (hN : as.length ≤ N.length) : FR G (fcOf H fm none) fm ex (L2.start N vs) (stOf as cs (N.length - as.length)) H := by
  have hl := ha.length
  have noOwn : ∀ i, owns ((stOf as cs (N.length - as.length)).get i) = false := by
    intro i
    rw [start_get]
    cases q : as[i]? with
    | none => rfl
    | some g =>
      obtain ⟨v, _, h⟩ := ha.get q
      cases g with
      | new c => exact h.elim
      | _ => rfl
  have no : ∀ i a, ¬ OwnA (stOf as cs (N.length - as.length)) (L2.start N vs) i a := fun i a h => by have := h.1; rw [noOwn i] at this; cases this
  have hb : ∀ a, Br fm ex (stOf as cs (N.length - as.length)) (L2.start N vs) a → CB fm ex a := fun a h => by
    rcases h with h | h | ⟨i, h⟩
    · exact .inl h
    · exact .inr h
    · exact absurd h (no i a)
  exact {
    len := by simp [L2.start, stOf]; omega
    fml := hp.cells.1
    nd := hp.nd
    cells := hp.cells.2
    slots := fun i => by
      rw [start_get]
      cases q : as[i]? with
      | none => trivial
      | some g =>
        obtain ⟨v, h1, h⟩ := ha.get q
        have e : (L2.start N vs)[i]? = some (some v) := by
          unfold L2.start
          rw [List.getElem?_append_left (by rw [List.length_map]; exact (List.getElem?_eq_some_iff.mp h1).1), List.getElem?_map, h1]; rfl
        cases g with
        | d x => exact ⟨v, e, DR.mono (fun a o n z => ⟨z, fun q => n (hb a q)⟩) h⟩
        | cell k => obtain ⟨a, h2, rfl⟩ := h; exact ⟨a, h2, e⟩
        | new c => exact h.elim
    apF := fun i a h => absurd h (no i a)
    apO := fun i j a h _ => absurd h (no i a)
    exF := hp.exF
    exH := hp.exH
    base := fun a o h _ => h
    newO := fun i a h => absurd ⟨muts_owns h.1, h.2⟩ (no i a)
    newL := fun i a h _ => absurd h (no i a)
    newF := fun k a h => .inr (List.mem_of_getElem? h)
    pre := ⟨[], by simp [fcOf]⟩
    m0 := fun a h => by
      obtain ⟨k, hk⟩ := List.getElem?_of_mem h
      have hlt : k < cs.length := by rw [← hp.cells.1]; exact (List.getElem?_eq_some_iff.mp hk).1
      obtain ⟨b, vs, e1, e2, _⟩ := hp.cells.2 k _ (List.getElem?_eq_getElem hlt)
      rw [hk] at e1; cases e1
      show H a ≠ none
      rw [e2]; simp
    m1 := fun a h => by
      obtain ⟨k, hk⟩ := List.getElem?_of_mem h
      have hlt : k < cs.length := by rw [← hp.cells.1]; exact (List.getElem?_eq_some_iff.mp hk).1
      obtain ⟨b, vs, e1, e2, _⟩ := hp.cells.2 k _ (List.getElem?_eq_getElem hlt)
      rw [hk] at e1; cases e1
      rw [e2]; simp }
/-- the end of a def -/
theorem FR.cpost {cs : List (List D)} (hc : fm.length = cs.length) (F : FR G (fcOf H fm sf) fm2 ex σ' s' H') : CPost G H fm (s'.cells.take cs.length) H' where
  keep := fun a o h n => F.base a o h n
  live := fun a h => by
    by_cases m : a ∈ fm
    · exact F.m1 a m
    · obtain ⟨o, e⟩ := Option.ne_none_iff_exists'.mp h
      rw [F.base a o e m]; simp
  cells := by
    obtain ⟨t, e⟩ := F.pre
    have e : fm2 = fm ++ t := e
    have hl : s'.cells.length = fm2.length := F.fml.symm
    refine ⟨by rw [List.length_take, hl, e, List.length_append]; omega, fun k xs h => ?_⟩
    have hk : k < cs.length := by
      have := (List.getElem?_eq_some_iff.mp h).1
      rw [List.length_take] at this
      omega
    rw [List.getElem?_take_of_lt hk] at h
    obtain ⟨a, vs, h1, h2, h3, h4⟩ := F.cells k xs h
    refine ⟨a, vs, ?_, h2, h3, h4⟩
    rw [e, List.getElem?_append_left (by omega)] at h1
    exact h1
theorem FR.cbr (F : FR G (fcOf H fm sf) fm2 ex σ' s' H') : ∀ a, CB fm ex a → Br fm2 ex s' σ' a := fun a h => by
  obtain ⟨t, e⟩ := F.pre
  have e : fm2 = fm ++ t := e
  rcases h with h | h
  · exact .inl (by rw [e]; exact List.mem_append_left _ h)
  · exact .inr (.inl h)
theorem rtOf_ok {cs : List (List D)} {r : RV} {v : V} {t : Rt} (hc : fm.length = cs.length) (F : FR G (fcOf H fm sf) fm2 ex σ' s' H') (h : RR G (fcOf H fm sf) fm2 ex σ' s' H' r v) (e : rtOf cs.length s' r = some t) : RtR G H H' (CB fm ex) fm t v := by
  have sub := F.cbr
  obtain ⟨tt, ep⟩ := F.pre
  have ep : fm2 = fm ++ tt := ep
  cases r with
  | d x => cases e; exact DR.mono (fun a o n z => ⟨z, fun q => n (sub a q)⟩) h
  | own x =>
    cases e
    obtain ⟨a, rfl, h1, h2, h3, h4⟩ := h
    refine ⟨a, rfl, h1.mono (fun b o n z => ⟨z, fun q => n ?_⟩) fun _ z => z, ?_⟩
    · rcases q with q | q
      · exact (sub b q).more
      · exact .inr (.inl (.inr q))
    · rcases h4 with h4 | h4
      · exact h4
      · exact absurd (.inl (by rw [ep]; exact List.mem_append_left _ h4)) h3
  | brw i =>
    have hσ : σ'[i]? = some (some v) := h
    have q := F.slots i
    simp only [rtOf] at e
    cases es : s'.get i with
    | own d =>
      rw [es] at e q
      cases e
      obtain ⟨a, ea, z⟩ := q
      rw [hσ] at ea
      cases ea
      have oa : OwnA s' σ' i a := ⟨by rw [es]; rfl, hσ⟩
      refine ⟨a, rfl, z.mono (fun b o n z => ⟨z, fun q => n ?_⟩) fun _ z => z, ?_⟩
      · rcases q with q | q
        · exact sub b q
        · rw [q]; exact .inr (.inr ⟨i, oa⟩)
      · rcases F.newO i a ⟨by rw [es]; rfl, hσ⟩ with w | w
        · exact w
        · exact absurd (by rw [ep]; exact List.mem_append_left _ w) (F.apF i a oa).1
    | pub d =>
      rw [es] at e q
      cases e
      obtain ⟨w, ew, z⟩ := q
      rw [hσ] at ew
      cases ew
      exact DR.mono (fun a o n z => ⟨z, fun q => n (sub a q)⟩) z
    | _ => rw [es] at e; cases e
  | cell k =>
    simp only [rtOf] at e
    split at e
    · rename_i hk
      cases e
      obtain ⟨a, h1, rfl⟩ := h
      refine ⟨a, ?_, rfl⟩
      rw [ep, List.getElem?_append_left (by omega)] at h1
      exact h1
    · cases e
theorem isNew_no {B : Bar} : ∀ {as : List Ag} {vs : List V}, AgRs G H B fm as vs → isNew as = false
  | [], _, _ => rfl
  | g :: as, _, ⟨v, _, _, h, _⟩ => by
    cases g with
    | new c => exact h.elim
    | _ => rfl
/-- the body's reading, from the wish -/
theorem body_ok {fn : Fn} {as : List Ag} {cs : List (List D)} {vs : List V} {N : List Str} {Q : VK} {E : XK} (hp : CPre G H fm ex cs) (ha : AgRs G H (CB fm ex) fm as vs) (hn : as.length = fn.np) (hv : fn.nv = N.length) (hle : fn.np ≤ fn.nv)
    (h : SpR G H fm ex (bodyR whileL G.P run fn as cs) Q E) : tSs G run (fun C d _ H => E C d H) fn.body { nx := fun _ H' => Q .non H', rt := Q } (L2.start N vs) H := by
  have F := FR.start (N := N) hp ha (by omega)
  refine ⟨fcOf H fm none, fm, ex, _, F, ?_⟩
  have hnew := isNew_no ha
  unfold bodyR at h
  rw [hnew] at h
  have est : (⟨as.map agSl ++ List.replicate (fn.nv - fn.np) .non, cs⟩ : S) = stOf as cs (N.length - as.length) := by unfold stOf; rw [hv, hn]
  rw [est] at h
  have hc : fm.length = cs.length := hp.cells.1
  revert h
  cases exTs whileL G.P run fn.body (stOf as cs (N.length - as.length)) with
  | stuck => exact fun h => h
  | exc c fs s' =>
    intro h fm2 σ2 C d H2 F2 r
    exact h C d H2 (F2.cpost hc) (r.less F2.cbr)
  | ok fl s' =>
    cases fl with
    | nx =>
      intro h fm2 σ2 H2 F2
      exact h .non H2 (F2.cpost hc) rfl
    | brk => exact fun h => h.elim
    | cnt => exact fun h => h.elim
    | ret r =>
      intro h fm2 σ2 H2 v F2 rr
      simp only at h
      cases e : rtOf cs.length s' r with
      | none => rw [e] at h; exact h.elim
      | some t =>
        rw [e] at h
        exact h v H2 (F2.cpost hc) (rtOf_ok hc F2 rr e)
/-- the start of an __init__ -/
theorem FR.startI {c : Nat} {x dx C : Addr} {as : List Ag} {cs : List (List D)} {ws : List V} {N : List Str} (hC : ClsOk G c C) (hx : H1 x = none) (hdx : H1 dx = none) (hne : dx ≠ x) (hH : H = upd (upd H1 dx (.own x)) x (.ins C dx []))
    (hp : CPre G H1 fm ex cs) (ha : AgRs G H1 (CB fm ex) fm as ws) (hN : as.length + 1 ≤ N.length) : FR G (fcOf H1 fm (some (c, x, C))) fm ex (L2.start N (.ref x :: ws)) (stOf (.new c :: as) cs (N.length - (as.length + 1))) H := by
  have hl := ha.length
  have up1 : ∀ a o, H1 a = some o → H a = some o := fun a o e => by
    rw [hH]
    exact upd_keep (by rw [upd_ne (Ne.symm hne)]; exact hx) (upd_keep hdx e)
  have live1 : ∀ a, H1 a ≠ none → H a ≠ none := fun a h => by
    obtain ⟨o, e⟩ := Option.ne_none_iff_exists'.mp h
    rw [up1 a o e]; simp
  have inFm : ∀ a, a ∈ fm → H1 a ≠ none := fun a h => by
    obtain ⟨k, hk⟩ := List.getElem?_of_mem h
    have hlt : k < cs.length := by rw [← hp.cells.1]; exact (List.getElem?_eq_some_iff.mp hk).1
    obtain ⟨b, vs, e1, e2, _⟩ := hp.cells.2 k _ (List.getElem?_eq_getElem hlt)
    rw [hk] at e1; cases e1
    rw [e2]; simp
  have σ0 : (L2.start N (V.ref x :: ws))[0]? = some (some (.ref x)) := by
    unfold L2.start
    rw [List.getElem?_append_left (by simp)]
    rfl
  have get0 : (stOf (.new c :: as) cs (N.length - (as.length + 1))).get 0 = .new c [] := by rw [start_get]; rfl
  have getS : ∀ i, (stOf (.new c :: as) cs (N.length - (as.length + 1))).get (i + 1) = (match as[i]? with
    | some g => agSl g
    | none => .non) := fun i => by rw [start_get]; rfl
  have σS : ∀ i v, ws[i]? = some v → (L2.start N (V.ref x :: ws))[i + 1]? = some (some v) := fun i v h => by
    unfold L2.start
    rw [List.getElem?_append_left (by rw [List.length_map, List.length_cons]; exact Nat.succ_lt_succ (List.getElem?_eq_some_iff.mp h).1), List.getElem?_map, List.getElem?_cons_succ, h]; rfl
  have own : ∀ i a, OwnA (stOf (.new c :: as) cs (N.length - (as.length + 1))) (L2.start N (V.ref x :: ws)) i a → i = 0 ∧ a = x := by
    intro i a h
    cases i with
    | zero =>
      have := h.2
      rw [σ0] at this
      cases this
      exact ⟨rfl, rfl⟩
    | succ i =>
      have h1 := h.1
      rw [getS] at h1
      cases q : as[i]? with
      | none => rw [q] at h1; cases h1
      | some g =>
        rw [q] at h1
        obtain ⟨v, _, r⟩ := ha.get q
        cases g with
        | new c => exact r.elim
        | d _ => cases h1
        | cell _ => cases h1
  have hb : ∀ a, Br fm ex (stOf (.new c :: as) cs (N.length - (as.length + 1))) (L2.start N (V.ref x :: ws)) a → CB fm ex a ∨ a = x := fun a h => by
    rcases h with h | h | ⟨i, h⟩
    · exact .inl (.inl h)
    · exact .inl (.inr h)
    · exact .inr (own i a h).2
  have up : Kp H1 H (CB fm ex) (Br fm ex (stOf (.new c :: as) cs (N.length - (as.length + 1))) (L2.start N (V.ref x :: ws))) := fun a o n e => ⟨up1 a o e, fun z => (hb a z).elim n fun q => by rw [q, hx] at e; cases e⟩
  exact {
    len := by simp [L2.start, stOf]; omega
    fml := hp.cells.1
    nd := hp.nd
    cells := fun k xs e => let ⟨a, vs, h1, h2, h3, h4⟩ := hp.cells.2 k xs e; ⟨a, vs, h1, up1 _ _ h2, h3.flat h4, h4⟩
    slots := fun i => by
      cases i with
      | zero =>
        rw [get0]
        exact ⟨x, C, dx, [], σ0, by rw [hH]; exact upd_same, ⟨hC, rfl⟩, rfl⟩
      | succ i =>
        rw [getS]
        cases q : as[i]? with
        | none => trivial
        | some g =>
          obtain ⟨v, h1, r⟩ := ha.get q
          cases g with
          | d y => exact ⟨v, σS i v h1, DR.mono up r⟩
          | cell k => obtain ⟨a, h2, rfl⟩ := r; exact ⟨a, h2, σS i _ h1⟩
          | new c => exact r.elim
    apF := fun i a h => by
      obtain ⟨_, rfl⟩ := own i a h
      exact ⟨fun z => inFm _ z hx, fun z => hp.exH _ z hx⟩
    apO := fun i j a h1 h2 => by rw [(own i a h1).1, (own j a h2).1]
    exF := hp.exF
    exH := fun a h => live1 a (hp.exH a h)
    base := fun a o h _ => up1 a o h
    newO := fun i a h => by
      obtain ⟨_, rfl⟩ := own i a ⟨muts_owns h.1, h.2⟩
      exact .inl hx
    newL := fun i a h m => by
      obtain ⟨rfl, rfl⟩ := own i a h
      rw [get0] at m; cases m
    newF := fun k a h => .inr (List.mem_of_getElem? h)
    pre := ⟨[], by simp [fcOf]⟩
    m0 := fun a h => inFm a h
    m1 := fun a h => live1 a (inFm a h) }
/-- an __init__'s body -/
theorem body_okI {c : Nat} {x dx C : Addr} {fn : Fn} {as : List Ag} {cs : List (List D)} {ws : List V} {N : List Str} {Q : VK} {E : XK} (hC : ClsOk G c C) (hx : H1 x = none) (hdx : H1 dx = none) (hne : dx ≠ x) (hH : H = upd (upd H1 dx (.own x)) x (.ins C dx []))
    (hp : CPre G H1 fm ex cs) (ha : AgRs G H1 (CB fm ex) fm as ws) (hn : as.length + 1 = fn.np) (hv : fn.nv = N.length) (hle : fn.np ≤ fn.nv)
    (h : match bodyR whileL G.P run fn (.new c :: as) cs with
      | .ok (.d (.obj c' fs)) cs' => c' = c → ∀ H', CPost G H1 fm cs' H' → DR G H' (CB fm ex) (.obj c fs) (.ref x) → Q .non H'
      | .ok _ _ => True
      | .exc c fs cs' => ∀ C d H', CPost G H1 fm cs' H' → XR G H' (CB fm ex) c fs C d → E C d H'
      | .stuck => False) : tSs G run (fun C d _ H => E C d H) fn.body { nx := fun _ H' => Q .non H', rt := Q } (L2.start N (.ref x :: ws)) H := by
  have F := FR.startI (N := N) hC hx hdx hne hH hp ha (by omega)
  refine ⟨_, fm, ex, _, F, ?_⟩
  unfold bodyR at h
  have est : (⟨(Ag.new c :: as).map agSl ++ List.replicate (fn.nv - fn.np) .non, cs⟩ : S) = stOf (.new c :: as) cs (N.length - (as.length + 1)) := by unfold stOf; rw [hv, hn]
  rw [est] at h
  have hc : fm.length = cs.length := hp.cells.1
  revert h
  cases exTs whileL G.P run fn.body (stOf (.new c :: as) cs (N.length - (as.length + 1))) with
  | stuck => exact fun h => h
  | exc c fs s' =>
    intro h fm2 σ2 C d H2 F2 r
    exact h C d H2 (F2.cpost hc) (r.less F2.cbr)
  | ok fl s' =>
    cases fl with
    | nx =>
      simp only [isNew]
      intro h fm2 σ2 H2 F2
      cases e0 : s'.get 0 with
      | new c' fs =>
        rw [e0] at h
        have q := F2.slots 0
        rw [e0] at q
        obtain ⟨a, C', dx', gs, e1, e2, ⟨o1, o2⟩, t⟩ := q
        cases o2
        refine h rfl H2 (F2.cpost hc) ⟨x, C, dx', gs, rfl, ?_, e2, hC, t.mono fun b o n z => ⟨z, fun q => n (F2.cbr b q)⟩⟩
        have oa := F2.apF 0 x ⟨by rw [e0]; rfl, e1⟩
        obtain ⟨tt, ep⟩ := F2.pre
        have ep : fm2 = fm ++ tt := ep
        rintro (z | z)
        · exact oa.1 (by rw [ep]; exact List.mem_append_left _ z)
        · exact oa.2 z
      | _ => rw [e0] at h; exact h.elim
    | brk => exact fun h => h.elim
    | cnt => exact fun h => h.elim
    | ret r => exact fun h => h.elim
end
section
variable {G : Gx} {prog : Program} {w : World} {base : Heap} {tb : Tb}
/-- a def as the check knows it -/
structure FnC where
  x : Str
  params : Arguments
  body : List Stmt
  scope : Scope
  N : List Str
/-- what is looked at in a def -/
def ckF (tb : Tb) (P : Prog) (f : Nat) (d : FnC) : Bool := plainA d.params (tb.L.ps f) && (match P.fn f with
  | none => false
  | some fn => fn.np == (tb.L.ps f).length && fn.nv == d.N.length && decide (fn.np ≤ fn.nv) && decide d.N.Nodup && d.N.take (tb.L.ps f).length == tb.L.ps f &&
    (match d.scope.kind with
      | .function => true
      | _ => false) && !d.scope.isCoroutine && !d.scope.isGenerator && (tb.L.ps f).all (isLoc d.scope) && d.scope.names.all (fun y => (match y.2 with
        | .free => false
        | _ => true)) && ckBody tb d.N 40 d.scope 40 d.body fn.body)
theorem fn_ok {n k : Nat} (TO : TbOk G tb) {f : Nat} {d : FnC} {qual : Str} {fa : Addr} {fd : FuncData} {dvs : List V} (F : FunD G.K d.x qual d.params d.body d.scope dvs [] fa fd) (hck : ckF tb G.P f d = true)
    (Q : GOk G prog w base (runF G.P n) tb.dd tb.fns k) (hmod : True) : FnOk prog w G.K G.mg base (L2.CX prog w) (k + 2) fa fd (G.L.ps f) (SpF G (runF G.P (n + 1)) f (G.L.ps f).length) := by
  unfold ckF at hck
  rw [Bool.and_eq_true] at hck
  obtain ⟨hpl, hck⟩ := hck
  split at hck
  · cases hck
  · rename_i fn efn
    simp only [Bool.and_eq_true, beq_iff_eq, decide_eq_true_eq, Bool.not_eq_true'] at hck
    obtain ⟨⟨⟨⟨⟨⟨⟨⟨⟨⟨c1, c2⟩, c3⟩, c4⟩, c5⟩, c6⟩, c7⟩, c8⟩, c9⟩, c10⟩, c11⟩ := hck
    have kind : d.scope.kind = .function := by
      split at c6
      · assumption
      · cases c6
    have par : ∀ x ∈ G.L.ps f, d.scope.names.lookup x = some .local ∨ d.scope.names.lookup x = some .cell := by
      intro x hx
      rw [TO.L] at hx
      have := List.all_eq_true.mp c9 x hx
      unfold isLoc at this
      split at this
      · exact .inl (by assumption)
      · exact .inr (by assumption)
      · cases this
    have nofree : ∀ y ∈ d.scope.names, y.2 ≠ .free := by
      intro y hy e
      have := List.all_eq_true.mp c10 y hy
      rw [e] at this
      cases this
    have S : FnScope d.N (G.L.ps f) d.scope := ⟨kind, c7, c8, c4, by rw [TO.L]; exact c5, par, nofree⟩
    refine F.ok S (fun vs H Q E h => h.1) fun cdv A outer s H vs Qv E hr h => ?_
    obtain ⟨hl, as, cs, fm, ex, hp, ha, hR⟩ := h
    refine ⟨tSs G (runF G.P n) (fun C d _ H => E C d H) fn.body, ?_, ?_⟩
    · refine ckBody_ok TO Q (prog := prog) (w := w) (base := base) (X := cxOf (L2.CX prog w) prog w G.K G.mg base d.N qual d.scope fa cdv A outer s H E) ?_ 40 c11
      refine ⟨⟨rfl, rfl, rfl, rfl, rfl, rfl, c4, rfl, rfl, hr, ?_⟩, kind, fun _ => rfl, passes_of rfl⟩
      intro u s' x
      exact XE.leave (W := fun C d _ H => E C d H) rfl rfl rfl (fun _ _ _ _ z => z) x
    · have hal := ha.length
      have hnp : as.length = fn.np := by rw [hal, hl, c1, TO.L]
      refine body_ok hp ha hnp c2 c3 ?_
      have : runF G.P (n + 1) f as cs = bodyR whileL G.P (runF G.P n) fn as cs := by
        show (match G.P.fn f with
          | none => RO.stuck
          | some fn => if as.length = fn.np then bodyR whileL G.P (runG whileL G.P n) fn as cs else .stuck) = _
        rw [efn]
        simp only
        rw [if_pos hnp]
        rfl
      rw [this] at hR
      exact hR
/-- an __init__ keeps its promise -/
theorem ini_ok {n k c : Nat} (TO : TbOk G tb) {f : Nat} {d : FnC} {qual : Str} {fa : Addr} {fd : FuncData} {dvs : List V} (F : FunD G.K d.x qual d.params d.body d.scope dvs [] fa fd) (hck : ckF tb G.P f d = true)
    (Q : GOk G prog w base (runF G.P n) tb.dd tb.fns k) : FnOk prog w G.K G.mg base (L2.CX prog w) (k + 2) fa fd (G.L.ps f) (SpI G (runF G.P (n + 1)) c f (G.L.ps f).length) := by
  unfold ckF at hck
  rw [Bool.and_eq_true] at hck
  obtain ⟨hpl, hck⟩ := hck
  split at hck
  · cases hck
  · rename_i fn efn
    simp only [Bool.and_eq_true, beq_iff_eq, decide_eq_true_eq, Bool.not_eq_true'] at hck
    obtain ⟨⟨⟨⟨⟨⟨⟨⟨⟨⟨c1, c2⟩, c3⟩, c4⟩, c5⟩, c6⟩, c7⟩, c8⟩, c9⟩, c10⟩, c11⟩ := hck
    have kind : d.scope.kind = .function := by
      split at c6
      · assumption
      · cases c6
    have par : ∀ x ∈ G.L.ps f, d.scope.names.lookup x = some .local ∨ d.scope.names.lookup x = some .cell := by
      intro x hx
      rw [TO.L] at hx
      have := List.all_eq_true.mp c9 x hx
      unfold isLoc at this
      split at this
      · exact .inl (by assumption)
      · exact .inr (by assumption)
      · cases this
    have nofree : ∀ y ∈ d.scope.names, y.2 ≠ .free := by
      intro y hy e
      have := List.all_eq_true.mp c10 y hy
      rw [e] at this
      cases this
    have S : FnScope d.N (G.L.ps f) d.scope := ⟨kind, c7, c8, c4, by rw [TO.L]; exact c5, par, nofree⟩
    refine F.ok S (fun vs H Q E h => h.1) fun cdv A outer s H vs Qv E hr h => ?_
    obtain ⟨hl, x, ws, as, cs, fm, ex, H1, dx, C, rfl, hC, hx, hdx, hne, hH, hp, ha, hR⟩ := h
    refine ⟨tSs G (runF G.P n) (fun C d _ H => E C d H) fn.body, ?_, ?_⟩
    · refine ckBody_ok TO Q (prog := prog) (w := w) (base := base) (X := cxOf (L2.CX prog w) prog w G.K G.mg base d.N qual d.scope fa cdv A outer s H E) ?_ 40 c11
      refine ⟨⟨rfl, rfl, rfl, rfl, rfl, rfl, c4, rfl, rfl, hr, ?_⟩, kind, fun _ => rfl, passes_of rfl⟩
      intro u s' x
      exact XE.leave (W := fun C d _ H => E C d H) rfl rfl rfl (fun _ _ _ _ z => z) x
    · have hal := ha.length
      have hnp : as.length + 1 = fn.np := by rw [hal, c1, ← TO.L]; simpa using hl
      have e : runF G.P (n + 1) f (.new c :: as) cs = bodyR whileL G.P (runF G.P n) fn (.new c :: as) cs := by
        show (match G.P.fn f with
          | none => RO.stuck
          | some fn => if (Ag.new c :: as).length = fn.np then bodyR whileL G.P (runG whileL G.P n) fn (.new c :: as) cs else .stuck) = _
        rw [efn]
        simp only
        rw [if_pos (by rw [List.length_cons]; exact hnp)]
        rfl
      rw [e] at hR
      exact body_okI hC hx hdx hne hH hp ha hnp c2 c3 hR
end
end Py
end SF1
section SF2
set_option autoImplicit false
set_option linter.all false
set_option maxRecDepth 100000
set_option maxHeartbeats 4000000
/-! The law's end: the module's facts, all depths. -/
namespace Py
open PySem L2

/-! ### constants of the top -/
def cB (K : PySem.W.Frag) : Nat → D → Value → Bool
  | _, .non, .none => true
  | _, .bl b, .bool c => b == c
  | _, .int i, .int j _ => i == j
  | _, .str s, .str t _ => t.cps.toList == s && okS s
  | n + 1, .tup xs, .ref a => (match K.lookup a with
    | some ⟨.type c, _, .seq its _, _⟩ => decide (c = "tuple") && decide (its.size ≤ sizeLine) && xs.length == its.toList.length && (xs.zip its.toList).all (fun p => cB K n p.1 p.2)
    | _ => false)
  | n + 1, .lst xs, .ref a => (match K.lookup a with
    | some ⟨.type c, none, .seq its _, _⟩ => decide (c = "list") && decide (its.size ≤ sizeLine) && xs.length == its.toList.length && (xs.zip its.toList).all (fun p => cB K n p.1 p.2)
    | _ => false)
  | _, _, _ => false
theorem cBs {G : Gx} {n : Nat} (ih : ∀ d u, cB G.K n d u = true → ∃ v, RelV v u ∧ ∀ H B, DR G H B d v) : ∀ {xs : List D} {us : List Value}, xs.length = us.length → ((xs.zip us).all fun p => cB G.K n p.1 p.2) = true → ∃ vs, Vals vs us ∧ ∀ H B, DRs G H B xs vs
  | [], [], _, _ => ⟨[], .nil, fun _ _ => rfl⟩
  | x :: xs, u :: us, hl, h => by
    rw [List.zip_cons_cons, List.all_cons, Bool.and_eq_true] at h
    obtain ⟨v, r, k⟩ := ih x u h.1
    obtain ⟨vs, rs, ks⟩ := cBs ih (by simpa using hl) h.2
    exact ⟨v :: vs, .cons r rs, fun H B => ⟨v, vs, rfl, k H B, ks H B⟩⟩
  | [], _ :: _, hl, _ => by cases hl
  | _ :: _, [], hl, _ => by cases hl
theorem cB_ok {G : Gx} : ∀ (n : Nat) (d : D) (u : Value), cB G.K n d u = true → ∃ v, RelV v u ∧ ∀ H B, DR G H B d v
  | n, .non, u, h => by cases u <;> first | (cases n <;> cases h; done) | skip
                        exact ⟨.non, rfl, fun _ _ => rfl⟩
  | n, .bl b, u, h => by
    cases u <;> first | (cases n <;> cases h; done) | skip
    rename_i c
    have e : b = c := by cases n <;> simpa [cB] using h
    subst e
    exact ⟨.bl b, rfl, fun _ _ => rfl⟩
  | n, .int i, u, h => by
    cases u <;> first | (cases n <;> cases h; done) | skip
    rename_i j t
    have e : i = j := by cases n <;> simpa [cB] using h
    subst e
    exact ⟨.int i, ⟨t, rfl⟩, fun _ _ => rfl⟩
  | n, .str s, u, h => by
    cases u <;> first | (cases n <;> cases h; done) | skip
    rename_i z t
    have e : z.cps.toList = s ∧ okS s = true := by cases n <;> simpa [cB] using h
    exact ⟨.str (ST s), ⟨t, by rw [ofStr z e.1]⟩, fun _ _ => ⟨rfl, e.2⟩⟩
  | 0, .tup xs, u, h => by cases u <;> cases h
  | n + 1, .tup xs, u, h => by
    cases u <;> first | (cases h; done) | skip
    rename_i a
    simp only [cB] at h
    split at h
    · rename_i c od its m sl e
      simp only [Bool.and_eq_true, decide_eq_true_eq, beq_iff_eq] at h
      obtain ⟨⟨⟨h1, h2⟩, h3⟩, h4⟩ := h
      obtain ⟨vs, r, k⟩ := cBs (cB_ok n) h3 h4
      exact ⟨.ref a, rfl, fun H B => ⟨a, vs, rfl, .inr ⟨_, its, m, e, congrArg Value.type h1, rfl, h2, r⟩, k H B⟩⟩
    · cases h
  | 0, .lst xs, u, h => by cases u <;> cases h
  | n + 1, .lst xs, u, h => by
    cases u <;> first | (cases h; done) | skip
    rename_i a
    simp only [cB] at h
    split at h
    · rename_i c its m sl e
      simp only [Bool.and_eq_true, decide_eq_true_eq, beq_iff_eq] at h
      obtain ⟨⟨⟨h1, h2⟩, h3⟩, h4⟩ := h
      obtain ⟨vs, r, k⟩ := cBs (cB_ok n) h3 h4
      exact ⟨.ref a, rfl, fun H B => ⟨a, vs, rfl, .inr ⟨_, its, m, e, congrArg Value.type h1, rfl, rfl, h2, r⟩, k H B⟩⟩
    · cases h
  | n, .dic kvs, u, h => by cases n <;> cases u <;> cases h
  | n, .obj c fs, u, h => by cases n <;> cases u <;> cases h
/-! ### the Hook, with the constants -/
def cnB (cs : List (Str × D)) (K : PySem.W.Frag) : Bool := cs.all fun p => match PySem.W.nsIn K mainGlobals p.1 with
  | some (some u) => cB K 12 p.2 u
  | _ => false
def obsE (fa : List He.Fa) (fn : List He.DefD) (bf : PySem.W.Frag → Bool) (K : PySem.W.Frag) : Bool × He.AlD := (bf K, He.obsD fa fn K)
def obsEG (n : Nat) (fa : List He.Fa) (fn : List He.DefD) (bf : PySem.W.Frag → Bool) (g : Addr → Option Obj) : Bool × He.AlD := obsE fa fn bf (He.frG g (He.asD g n))
def hookE (n : Nat) (fa : List He.Fa) (fn : List He.DefD) (bf : PySem.W.Frag → Bool) : PySem.W.Hook where
  α := Bool × He.AlD
  obs := fun s => obsEG n fa fn bf s.heap.get?
  val := fun _ => (true, He.valD fn)
  says := fun _ h => ∃ K : PySem.W.Frag, K.In h ∧ He.SaysD fa fn K ∧ bf K = true
  of := fun _ _ e => ⟨_, He.frG_in, congrArg (fun z : Bool × He.AlD => z.2) e, congrArg (fun z : Bool × He.AlD => z.1) e⟩
  keeps := fun _ _ _ ⟨K, hK, c⟩ k => ⟨K, PySem.W.Frag.In.keeps hK k, c⟩
theorem obsEG_eq {n : Nat} {fa : List He.Fa} {fn : List He.DefD} {bf : PySem.W.Frag → Bool} {g : Addr → Option Obj} {s : Shared} (h : ∀ a, g a = s.heap.get? a) : obsEG n fa fn bf g = (hookE n fa fn bf).obs s := by
  have e : g = s.heap.get? := funext h
  rw [e] <;> rfl
/-! ### classes whose instances are data -/
def toTs : List String := ["bool", "int", "str", "list", "tuple", "dict"]
def ofTs : List String := ["NoneType", "bool", "int", "str", "list", "tuple", "dict"]
def clB (K : PySem.W.Frag) (C : Addr) (others : List Addr) : Bool :=
  He.eqO (PySem.W.findIn K (.ref C) "__class__") (some (some (.builtin "object.__class__"))) && He.eqO (PySem.W.specialIn K (.builtin "object.__class__") "__get__") (some (some (.builtin "getset_descriptor.__get__"))) &&
  decide (PySem.W.takesIn K (.builtin "object.__class__") = some true) && decide (PySem.W.mroIn K C (.type "object") = some true) &&
  toTs.all (fun T => decide (PySem.W.kitOne K (.ref C) (.type T) = some false)) && ofTs.all (fun T => decide (PySem.W.kitOne K (.type T) (.ref C) = some false)) && others.all (fun C' => decide (PySem.W.kitOne K (.ref C) (.ref C') = some false))
/-! ### the table -/
def dvOk : D → He.Dv → Bool
  | .non, .non => true
  | .bl b, .bl c => b == c
  | .int i, .int j => i == j
  | .str s, .str t => t.cps.toList == s && okS s
  | _, _ => false
def dvsOk : List D → List He.Dv → Bool
  | [], [] => true
  | d :: ds, v :: vs => dvOk d v && dvsOk ds vs
  | _, _ => false
theorem dvsOk_ok {K : PySem.W.Frag} : ∀ {ds : List D} {vs : List He.Dv}, dvsOk ds vs = true → ds.map conV = (vs.map (He.Dv.v K)).map some
  | [], [], _ => rfl
  | d :: ds, v :: vs, h => by
    simp only [dvsOk, Bool.and_eq_true] at h
    have h1 : conV d = some (He.Dv.v K v) := by
      have h := h.1
      cases d <;> cases v <;> first | (cases h; done) | skip
      · rfl
      · simp only [dvOk, beq_iff_eq] at h; subst h; rfl
      · simp only [dvOk, beq_iff_eq] at h; subst h; rfl
      · simp only [dvOk, Bool.and_eq_true, beq_iff_eq] at h
        simp only [conV, h.2, if_true]
        rw [← ofStr _ h.1]; rfl
    show conV d :: ds.map conV = some (He.Dv.v K v) :: (vs.map (He.Dv.v K)).map some
    rw [h1, dvsOk_ok (K := K) h.2]
  | [], _ :: _, h => by cases h
  | _ :: _, [], h => by cases h
/-- a law's text -/
structure LawT where
  P : Prog
  tb : Tb
  fl : List Nat
  defs : List He.DefD
  Ns : List (List Str)
  cons : List (Nat × D)
  cls : List (Nat × Nat)
  flds : List Nat
  mts : List (Nat × Nat × Nat) := []
def LawT.cs (l : LawT) : List (Str × D) := l.cons.map fun p => (l.tb.L.glo p.1, p.2)
def LawT.fa (l : LawT) : List He.Fa := l.fl.map (fun f => .glo (l.tb.L.fnm f)) ++ (l.cls.flatMap (fun p => [He.Fa.glo (l.tb.L.cls p.1), .cls (l.tb.L.cls p.1), .mkr (l.tb.L.cls p.1)] ++ l.flds.map fun f => .noat (l.tb.L.cls p.1) (l.tb.L.fld f)) ++
  (l.mts.map (fun p => He.Fa.meth (l.tb.L.cls p.1) (l.tb.L.mth p.2.1)) ++ blNames.map .free))
def LawT.bf (l : LawT) (K : PySem.W.Frag) : Bool := cnB l.cs K && l.cls.all fun p => clB K (He.ga K (l.tb.L.cls p.1)) ((l.cls.filter fun q => q.1 != p.1).map fun q => He.ga K (l.tb.L.cls q.1))
/-- one def is as the text says -/
def LawT.okA (l : LawT) (at_ : Str × Option Str) (f : Nat) : Bool := match l.defs[f]?, l.Ns[f]? with
  | some d, some N => d.at_ == at_ && d.kwd.isEmpty && dvsOk (l.tb.dd f) d.dfl && ckF l.tb l.P f ⟨d.name, d.params, d.body, d.scope, N⟩
  | _, _ => false
def LawT.okF (l : LawT) (f : Nat) : Bool := l.okA (l.tb.L.fnm f, none) f
def LawT.okI (l : LawT) (p : Nat × Nat) : Bool := l.okA (l.tb.L.cls p.1, some "__init__") p.2
def LawT.okM (l : LawT) (p : Nat × Nat × Nat) : Bool := l.okA (l.tb.L.cls p.1, some (l.tb.L.mth p.2.1)) p.2.2
theorem fld_inj {L : List Str} {n : Nat} (h : (decide L.Nodup && !L.contains "" && decide (L.length = n)) = true) : ∀ f, f < n → ∀ g, (L.getD g "" == L.getD f "") = (g == f) := by
  simp only [Bool.and_eq_true, decide_eq_true_eq, Bool.not_eq_true'] at h
  obtain ⟨⟨nd, ne⟩, hl⟩ := h
  intro f hf g
  have hf' : f < L.length := by omega
  rw [Bool.eq_iff_iff]
  simp only [beq_iff_eq]
  constructor
  · intro e
    by_cases hg : g < L.length
    · simp only [List.getD_eq_getElem?_getD, List.getElem?_eq_getElem hf', List.getElem?_eq_getElem hg, Option.getD_some] at e
      exact (List.getElem_inj nd).mp e
    · simp only [List.getD_eq_getElem?_getD, List.getElem?_eq_getElem hf', List.getElem?_eq_none (Nat.le_of_not_lt hg), Option.getD_some, Option.getD_none] at e
      have : L.contains "" = true := by rw [e]; simp
      rw [ne] at this; cases this
  · rintro rfl; rfl
theorem fld_ne {L : List Str} {x : Str} (h : (!L.contains x && x != "") = true) : ∀ f, L.getD f "" ≠ x := by
  simp only [Bool.and_eq_true, Bool.not_eq_true', bne_iff_ne, ne_eq] at h
  intro f e
  by_cases hf : f < L.length
  · simp only [List.getD_eq_getElem?_getD, List.getElem?_eq_getElem hf, Option.getD_some] at e
    have : L.contains x = true := by rw [← e]; simp
    rw [h.1] at this; cases this
  · simp only [List.getD_eq_getElem?_getD, List.getElem?_eq_none (Nat.le_of_not_lt hf), Option.getD_none] at e
    exact h.2 e.symm
structure LawT.Ok (l : LawT) : Prop where
  fns : ∀ f, l.tb.fns f = true → f ∈ l.fl
  okF : ∀ f ∈ l.fl, l.okF f = true
  ini : ∀ c f, l.P.init c = some f → (c, f) ∈ l.cls
  okI : ∀ p ∈ l.cls, l.okI p = true
  init2 : ∀ c, l.tb.init c = l.P.init c
  fld : ∀ f, l.tb.fld f = true → f ∈ l.flds ∧ ∀ g, (l.tb.L.fld g == l.tb.L.fld f) = (g == f)
  con : ∀ g, l.tb.con g = true → (l.P.con g).isSome = true
  con2 : ∀ g d, l.P.con g = some d → (g, d) ∈ l.cons
  mts : ∀ c m f, l.P.meth c m = some f → (c, m, f) ∈ l.mts
  okM : ∀ p ∈ l.mts, l.okM p = true
  mtn : ∀ m np, l.tb.mt m = some np → (∀ c f, l.P.meth c m = some f → (l.tb.L.ps f).length = np ∧ l.tb.dd f = [] ∧ (l.tb.L.ps f).Nodup) ∧ ∀ f, l.tb.L.fld f ≠ l.tb.L.mth m
section
variable {l : LawT} {K : PySem.W.Frag} {mg : Str → Option Value} {h base : Heap} {prog : Program} {w : World}
abbrev LawT.G (l : LawT) (K : PySem.W.Frag) (mg : Str → Option Value) : Gx := ⟨l.P, l.tb.L, K, mg, fun _ _ _ => False⟩
theorem law_tab (O : l.Ok) (X : K.In h) (Gn : h.Ns mainGlobals mg) (c : He.SaysD l.fa l.defs K) (cb : l.bf K = true) : ∀ n, GOk (l.G K mg) prog w base (runF l.P n) l.tb.dd l.tb.fns (2 * n) := by
  obtain ⟨cc, cb⟩ := (Bool.and_eq_true _ _).mp cb
  have fact : ∀ {f : He.Fa}, f ∈ l.fa → f.ok K = true := fun {f} hf => by
    obtain ⟨i, hi, e⟩ := List.mem_iff_getElem.mp hf
    exact c.fact i (f := f) (by rw [List.getElem?_eq_getElem hi, e])
  have bl : ∀ x ∈ blNames, mg x = none := fun x hx => He.free_ok X Gn (fact (List.mem_append_right _ (List.mem_append_right _ (List.mem_append_right _ (List.mem_map.mpr ⟨x, hx, rfl⟩)))))
  have con : ∀ g d, l.P.con g = some d → ∃ v u, mg (l.tb.L.glo g) = some u ∧ RelV v u ∧ ∀ H B, DR (l.G K mg) H B d v := by
    intro g d e
    have hm : (l.tb.L.glo g, d) ∈ l.cs := List.mem_map.mpr ⟨(g, d), O.con2 g d e, rfl⟩
    have := List.all_eq_true.mp cc _ hm
    simp only at this
    split at this
    · rename_i u eu
      obtain ⟨v, r, k⟩ := cB_ok (G := l.G K mg) 12 d u this
      exact ⟨v, u, PySem.W.mg_of X Gn eu, r, k⟩
    · cases this
  have cfact : ∀ {p : Nat × Nat} {f : He.Fa}, p ∈ l.cls → f ∈ [He.Fa.glo (l.tb.L.cls p.1), .cls (l.tb.L.cls p.1), .mkr (l.tb.L.cls p.1)] ++ l.flds.map (fun f => He.Fa.noat (l.tb.L.cls p.1) (l.tb.L.fld f)) → f.ok K = true := fun {p f} hp hf =>
    fact (List.mem_append_right _ (List.mem_append_left _ (List.mem_flatMap.mpr ⟨p, hp, hf⟩)))
  have cglo : ∀ p ∈ l.cls, mg (l.tb.L.cls p.1) = some (.ref (He.ga K (l.tb.L.cls p.1))) := fun p hp => He.glo_ok X Gn (cfact hp (by simp))
  have cls : ∀ q f, l.P.init q = some f → ClsOk (l.G K mg) q (He.ga K (l.tb.L.cls q)) := fun q f hq => by
    have hp := O.ini q f hq
    have b := List.all_eq_true.mp cb (q, f) hp
    simp only [clB, Bool.and_eq_true, decide_eq_true_eq, List.all_eq_true] at b
    obtain ⟨⟨⟨⟨⟨⟨b1, b2⟩, b3⟩, b4⟩, b5⟩, b6⟩, b7⟩ := b
    exact {
      nm := cglo (q, f) hp
      cls := He.cls_ok (cfact hp (by simp))
      ha := He.eqO_ok b1
      hn := He.eqO_ok b2
      htk := b3
      hm := b4
      toB := fun T hT => b5 T hT
      ofB := fun T hT => b6 T hT
      oth := fun c' C' hne hi hm => by
        obtain ⟨f', hf'⟩ := Option.ne_none_iff_exists'.mp hi
        have hin := O.ini c' f' hf'
        have e := cglo (c', f') hin
        have hm : mg (l.tb.L.cls c') = some (.ref C') := hm
        rw [hm] at e
        cases e
        exact b7 _ (List.mem_map.mpr ⟨(c', f'), List.mem_filter.mpr ⟨hin, by simpa using hne⟩, rfl⟩)
      init := by
        show l.P.init q ≠ none
        rw [hq]; exact fun z => nomatch z }
  have clsC : ∀ q f C, l.P.init q = some f → ClsOk (l.G K mg) q C → C = He.ga K (l.tb.L.cls q) := fun q f C hq hC => by
    have a : mg (l.tb.L.cls q) = some (.ref C) := hC.nm
    have b := (cls q f hq).nm
    have b : mg (l.tb.L.cls q) = some (.ref (He.ga K (l.tb.L.cls q))) := b
    rw [a] at b
    cases b; rfl
  have one : ∀ at_ f, l.okA at_ f = true → ∃ (d : He.DefD) (N : List Str) (fd : FuncData), l.defs[f]? = some d ∧ d.at_ = at_ ∧ FunD K d.name d.qual d.params d.body d.scope (d.dvs K) [] (He.fAd K d.at_) fd ∧ ckF l.tb l.P f ⟨d.name, d.params, d.body, d.scope, N⟩ = true ∧ (l.tb.dd f).map conV = (d.dvs K).map some := by
    intro at_ f ho
    unfold LawT.okA at ho
    split at ho
    · rename_i d N ed eN
      simp only [Bool.and_eq_true, beq_iff_eq, List.isEmpty_iff] at ho
      obtain ⟨⟨⟨h1, h2⟩, h3⟩, h4⟩ := ho
      obtain ⟨fd, F⟩ := c.def_ f (d := d) ed
      refine ⟨d, N, fd, ed, h1, ?_, h4, dvsOk_ok h3⟩
      have e : d.kws K = [] := by unfold He.DefD.kws; rw [h2]; rfl
      rw [e] at F; exact F
    · cases ho
  have TO : TbOk (l.G K mg) l.tb := ⟨rfl, O.con, O.init2, fun f hf => ⟨(O.fld f hf).2, fun q C hC => by
    obtain ⟨g, hg⟩ := Option.ne_none_iff_exists'.mp hC.init
    have hg : l.P.init q = some g := hg
    rw [clsC q g C hg hC]
    exact He.noat_ok (cfact (O.ini q g hg) (List.mem_append_right _ (List.mem_map.mpr ⟨f, (O.fld f hf).1, rfl⟩)))⟩, O.mtn⟩
  -- what does not hang on the depth
  have fnF : ∀ f, l.tb.fns f = true → ∃ (d : He.DefD) (N : List Str) (fd : FuncData), mg (l.tb.L.fnm f) = some (.ref (He.fAd K d.at_)) ∧ FunD K d.name d.qual d.params d.body d.scope (d.dvs K) [] (He.fAd K d.at_) fd ∧ ckF l.tb l.P f ⟨d.name, d.params, d.body, d.scope, N⟩ = true ∧ (l.tb.dd f).map conV = (d.dvs K).map some := by
    intro f hf
    obtain ⟨d, N, fd, ed, ea, F, hck, hd⟩ := one _ f (O.okF f (O.fns f hf))
    refine ⟨d, N, fd, ?_, F, hck, hd⟩
    have := He.glo_ok X Gn (fact (f := .glo (l.tb.L.fnm f)) (List.mem_append_left _ (List.mem_map.mpr ⟨f, O.fns f hf, rfl⟩)))
    rw [this, ea]; rfl
  have fnI : ∀ q f, l.P.init q = some f → ∃ (d : He.DefD) (N : List Str) (fd : FuncData), Mk K (He.ga K (l.tb.L.cls q)) (He.fAd K d.at_) ∧ FunD K d.name d.qual d.params d.body d.scope (d.dvs K) [] (He.fAd K d.at_) fd ∧ ckF l.tb l.P f ⟨d.name, d.params, d.body, d.scope, N⟩ = true ∧ (l.tb.dd f).map conV = (d.dvs K).map some := by
    intro q f hq
    have hp := O.ini q f hq
    obtain ⟨d, N, fd, ed, ea, F, hck, hd⟩ := one _ f (O.okI (q, f) hp)
    refine ⟨d, N, fd, ?_, F, hck, hd⟩
    have := He.mkr_ok (cfact hp (f := .mkr (l.tb.L.cls q)) (by simp))
    rw [ea]; exact this
  have fnM : ∀ q m f C, l.P.meth q m = some f → ClsOk (l.G K mg) q C → ∃ (d : He.DefD) (N : List Str) (fd : FuncData), Meth K C (l.tb.L.mth m) (He.fAd K d.at_) ∧ FunD K d.name d.qual d.params d.body d.scope (d.dvs K) [] (He.fAd K d.at_) fd ∧ ckF l.tb l.P f ⟨d.name, d.params, d.body, d.scope, N⟩ = true ∧ (l.tb.dd f).map conV = (d.dvs K).map some := by
    intro q m f C hm hC
    obtain ⟨g, hg⟩ := Option.ne_none_iff_exists'.mp hC.init
    have hg : l.P.init q = some g := hg
    have hp := O.mts q m f hm
    obtain ⟨d, N, fd, ed, ea, F, hck, hd⟩ := one _ f (O.okM (q, m, f) hp)
    refine ⟨d, N, fd, ?_, F, hck, hd⟩
    have := He.meth_ok (fact (f := .meth (l.tb.L.cls q) (l.tb.L.mth m)) (List.mem_append_right _ (List.mem_append_right _ (List.mem_append_left _ (List.mem_map.mpr ⟨(q, m, f), hp, rfl⟩)))))
    rw [ea, clsC q g C hg hC]; exact this
  have pl : ∀ {f : Nat} {d : He.DefD} {N : List Str}, ckF l.tb l.P f ⟨d.name, d.params, d.body, d.scope, N⟩ = true → plainA d.params (l.tb.L.ps f) = true := fun {f d N} hck => by
    simp only [ckF, Bool.and_eq_true] at hck
    exact hck.1
  intro n
  induction n with
  | zero =>
    have noF : ∀ {f : Nat} {fa : Addr} {fd : FuncData}, FnOk prog w K mg base (L2.CX prog w) (2 * 0) fa fd (l.tb.L.ps f) (SpF (l.G K mg) (runF l.P 0) f (l.tb.L.ps f).length) := fun {f fa fd} => ⟨fun vs H Q E h => h.1, fun A outer s H args us vs Q E _ _ _ _ h => by
      obtain ⟨_, as, cs, fm, ex, _, _, hR⟩ := h
      exact hR.elim⟩
    refine ⟨fun f hf => ?_, bl, con, fun q f hq => ?_, fun q m f hm C hC => ?_⟩
    · obtain ⟨d, N, fd, hm, F, hck, hd⟩ := fnF f hf
      exact ⟨_, fd, hm, F.kp, noF, _, _, _, _, _, _, F, pl hck, hd⟩
    · obtain ⟨d, N, fd, hm, F, hck, hd⟩ := fnI q f hq
      refine ⟨_, _, fd, cls q f hq, hm, ⟨fun vs H Q E h => h.1, fun A outer s H args us vs Q E _ _ _ _ h => ?_⟩, _, _, _, _, _, _, F, pl hck, hd⟩
      obtain ⟨_, x, ws, as, cs, fm, ex, H1, dx, C, _, _, _, _, _, _, _, _, hR⟩ := h
      exact hR.elim
    · obtain ⟨d, N, fd, hM, F, hck, hd⟩ := fnM q m f C hm hC
      exact ⟨_, fd, hM, noF, _, _, _, _, _, _, F, pl hck, hd⟩
  | succ n ih =>
    refine ⟨fun f hf => ?_, bl, con, fun q f hq => ?_, fun q m f hm C hC => ?_⟩
    · obtain ⟨d, N, fd, hm, F, hck, hd⟩ := fnF f hf
      exact ⟨_, fd, hm, F.kp, fn_ok (G := l.G K mg) (d := ⟨d.name, d.params, d.body, d.scope, N⟩) TO F hck ih trivial, _, _, _, _, _, _, F, pl hck, hd⟩
    · obtain ⟨d, N, fd, hm, F, hck, hd⟩ := fnI q f hq
      exact ⟨_, _, fd, cls q f hq, hm, ini_ok (G := l.G K mg) (d := ⟨d.name, d.params, d.body, d.scope, N⟩) TO F hck ih, _, _, _, _, _, _, F, pl hck, hd⟩
    · obtain ⟨d, N, fd, hM, F, hck, hd⟩ := fnM q m f C hm hC
      exact ⟨_, fd, hM, fn_ok (G := l.G K mg) (d := ⟨d.name, d.params, d.body, d.scope, N⟩) TO F hck ih trivial, _, _, _, _, _, _, F, pl hck, hd⟩
/-- the law's def, from its value -/
theorem law_fn (O : l.Ok) (X : K.In h) (Gn : h.Ns mainGlobals mg) (c : He.SaysD l.fa l.defs K) (cc : l.bf K = true) {n f : Nat} {x : Str} (hf : l.tb.fns f = true) (hps : l.tb.L.ps f = [x]) (hdd : l.tb.dd f = []) {fa : Addr} (hfa : mg (l.tb.L.fnm f) = some (.ref fa))
    (hrun : ∀ ns : List Int, ns.length ≤ 63 → ∃ cs, runF l.P n f [.d (.lst (ns.map .int))] [] = .ok (.d (.bl true)) cs) :
    ∃ (fd : FuncData) (sp : Sp), (∀ (s : Shared) (u : Value), BindsTo s fd ⟨[u], []⟩ [(x, u)]) ∧ (∀ (H : Hp) (a : Addr) (ns : List Int), ns.length ≤ 63 → SqL K H a (ns.map V.int) → sp [.ref a] H (fun v _ => v = .bl true) fun _ _ _ => False) ∧
      ∀ base : Heap, FnOk prog w K mg base (L2.CX prog w) (2 * n) fa fd [x] sp := by
  have T := fun base => law_tab (prog := prog) (w := w) (base := base) O X Gn c cc n
  obtain ⟨fa', fd, hm, kp, F, y, qual, params, body, scope, dvs, FD, hpl, hd⟩ := (T h).fn f hf
  have hm : mg (l.tb.L.fnm f) = some (.ref fa') := hm
  rw [hfa] at hm
  cases hm
  have hpl : plainA params (l.tb.L.ps f) = true := hpl
  rw [hps] at hpl
  refine ⟨fd, SpF (l.G K mg) (runF l.P n) f 1, fun s u => ?_, fun H a ns hl hS => ?_, fun base => ?_⟩
  · have hd : (l.tb.dd f).map conV = dvs.map some := hd
    rw [hdd] at hd
    have hdv : dvs = [] := by
      cases dvs with
      | nil => rfl
      | cons v vs => cases hd
    subst hdv
    obtain ⟨oc, od, dV, kV, doc, pm, an, cdv, ct, osl, rfl, lk, hcd, hD, hK⟩ := FD.ex
    obtain ⟨p1, p2, p3, p4, p5⟩ := plainA_of hpl
    have PP : PlainP (PySem.W.fnOf y qual params body scope dV kV doc pm an cdv ct) [x] := ⟨p1, p2, p3, p4, p5⟩
    rcases hD with ⟨_, rfl⟩ | ⟨e, _⟩
    · obtain ⟨k, e1, e2⟩ := bind_plain PP (us := [u]) (kw := []) (Nat.le_refl _) rfl 0 (Nat.zero_le _) (by simp [List.lookup_cons])
      refine .of_eq ?_
      rw [e1]
      show seqItems? .none >>= k = _
      rw [show (seqItems? .none : Sem _) = pure none from rfl, pure_bind, e2 none rfl]
      simp [bound, fillD, List.lookup_cons]
    · exact absurd rfl e
  · obtain ⟨cs, e⟩ := hrun ns hl
    refine ⟨rfl, [.d (.lst (ns.map .int))], [], [], fun _ => False, ⟨⟨rfl, fun k xs h => by cases h⟩, List.nodup_nil, fun _ h => h.elim, fun _ h => h.elim⟩, ⟨_, [], rfl, ⟨a, ns.map V.int, rfl, ?_, DRs.ofI ns⟩, rfl⟩, ?_⟩
    · rcases hS with h | h
      · exact .inl ⟨fun z => z.elim (fun z => by cases z) fun z => z, h⟩
      · exact .inr h
    · rw [e]
      intro v H' _ r
      exact r
  · obtain ⟨fa2, fd2, hm2, _, F2, y2, q2, pa2, b2, s2, dv2, FD2, _⟩ := (T base).fn f hf
    have hm2 : mg (l.tb.L.fnm f) = some (.ref fa2) := hm2
    rw [hfa] at hm2
    cases hm2
    have e : fd2 = fd := by
      obtain ⟨oc, od, dV, kV, doc, pm, an, cdv, ct, osl, e1, lk, _⟩ := FD.ex
      obtain ⟨oc', od', dV', kV', doc', pm', an', cdv', ct', osl', e1', lk', _⟩ := FD2.ex
      rw [lk] at lk'
      cases lk'
      rfl
    subst e
    have F2 : FnOk prog w K mg base (L2.CX prog w) (2 * n) fa fd2 (l.tb.L.ps f) (SpF (l.G K mg) (runF l.P n) f (l.tb.L.ps f).length) := F2
    rw [hps] at F2
    exact F2
end
end Py
end SF2
section SF3
set_option autoImplicit false
set_option linter.all false
set_option maxRecDepth 100000
set_option maxHeartbeats 4000000
/-! The law's end, exceptions told by the world. -/
namespace Py
open PySem L2 PySem.Spec PyProof.Rows
theorem end_walk {l : PySem.W.OpenLaw} {n k : Nat} {q : Program} {loose : List Str} {XP : (Str → Option Value) → Heap → Prop} {YP : World → Heap → Prop} {d : DefRec} {CX : World → CXT} {x : Str}
    (most : l.most = some n) (small : n ≤ sizeLine) (nodef : d.params.defaults = []) (room : Room k callerA)
    (F : ∀ (w : World) (mg : Str → Option Value) (fa : Addr) (h : Heap), YP w h → h.Ns mainGlobals mg → mg d.name = some (.ref fa) →
      ∃ (K : PySem.W.Frag) (fd : FuncData) (sp : Sp), K.In h ∧ (∀ (s : Shared) (u : Value), BindsTo s fd ⟨[u], []⟩ [(x, u)]) ∧
        (∀ (H : Hp) (a : Addr) (ns : List Int), ns.length ≤ n → SqL K H a (ns.map V.int) → sp [.ref a] H (fun v _ => v = .bl true) fun _ _ _ => False) ∧
        ∀ base : Heap, FnOk l.prog w K mg base (CX w) k fa fd [x] sp)
    (calmCX : ∀ (w : World) (H : Hp) (s : Shared) (e : Value) (s' : Shared), CX w [] H s (fun _ _ _ => False) e s' → False) :
    PySem.W.WalkO q loose XP YP l.row.toRowW d [] (fun f vs => PySem.call f vs) := by
  refine Att.attach_call most nodef fun w t0 t1 mg mb fa ob p1 p2 p3 a vs ns GG YY e1 e2 e3 named ho hi len hg => ?_
  obtain ⟨K, fd, sp, KX, hb, hsp, hF⟩ := F w mg fa _ YY GG.T.g named
  exact law_call KX GG.T.g GG.T.b GG.T.builtins GG.T.nolimit hg ho hi (Nat.le_trans len small) room (fun base _ _ => hF base) hb (fun H _ hS => hsp H a ns len hS) fun H e s' => calmCX w H t1 e s'
theorem cx_calm {P : Program} (w : World) (H : Hp) (s : Shared) (e : Value) (s' : Shared) (h : L2.CX P w [] H s (fun _ _ _ => False) e s') : False := by
  obtain ⟨a, B, H', c, d, _, _, _, _, _, _, _, z⟩ := h
  exact z
/-- all of it: from the checks of the text and the run of the law -/
theorem law_end {l : LawT} {r : PySem.W.OpenLaw} {q : Program} {loose : List Str} {XP : (Str → Option Value) → Heap → Prop} {d : DefRec} (O : l.Ok) {n f m : Nat} {x : Str} (most : r.most = some 63) (nodef : d.params.defaults = []) (name : d.name = l.tb.L.fnm f) (hn : n ≤ 30)
    (hf : l.tb.fns f = true) (hps : l.tb.L.ps f = [x]) (hdd : l.tb.dd f = []) (hrun : ∀ ns : List Int, ns.length ≤ 63 → ∃ cs, runF l.P n f [.d (.lst (ns.map .int))] [] = .ok (.d (.bl true)) cs) :
    PySem.W.WalkO q loose XP (hookE m l.fa l.defs l.bf).says r.row.toRowW d [] (fun f vs => PySem.call f vs) := by
  refine end_walk (k := 2 * n) (CX := fun w => L2.CX r.prog w) (x := x) most (by decide) nodef ⟨rfl, ?_, ?_⟩ ?_ fun w => cx_calm w
  · have h0 : callerA.depth + 200 < recursionLimit := by decide
    omega
  · have h1 : callerA.units + 1200 < cLine := by decide
    omega
  · intro w mg fa h ⟨K, KX, c, cc⟩ G hmg
    rw [name] at hmg
    obtain ⟨fd, sp, hb, hs, hF⟩ := law_fn (prog := r.prog) (w := w) O KX G c cc hf hps hdd hmg hrun
    exact ⟨K, fd, sp, KX, hb, hs, hF⟩
end Py
end SF3
section SM
set_option autoImplicit false
set_option linter.all false
set_option maxRecDepth 100000
set_option maxHeartbeats 4000000
/-! Rules for running the evaluator by simp. -/
namespace Py
open PySem (CmpOp Operator UnaryOp)
section
variable {P : Prog} {run : Run} {lp : (S → Out (Option Fl)) → S → Out Fl} {s : S}
@[simp] theorem S.get_mk (l : List Sl) (cs : List (List D)) (i : Nat) : S.get ⟨l, cs⟩ i = l.getD i .non := Eq.trans rfl rfl
@[simp] theorem S.set_mk (l : List Sl) (cs : List (List D)) (i : Nat) (x : Sl) : S.set ⟨l, cs⟩ i x = ⟨l.set i x, cs⟩ := Eq.trans rfl rfl
theorem runF_succ (P : Prog) (n f : Nat) (as : List Ag) (cs : List (List D)) (fn : Fn) (h : P.fn f = some fn) (hl : as.length = fn.np) : runF P (n + 1) f as cs = bodyR whileL P (runF P n) fn as cs := by
  show (match P.fn f with
    | none => RO.stuck
    | some fn => if as.length = fn.np then bodyR whileL P (runG whileL P n) fn as cs else .stuck) = _
  rw [h]
  simp only
  rw [if_pos hl]
  rfl
@[simp] theorem bind_ok {α β : Type} (a : α) (s : S) (f : α → S → Out β) : Out.bind (.ok a s) f = f a s := Eq.trans rfl rfl
@[simp] theorem bind_stuck {α β : Type} (f : α → S → Out β) : Out.bind .stuck f = .stuck := Eq.trans rfl rfl
@[simp] theorem of_some {α : Type} (a : α) (s : S) : Out.of (some a) s = .ok a s := Eq.trans rfl rfl
@[simp] theorem of_none {α : Type} (s : S) : (Out.of (none : Option α) s) = .stuck := Eq.trans rfl rfl
/-! ### expressions -/
@[simp] theorem e_loc' (i : Nat) : evE P run (.loc i) s = locV s i := by simp only [evE]
@[simp] theorem e_con' (d : D) : evE P run (.con d) s = .ok (.d d) s := by simp only [evE]
@[simp] theorem e_glo' (g : Nat) : evE P run (.glo g) s = Out.of ((P.con g).map .d) s := by simp only [evE]
@[simp] theorem e_bin' (op : Operator) (a b : E) : evE P run (.bin op a b) s = (evE P run a s).bind fun x s1 => (evE P run b s1).bind fun y s2 => Out.of ((rdat s2 x).bind fun u => (rdat s2 y).bind fun v => binop op u v) s2 := by simp only [evE]
@[simp] theorem e_un' (op : UnaryOp) (a : E) : evE P run (.un op a) s = (evE P run a s).bind fun x s1 => Out.of ((rdat s1 x).bind fun u => (unop op u).map .d) s1 := by simp only [evE]
def kAnd (P : Prog) (run : Run) (b : E) (x : RV) (s1 : S) : Out RV := match (rdat s1 x).bind truthy with
    | some true => evE P run b s1
    | some false => .ok x s1
    | none => .stuck
@[simp] theorem e_and' (a b : E) : evE P run (.and a b) s = (evE P run a s).bind (kAnd P run b) := by simp only [evE] <;> rfl
def kOr (P : Prog) (run : Run) (b : E) (x : RV) (s1 : S) : Out RV := match (rdat s1 x).bind truthy with
    | some true => .ok x s1
    | some false => evE P run b s1
    | none => .stuck
@[simp] theorem e_or' (a b : E) : evE P run (.or a b) s = (evE P run a s).bind (kOr P run b) := by simp only [evE] <;> rfl
def kIf (P : Prog) (run : Run) (a b : E) (x : RV) (s1 : S) : Out RV := match (rdat s1 x).bind truthy with
    | some true => evE P run a s1
    | some false => evE P run b s1
    | none => .stuck
@[simp] theorem e_ite' (c a b : E) : evE P run (.ite c a b) s = (evE P run c s).bind (kIf P run a b) := by simp only [evE] <;> rfl
theorem k_and (b : E) (x : RV) (s1 : S) : kAnd P run b x s1 = match (rdat s1 x).bind truthy with
    | some true => evE P run b s1
    | some false => .ok x s1
    | none => .stuck := rfl
@[simp] theorem k_and_bl (b : E) (t : Bool) (s1 : S) : kAnd P run b (.d (.bl t)) s1 = bif t then evE P run b s1 else .ok (.d (.bl false)) s1 := by cases t <;> rfl
@[simp] theorem k_or_bl (b : E) (t : Bool) (s1 : S) : kOr P run b (.d (.bl t)) s1 = bif t then .ok (.d (.bl true)) s1 else evE P run b s1 := by cases t <;> rfl
@[simp] theorem k_if_bl (a b : E) (t : Bool) (s1 : S) : kIf P run a b (.d (.bl t)) s1 = bif t then evE P run a s1 else evE P run b s1 := by cases t <;> rfl
@[simp] theorem e_cmp' (op : CmpOp) (a b : E) : evE P run (.cmp op a b) s = (evE P run a s).bind fun x s1 => (evE P run b s1).bind fun y s2 => Out.of ((rdat s2 x).bind fun u => (rdat s2 y).bind fun v => (cmpOp op u v).map fun r => .d (.bl r)) s2 := by simp only [evE]
@[simp] theorem e_isN' (neg : Bool) (a : E) : evE P run (.isN neg a) s = (evE P run a s).bind fun x s1 => Out.of ((rdat s1 x).map fun u => .d (.bl (match u with
    | .non => !neg
    | _ => neg))) s1 := by simp only [evE] <;> rfl
@[simp] theorem e_isB' (neg b : Bool) (a : E) : evE P run (.isB neg b a) s = (evE P run a s).bind fun x s1 => Out.of ((rdat s1 x).bind fun u => match u with
    | .bl k => some (.d (.bl (if neg then !(k == b) else k == b)))
    | _ => none) s1 := by simp only [evE] <;> rfl
@[simp] theorem e_isi' (a : E) (ts : List Ty) : evE P run (.isi a ts) s = (evE P run a s).bind fun x s1 => Out.of ((rdat s1 x).map fun u => .d (.bl (ts.any fun t => isTy t u))) s1 := by simp only [evE]
@[simp] theorem e_call' (f : Nat) (es : List E) : evE P run (.call f es) s = (evEs P run es s).bind (callU run f) := by simp only [evE]
def kPl (run : Run) (f : Nat) (ix : List (Nat ⊕ D)) (rs : List RV) (s1 : S) : Out RV := match place rs ix with
    | some qs => callU run f qs s1
    | none => .stuck
@[simp] theorem e_callK' (f : Nat) (es : List E) (ix : List (Nat ⊕ D)) : evE P run (.callK f es ix) s = (evEs P run es s).bind (kPl run f ix) := by simp only [evE] <;> rfl
@[simp] theorem e_bi' (b : Bi) (es : List E) : evE P run (.bi b es) s = (evEs P run es s).bind fun rs s1 => Out.of ((rdats s1 rs).bind fun xs => biOp b xs) s1 := by simp only [evE]
@[simp] theorem e_ix' (a b : E) : evE P run (.ix a b) s = (evE P run a s).bind fun x s1 => (evE P run b s1).bind fun y s2 => Out.of ((rdat s2 x).bind fun u => (rdat s2 y).bind fun v => (ixOp u v).map .d) s2 := by simp only [evE]
@[simp] theorem e_sl' (a : E) (lo hi : Option E) : evE P run (.sl a lo hi) s = (evE P run a s).bind fun x s1 => (evO P run lo s1).bind fun l s2 => (evO P run hi s2).bind fun h s3 => Out.of ((rdat s3 x).bind fun u => slOp u l h) s3 := by simp only [evE]
@[simp] theorem e_tup' (es : List E) : evE P run (.tup es) s = (evXs P run es s).bind fun xs s1 => if xs.length ≤ 1000 then .ok (.d (.tup xs)) s1 else .stuck := by simp only [evE]
@[simp] theorem e_lst' (es : List E) : evE P run (.lst es) s = (evXs P run es s).bind fun xs s1 => if xs.length ≤ 1000 then .ok (.own (.lst xs)) s1 else .stuck := by simp only [evE]
@[simp] theorem es_nil : evEs P run [] s = .ok [] s := by simp only [evEs]
@[simp] theorem es_cons (e : E) (es : List E) : evEs P run (e :: es) s = (evE P run e s).bind fun x s1 => (evEs P run es s1).bind fun xs s2 => .ok (wk x :: xs) s2 := by simp only [evEs]
@[simp] theorem xs_nil : evXs P run [] s = .ok [] s := by simp only [evXs]
def kX (P : Prog) (run : Run) (es : List E) (x : RV) (s1 : S) : Out (List D) := match esc s1 x with
    | none => .stuck
    | some p => (evXs P run es p.2).bind fun xs s2 => .ok (p.1 :: xs) s2
@[simp] theorem xs_cons (e : E) (es : List E) : evXs P run (e :: es) s = (evE P run e s).bind (kX P run es) := by simp only [evXs] <;> rfl
@[simp] theorem k_x_d (es : List E) (x : D) (s1 : S) : kX P run es (.d x) s1 = (evXs P run es s1).bind fun xs s2 => .ok (x :: xs) s2 := Eq.trans rfl rfl
@[simp] theorem k_x_own (es : List E) (x : D) (s1 : S) : kX P run es (.own x) s1 = (evXs P run es s1).bind fun xs s2 => .ok (x :: xs) s2 := Eq.trans rfl rfl
@[simp] theorem o_none' : evO P run none s = .ok none s := by simp only [evO]
@[simp] theorem o_some' (e : E) : evO P run (some e) s = (evE P run e s).bind fun x s1 => match rdat s1 x with
    | some (.int i) => .ok (some i) s1
    | _ => .stuck := by simp only [evO] <;> rfl
@[simp] theorem c_nil' : evC P run [] s = .ok true s := by simp only [evC]
def kC (P : Prog) (run : Run) (es : List E) (x : RV) (s1 : S) : Out Bool := match (rdat s1 x).bind truthy with
    | some true => evC P run es s1
    | some false => .ok false s1
    | none => .stuck
@[simp] theorem c_cons' (e : E) (es : List E) : evC P run (e :: es) s = (evE P run e s).bind (kC P run es) := by simp only [evC] <;> rfl
@[simp] theorem k_c_bl (es : List E) (t : Bool) (s1 : S) : kC P run es (.d (.bl t)) s1 = bif t then evC P run es s1 else .ok false s1 := by cases t <;> rfl
@[simp] theorem i_range' (es : List E) : evI P run (.range es) s = (evEs P run es s).bind fun rs s1 => Out.of ((rdats s1 rs).bind fun xs => (rangeOf xs).map fun q => (q, [])) s1 := by simp only [evI]
@[simp] theorem i_seq' (e : E) : evI P run (.seq e) s = (evE P run e s).bind fun x s1 => match itD s1 x with
    | some xs => .ok (xs, brwOf x) s1
    | none => .stuck := by simp only [evI] <;> rfl
@[simp] theorem i_enum' (es : List E) : evI P run (.enum es) s = (evEs P run es s).bind fun rs s1 => enI s1 rs := by simp only [evI]
@[simp] theorem i_zip' (es : List E) : evI P run (.zip es) s = (evEs P run es s).bind fun rs s1 => ziI s1 rs := by simp only [evI]
@[simp] theorem i_enumZ' (es : List E) : evI P run (.enumZ es) s = (evEs P run es s).bind fun rs s1 => (ziI s1 rs).bind fun p s2 => .ok (enumD 0 p.1, p.2) s2 := by simp only [evI]
/-! ### calls -/
@[simp] theorem hb_nil : hasBrw [] = false := Eq.trans rfl rfl
@[simp] theorem hb_d (x : D) (r : List RV) : hasBrw (.d x :: r) = hasBrw r := Eq.trans rfl rfl
@[simp] theorem hb_own (x : D) (r : List RV) : hasBrw (.own x :: r) = hasBrw r := Eq.trans rfl rfl
@[simp] theorem hb_cell (k : Nat) (r : List RV) : hasBrw (.cell k :: r) = hasBrw r := Eq.trans rfl rfl
@[simp] theorem hb_brw (k : Nat) (r : List RV) : hasBrw (.brw k :: r) = true := Eq.trans rfl rfl
@[simp] theorem nr_non (n : Nat) : noRef n .non = true := by cases n <;> rfl
@[simp] theorem nr_bl (n : Nat) (b : Bool) : noRef n (.bl b) = true := by cases n <;> rfl
@[simp] theorem nr_int (n : Nat) (i : Int) : noRef n (.int i) = true := by cases n <;> rfl
@[simp] theorem nr_str (n : Nat) (z : List Nat) : noRef n (.str z) = true := by cases n <;> rfl
@[simp] theorem eq_non : eqD .non .non = true := by simp only [eqD]
@[simp] theorem eq_bl (a b : Bool) : eqD (.bl a) (.bl b) = (a == b) := by simp only [eqD]
@[simp] theorem eq_int (a b : Int) : eqD (.int a) (.int b) = (a == b) := by simp only [eqD]
@[simp] theorem eq_str (a b : List Nat) : eqD (.str a) (.str b) = (a == b) := by simp only [eqD]
@[simp] theorem eq_lst (a b : List D) : eqD (.lst a) (.lst b) = eqDs a b := by simp only [eqD]
@[simp] theorem eq_tup (a b : List D) : eqD (.tup a) (.tup b) = eqDs a b := by simp only [eqD]
@[simp] theorem eqs_nil : eqDs [] [] = true := by simp only [eqDs]
@[simp] theorem eqs_cons (a b : D) (as bs : List D) : eqDs (a :: as) (b :: bs) = (eqD a b && eqDs as bs) := by simp only [eqDs]
@[simp] theorem eqs_nc (b : D) (bs : List D) : eqDs [] (b :: bs) = false := by simp only [eqDs]
@[simp] theorem eqs_cn (a : D) (as : List D) : eqDs (a :: as) [] = false := by simp only [eqDs]
@[simp] theorem pl_non (n : Nat) : plain n .non = true := by cases n <;> rfl
@[simp] theorem pl_bl (n : Nat) (b : Bool) : plain n (.bl b) = true := by cases n <;> rfl
@[simp] theorem pl_int (n : Nat) (i : Int) : plain n (.int i) = true := by cases n <;> rfl
@[simp] theorem pl_str (n : Nat) (z : List Nat) : plain n (.str z) = true := by cases n <;> rfl
@[simp] theorem pl_lst (xs : List D) : plain 30 (.lst xs) = xs.all (plain 29) := Eq.trans rfl rfl
@[simp] theorem pl_tup (xs : List D) : plain 30 (.tup xs) = xs.all (plain 29) := Eq.trans rfl rfl
@[simp] theorem pl_ints {α : Type} (n : Nat) (f : α → Int) (l : List α) : (l.map fun a => D.int (f a)).all (plain n) = true := by induction l <;> simp_all
@[simp] theorem nr_ints {α : Type} (n : Nat) (f : α → Int) (l : List α) : (l.map fun a => D.int (f a)).all (noRef n) = true := by induction l <;> simp_all
@[simp] theorem toI_ints {α : Type} (f : α → Int) (l : List α) : toI (l.map fun a => D.int (f a)) = some (l.map f) := by induction l <;> simp_all [toI]
theorem eqs_ints {α β : Type} (f : α → Int) (g : β → Int) : ∀ (l : List α) (m : List β), eqDs (l.map fun a => D.int (f a)) (m.map fun a => D.int (g a)) = decide (l.map f = m.map g)
  | [], [] => by simp
  | [], _ :: _ => by simp
  | _ :: _, [] => by simp
  | a :: l, b :: m => by
    simp only [List.map_cons, eqs_cons, eq_int, eqs_ints f g l m]
    by_cases h : f a = g b <;> by_cases h2 : l.map f = m.map g <;> simp [h, h2]
theorem eqs_nat (l m : List Nat) : eqDs (l.map fun (a : Nat) => D.int (a : Int)) (m.map fun (a : Nat) => D.int (a : Int)) = decide (l = m) := by
  rw [eqs_ints]
  have : (l.map fun (a : Nat) => (a : Int)) = (m.map fun (a : Nat) => (a : Int)) ↔ l = m := by
    constructor
    · intro h
      have q := congrArg (List.map Int.toNat) h
      rw [List.map_map, List.map_map] at q
      have e : (Int.toNat ∘ fun (a : Nat) => (a : Int)) = id := by funext a; simp
      rw [e, List.map_id, List.map_id] at q
      exact q
    · intro h; rw [h]
  simp only [this]
@[simp] theorem eqs_empty {α : Type} (f : α → D) (l : List α) : eqDs (l.map f) [] = l.isEmpty := by cases l <;> simp
theorem fmNone {α : Type} (l : List α) : (l.filterMap fun _ => (none : Option D)) = [] := by induction l <;> simp_all
theorem fmSome {α : Type} (l : List α) (f : α → D) : (l.filterMap fun a => some (f a)) = l.map f := by induction l <;> simp_all
theorem fmIf {α : Type} (l : List α) (p : α → Bool) (f : α → D) : (l.filterMap fun a => if p a = true then some (f a) else none) = (l.filter p).map f := by
  induction l with
  | nil => rfl
  | cons a l ih => cases h : p a <;> simp [List.filterMap_cons, h, ih]
@[simp] theorem after_d0 (rs : List RV) (x : D) (cs : List (List D)) (h : hasBrw rs = false) : after s rs (.ok (.d x) cs) = .ok (.d x) { s with cells := cs } := by simp [after, h, rvOf]
@[simp] theorem after_own0 (rs : List RV) (x : D) (cs : List (List D)) (h : hasBrw rs = false) : after s rs (.ok (.own x) cs) = .ok (.own x) { s with cells := cs } := by simp [after, h, rvOf]
@[simp] theorem after_dS (rs : List RV) (x : D) (cs : List (List D)) (h : noRef 8 x = true) : after s rs (.ok (.d x) cs) = .ok (.d x) { s with cells := cs } := by simp [after, safeRt, h, rvOf]
@[simp] theorem after_ownS (rs : List RV) (xs : List D) (cs : List (List D)) (h : xs.all (noRef 8) = true) : after s rs (.ok (.own (.lst xs)) cs) = .ok (.own (.lst xs)) { s with cells := cs } := by simp [after, safeRt, h, rvOf]
/-! ### built-ins, operators -/
@[simp] theorem bi_len_s (z : List Nat) : biOp .len [.str z] = some (.d (.int z.length)) := Eq.trans rfl rfl
@[simp] theorem bi_len_l (z : List D) : biOp .len [.lst z] = some (.d (.int z.length)) := Eq.trans rfl rfl
@[simp] theorem bi_len_t (z : List D) : biOp .len [.tup z] = some (.d (.int z.length)) := Eq.trans rfl rfl
@[simp] theorem bi_abs (i : Int) : biOp .abs [.int i] = some (.d (.int (if i < 0 then -i else i))) := Eq.trans rfl rfl
@[simp] theorem bi_max2 (i j : Int) : biOp .max2 [.int i, .int j] = some (.d (.int (if j > i then j else i))) := Eq.trans rfl rfl
@[simp] theorem bi_min2 (i j : Int) : biOp .min2 [.int i, .int j] = some (.d (.int (if j < i then j else i))) := Eq.trans rfl rfl
@[simp] theorem bi_int (i : Int) : biOp .int [.int i] = some (.d (.int i)) := Eq.trans rfl rfl
@[simp] theorem bi_int_b (b : Bool) : biOp .int [.bl b] = some (.d (.int (if b then 1 else 0))) := Eq.trans rfl rfl
@[simp] theorem bi_int_s (z : List Nat) : biOp .int [.str z] = (intStr z).map fun i => .d (.int i) := Eq.trans rfl rfl
@[simp] theorem bi_str (i : Int) : biOp .str [.int i] = if 0 ≤ i ∧ i.natAbs.log2 < 1900 then some (.d (.str (strInt i))) else none := Eq.trans rfl rfl
@[simp] theorem bi_sum_l (xs : List D) : biOp .sum [.lst xs] = (toI xs).map fun ns => .d (.int ns.sum) := Eq.trans rfl rfl
@[simp] theorem bi_sum_t (xs : List D) : biOp .sum [.tup xs] = (toI xs).map fun ns => .d (.int ns.sum) := Eq.trans rfl rfl
@[simp] theorem bi_max (xs : List D) : biOp .max [.lst xs] = ((toI xs).bind maxI).map fun i => .d (.int i) := Eq.trans rfl rfl
@[simp] theorem bi_min (xs : List D) : biOp .min [.lst xs] = ((toI xs).bind minI).map fun i => .d (.int i) := Eq.trans rfl rfl
@[simp] theorem bi_any (xs : List D) : biOp .any [.lst xs] = (toB xs).map fun bs => .d (.bl (bs.any id)) := Eq.trans rfl rfl
@[simp] theorem bi_all (xs : List D) : biOp .all [.lst xs] = (toB xs).map fun bs => .d (.bl (bs.all id)) := Eq.trans rfl rfl
@[simp] theorem bi_list_l (xs : List D) : biOp .list [.lst xs] = some (.own (.lst xs)) := Eq.trans rfl rfl
@[simp] theorem bi_list_t (xs : List D) : biOp .list [.tup xs] = some (.own (.lst xs)) := Eq.trans rfl rfl
@[simp] theorem bi_list_s (z : List Nat) : biOp .list [.str z] = some (.own (.lst (z.map fun c => .str [c]))) := Eq.trans rfl rfl
@[simp] theorem bi_tuple_l (xs : List D) : biOp .tuple [.lst xs] = some (.d (.tup xs)) := Eq.trans rfl rfl
@[simp] theorem bi_tuple_t (xs : List D) : biOp .tuple [.tup xs] = some (.d (.tup xs)) := Eq.trans rfl rfl
@[simp] theorem bi_tuple_s (z : List Nat) : biOp .tuple [.str z] = some (.d (.tup (z.map fun c => .str [c]))) := Eq.trans rfl rfl
@[simp] theorem bo_add (i j : Int) : binop .Add (.int i) (.int j) = some (.d (.int (i + j))) := Eq.trans rfl rfl
@[simp] theorem bo_add_s (a b : List Nat) : binop .Add (.str a) (.str b) = if a.length + b.length ≤ SZ then some (.d (.str (a ++ b))) else none := Eq.trans rfl rfl
@[simp] theorem bo_add_l (a b : List D) : binop .Add (.lst a) (.lst b) = if a.length + b.length ≤ SZ then some (.own (.lst (a ++ b))) else none := Eq.trans rfl rfl
@[simp] theorem bo_add_t (a b : List D) : binop .Add (.tup a) (.tup b) = if a.length + b.length ≤ SZ then some (.d (.tup (a ++ b))) else none := Eq.trans rfl rfl
@[simp] theorem bo_sub (i j : Int) : binop .Sub (.int i) (.int j) = some (.d (.int (i - j))) := Eq.trans rfl rfl
@[simp] theorem bo_mul (i j : Int) : binop .Mult (.int i) (.int j) = if mulOk i j then some (.d (.int (i * j))) else none := Eq.trans rfl rfl
@[simp] theorem bo_mul_s (a : List Nat) (k : Int) : binop .Mult (.str a) (.int k) = if 0 ≤ k ∧ k.natAbs ≤ 1000 ∧ a.length ≤ 1000 then some (.d (.str (List.replicate k.toNat a).flatten)) else none := Eq.trans rfl rfl
@[simp] theorem bo_mul_l (a : List D) (k : Int) : binop .Mult (.lst a) (.int k) = if k.natAbs ≤ 100000 ∧ a.length * k.toNat ≤ SZ then some (.own (.lst (List.replicate k.toNat a).flatten)) else none := Eq.trans rfl rfl
@[simp] theorem bo_fdiv (i j : Int) : binop .FloorDiv (.int i) (.int j) = if 0 < j ∧ (j.natAbs < 1073741824 ∨ j.natAbs.log2 < 9000) then some (.d (.int (i / j))) else none := Eq.trans rfl rfl
@[simp] theorem bo_mod (i j : Int) : binop .Mod (.int i) (.int j) = if 0 < j then some (.d (.int (i % j))) else none := Eq.trans rfl rfl
@[simp] theorem bo_pow (i j : Int) : binop .Pow (.int i) (.int j) = if 0 ≤ j ∧ j.natAbs ≤ 100000 ∧ i.natAbs < 2 ^ 64 then some (.d (.int (i ^ j.toNat))) else none := Eq.trans rfl rfl
@[simp] theorem bo_shl (i j : Int) : binop .LShift (.int i) (.int j) = if 0 ≤ j ∧ j.natAbs ≤ 100000 ∧ i.natAbs < 2 ^ 64 then some (.d (.int (i * 2 ^ j.toNat))) else none := Eq.trans rfl rfl
@[simp] theorem bo_shr (i j : Int) : binop .RShift (.int i) (.int j) = if 0 ≤ j then some (.d (.int (i / 2 ^ j.toNat))) else none := Eq.trans rfl rfl
@[simp] theorem bo_and (i j : Int) : binop .BitAnd (.int i) (.int j) = some (.d (.int (PySem.Builtin.bitAnd i j))) := Eq.trans rfl rfl
@[simp] theorem bo_or (i j : Int) : binop .BitOr (.int i) (.int j) = some (.d (.int (PySem.Builtin.bitOr i j))) := Eq.trans rfl rfl
@[simp] theorem bo_xor (i j : Int) : binop .BitXor (.int i) (.int j) = some (.d (.int (PySem.Builtin.bitXor i j))) := Eq.trans rfl rfl
@[simp] theorem uo_neg (i : Int) : unop .USub (.int i) = some (.int (-i)) := Eq.trans rfl rfl
@[simp] theorem uo_inv (i : Int) : unop .Invert (.int i) = some (.int (-i - 1)) := Eq.trans rfl rfl
@[simp] theorem uo_not (x : D) : unop .Not x = (truthy x).map fun b => .bl (!b) := Eq.trans rfl rfl
@[simp] theorem tr_non : truthy .non = some false := Eq.trans rfl rfl
@[simp] theorem tr_bl (b : Bool) : truthy (.bl b) = some b := Eq.trans rfl rfl
@[simp] theorem tr_int (i : Int) : truthy (.int i) = some (i != 0) := Eq.trans rfl rfl
@[simp] theorem tr_str (z : List Nat) : truthy (.str z) = some (!z.isEmpty) := Eq.trans rfl rfl
@[simp] theorem tr_lst (z : List D) : truthy (.lst z) = some (!z.isEmpty) := Eq.trans rfl rfl
@[simp] theorem tr_tup (z : List D) : truthy (.tup z) = some (!z.isEmpty) := Eq.trans rfl rfl
@[simp] theorem co_eq (x y : D) : cmpOp .Eq x y = eqOp x y := Eq.trans rfl rfl
@[simp] theorem co_ne (x y : D) : cmpOp .NotEq x y = (eqOp x y).map not := Eq.trans rfl rfl
@[simp] theorem co_in (x y : D) : cmpOp .In x y = inOp x y := Eq.trans rfl rfl
@[simp] theorem co_nin (x y : D) : cmpOp .NotIn x y = (inOp x y).map not := Eq.trans rfl rfl
@[simp] theorem co_lt (i j : Int) : cmpOp .Lt (.int i) (.int j) = some (decide (i < j)) := Eq.trans rfl rfl
@[simp] theorem co_le (i j : Int) : cmpOp .LtE (.int i) (.int j) = some (decide (i ≤ j)) := Eq.trans rfl rfl
@[simp] theorem co_gt (i j : Int) : cmpOp .Gt (.int i) (.int j) = some (decide (j < i)) := Eq.trans rfl rfl
@[simp] theorem co_ge (i j : Int) : cmpOp .GtE (.int i) (.int j) = some (decide (j ≤ i)) := Eq.trans rfl rfl
@[simp] theorem rd_cell (s : S) (k : Nat) : rdat s (.cell k) = (s.cells[k]?).map .lst := Eq.trans rfl rfl
@[simp] theorem rd_d (s : S) (x : D) : rdat s (.d x) = some x := Eq.trans rfl rfl
@[simp] theorem rd_own (s : S) (x : D) : rdat s (.own x) = some x := Eq.trans rfl rfl
theorem rd_brw (s : S) (i : Nat) : rdat s (.brw i) = (match s.get i with
    | .own d => some d
    | .lent d => some d
    | .pub d => some d
    | _ => none) := rfl
@[simp] theorem rds_nil (s : S) : rdats s [] = some [] := Eq.trans rfl rfl
@[simp] theorem rds_cons (s : S) (r : RV) (rs : List RV) : rdats s (r :: rs) = (rdat s r).bind fun x => (rdats s rs).map fun xs => x :: xs := Eq.trans rfl rfl
@[simp] theorem wk_d (x : D) : wk (.d x) = .d x := Eq.trans rfl rfl
@[simp] theorem wk_own (x : D) : wk (.own x) = .d x := Eq.trans rfl rfl
@[simp] theorem wk_brw (i : Nat) : wk (.brw i) = .brw i := Eq.trans rfl rfl
@[simp] theorem wk_cell (i : Nat) : wk (.cell i) = .cell i := Eq.trans rfl rfl
@[simp] theorem esc_d (s : S) (x : D) : esc s (.d x) = some (x, s) := Eq.trans rfl rfl
@[simp] theorem esc_own (s : S) (x : D) : esc s (.own x) = some (x, s) := Eq.trans rfl rfl
/-! ### statements -/
def kS (lp : (S → Out (Option Fl)) → S → Out Fl) (P : Prog) (run : Run) (ts : List T) (fl : Fl) (s1 : S) : Out Fl := match fl with
    | .nx => exTs lp P run ts s1
    | fl => .ok fl s1
@[simp] theorem s_nil : exTs lp P run [] s = .ok .nx s := by simp only [exTs]
@[simp] theorem s_cons (t : T) (ts : List T) : exTs lp P run (t :: ts) s = (exT lp P run t s).bind (kS lp P run ts) := by simp only [exTs] <;> rfl
@[simp] theorem k_nx (ts : List T) (s1 : S) : kS lp P run ts .nx s1 = exTs lp P run ts s1 := Eq.trans rfl rfl
@[simp] theorem k_ret (ts : List T) (r : RV) (s1 : S) : kS lp P run ts (.ret r) s1 = .ok (.ret r) s1 := Eq.trans rfl rfl
@[simp] theorem k_brk (ts : List T) (s1 : S) : kS lp P run ts .brk s1 = .ok .brk s1 := Eq.trans rfl rfl
@[simp] theorem k_cnt (ts : List T) (s1 : S) : kS lp P run ts .cnt s1 = .ok .cnt s1 := Eq.trans rfl rfl
def kAsg (t : Tg) (r : RV) (s1 : S) : Out Fl := match tgR t r s1 with
    | some s2 => .ok .nx s2
    | none => .stuck
@[simp] theorem t_asg (t : Tg) (e : E) : exT lp P run (.asg t e) s = (evE P run e s).bind (kAsg t) := by simp only [exT] <;> rfl
@[simp] theorem kAsg_d (i : Nat) (x : D) (s1 : S) : kAsg (.nm i) (.d x) s1 = .ok .nx (s1.set i (.pub x)) := Eq.trans rfl rfl
@[simp] theorem kAsg_own (i : Nat) (x : D) (s1 : S) : kAsg (.nm i) (.own x) s1 = .ok .nx (s1.set i (.own x)) := Eq.trans rfl rfl
@[simp] theorem t_ret0 : exT lp P run (.ret none) s = .ok (.ret (.d .non)) s := by simp only [exT]
@[simp] theorem t_ret (e : E) : exT lp P run (.ret (some e)) s = (evE P run e s).bind fun r s1 => .ok (.ret r) s1 := by simp only [exT]
def kIte (lp : (S → Out (Option Fl)) → S → Out Fl) (P : Prog) (run : Run) (a b : List T) (x : RV) (s1 : S) : Out Fl := match (rdat s1 x).bind truthy with
    | some true => exTs lp P run a s1
    | some false => exTs lp P run b s1
    | none => .stuck
@[simp] theorem t_ite (c : E) (a b : List T) : exT lp P run (.ite c a b) s = (evE P run c s).bind (kIte lp P run a b) := by simp only [exT] <;> rfl
@[simp] theorem kIte_bl (a b : List T) (t : Bool) (s1 : S) : kIte lp P run a b (.d (.bl t)) s1 = bif t then exTs lp P run a s1 else exTs lp P run b s1 := by cases t <;> rfl
theorem kIte_d (a b : List T) (x : D) (s1 : S) : kIte lp P run a b (.d x) s1 = match truthy x with
    | some true => exTs lp P run a s1
    | some false => exTs lp P run b s1
    | none => .stuck := rfl
def kSet (P : Prog) (run : Run) (i : Nat) (ix : E) (r : RV) (s1 : S) : Out Fl := match esc s1 r with
    | none => .stuck
    | some p => if hasV (p.2.get i) then (evE P run ix p.2).bind fun q s2 => match (rdat s2 q).bind fun k => setAt s2 i k p.1 with
      | some s3 => .ok .nx s3
      | none => .stuck else .stuck
@[simp] theorem t_setI (i : Nat) (ix e : E) : exT lp P run (.setI i ix e) s = (evE P run e s).bind (kSet P run i ix) := by simp only [exT] <;> rfl
@[simp] theorem t_exp (e : E) : exT lp P run (.exp e) s = (evE P run e s).bind fun _ s1 => .ok .nx s1 := by simp only [exT]
@[simp] theorem t_par (is : List Nat) (es : List E) : exT lp P run (.par is es) s = (evPs P run es s).bind fun rs s1 => match parGo is rs s1 with
    | some s2 => .ok .nx s2
    | none => .stuck := by simp only [exT] <;> rfl
@[simp] theorem ps_nil' : evPs P run [] s = .ok [] s := by simp only [evPs]
def kP (P : Prog) (run : Run) (es : List E) (x : RV) (s1 : S) : Out (List RV) := match x with
    | .own d => (evPs P run es s1).bind fun xs s2 => .ok (.own d :: xs) s2
    | x => (match esc s1 x with
      | none => .stuck
      | some p => (evPs P run es p.2).bind fun xs s2 => .ok (.d p.1 :: xs) s2)
@[simp] theorem ps_cons' (e : E) (es : List E) : evPs P run (e :: es) s = (evE P run e s).bind (kP P run es) := by simp only [evPs] <;> rfl
@[simp] theorem kP_own (es : List E) (x : D) (s1 : S) : kP P run es (.own x) s1 = (evPs P run es s1).bind fun xs s2 => .ok (.own x :: xs) s2 := Eq.trans rfl rfl
@[simp] theorem kP_d (es : List E) (x : D) (s1 : S) : kP P run es (.d x) s1 = (evPs P run es s1).bind fun xs s2 => .ok (.d x :: xs) s2 := Eq.trans rfl rfl
@[simp] theorem t_app (i : Nat) (e : E) : exT lp P run (.app i e) s = if !isOwnL (s.get i) then .stuck else (evE P run e s).bind fun r s1 => match esc s1 r with
    | none => .stuck
    | some p => (match p.2.get i with
      | .own (.lst xs) => if xs.length < 100000 then .ok .nx (p.2.set i (.own (.lst (xs ++ [p.1])))) else .stuck
      | _ => .stuck) := by simp only [exT] <;> rfl
@[simp] theorem t_asgC (i : Nat) (e : E) : exT lp P run (.asgC i e) s = (evE P run e s).bind fun r s1 => match r with
    | .own (.lst xs) => if xs.all flat then .ok .nx { env := s1.env.set i (.cell s1.cells.length), cells := s1.cells ++ [xs] } else .stuck
    | _ => .stuck := by simp only [exT] <;> rfl
/-! ### comprehensions: the own names hold nothing of their own ahead -/
/-- the turn of a comprehension -/
def lcT (P : Prog) (run : Run) (elt : E) (tg : Tg) (ifs : List E) (own : List Nat) (x : D) (t : S) : Out (Option D) := match tgD tg x (wipeE t own) with
  | none => .stuck
  | some t1 => (evC P run ifs t1).bind fun b t2 => match b with
    | false => .ok none t2
    | true => (evE P run elt t2).bind fun r t3 => match esc t3 r with
      | some q => .ok (some q.1) q.2
      | none => .stuck
theorem e_lcT (elt : E) (tg : Tg) (it : It) (ifs : List E) (own : List Nat) : evE P run (.lc elt tg it ifs own) s = (evI P run it s).bind fun p s0 => match pubOwn s0 own with
    | none => .stuck
    | some s1 => (lcGo (lcT P run elt tg ifs own) p.1 (lend s1 (ownIn s1 p.2))).calm.bind fun xs s2 =>
          if xs.length ≤ 100000 then .ok (.own (.lst xs)) (unlend (restoreE s1 s2 own) (ownIn s1 p.2)) else .stuck := by
  simp only [evE]
  congr 1
theorem lcGo_inv {f : D → S → Out (Option D)} (I : Nat → List D → S → Prop) : ∀ (xs : List D) (k : Nat) (acc : List D) (t : S), I k acc t →
    (∀ j x acc t, xs[j]? = some x → I (k + j) acc t → ∃ o t', f x t = .ok o t' ∧ I (k + j + 1) (acc ++ o.toList) t') → ∃ ys t', lcGo f xs t = .ok ys t' ∧ I (k + xs.length) (acc ++ ys) t'
  | [], k, acc, t, h, _ => ⟨[], t, rfl, by simpa using h⟩
  | x :: xs, k, acc, t, h, st => by
    obtain ⟨o, t1, e1, h1⟩ := st 0 x acc t rfl h
    obtain ⟨ys, t2, e2, h2⟩ := lcGo_inv I xs (k + 1) (acc ++ o.toList) t1 h1 fun j y a u hj hu => by
      have := st (j + 1) y a u (by simpa using hj) (by rw [show k + (j + 1) = k + 1 + j by omega]; exact hu)
      rw [show k + (j + 1) + 1 = k + 1 + j + 1 by omega] at this
      exact this
    refine ⟨o.toList ++ ys, t2, ?_, by rw [← List.append_assoc, show k + (x :: xs).length = k + 1 + xs.length by simp; omega]; exact h2⟩
    simp only [lcGo, e1, bind_ok, e2]
    cases o <;> rfl
theorem lcGo_map {f : D → S → Out (Option D)} {g : D → Option D} (R : S → Prop) : ∀ (xs : List D) (t : S), R t → (∀ x ∈ xs, ∀ t, R t → ∃ t', f x t = .ok (g x) t' ∧ R t') → ∃ t', lcGo f xs t = .ok (xs.filterMap g) t' ∧ R t'
  | [], t, h, _ => ⟨t, rfl, h⟩
  | x :: xs, t, h, st => by
    obtain ⟨t1, e1, h1⟩ := st x List.mem_cons_self t h
    obtain ⟨t2, e2, h2⟩ := lcGo_map R xs t1 h1 fun y hy => st y (List.mem_cons_of_mem _ hy)
    refine ⟨t2, ?_, h2⟩
    simp only [lcGo, e1, bind_ok, e2]
    cases q : g x <;> simp [List.filterMap_cons, q]
/-! ### loops -/
/-- a for's turn -/
def forT (lp : (S → Out (Option Fl)) → S → Out Fl) (P : Prog) (run : Run) (t : Tg) (b : List T) (x : D) (u : S) : Out Fl := match tgD t x u with
      | none => .stuck
      | some u1 => exTs lp P run b u1
theorem t_forT (t : Tg) (it : It) (b : List T) : exT lp P run (.for_ t it b) s = (evI P run it s).bind fun p s1 => (forGo (forT lp P run t b) p.1 (lend s1 (ownIn s1 p.2))).ends fun s2 => unlend s2 (ownIn s1 p.2) := by
  simp only [exT]
  congr 1
theorem forGo_inv {f : D → S → Out Fl} (I : Nat → S → Prop) : ∀ (xs : List D) (k : Nat) (t : S), I k t →
    (∀ j x t, xs[j]? = some x → I (k + j) t → ∃ t', (f x t = .ok .nx t' ∨ f x t = .ok .cnt t') ∧ I (k + j + 1) t') → ∃ t', forGo f xs t = .ok .nx t' ∧ I (k + xs.length) t'
  | [], k, t, h, _ => ⟨t, rfl, by simpa using h⟩
  | x :: xs, k, t, h, st => by
    obtain ⟨t1, e1, h1⟩ := st 0 x t rfl h
    obtain ⟨t2, e2, h2⟩ := forGo_inv I xs (k + 1) t1 h1 fun j y u hj hu => by
      have := st (j + 1) y u (by simpa using hj) (by rw [show k + (j + 1) = k + 1 + j by omega]; exact hu)
      rw [show k + (j + 1) + 1 = k + 1 + j + 1 by omega] at this
      exact this
    refine ⟨t2, ?_, by rw [show k + (x :: xs).length = k + 1 + xs.length by simp; omega]; exact h2⟩
    rcases e1 with e1 | e1 <;> simp only [forGo, e1, bind_ok, e2]
/-! ### ranges -/
theorem rangeD_eq : ∀ (n : Nat) (lo : Int), rangeD lo n = (List.range n).map fun (i : Nat) => D.int (lo + (i : Int))
  | 0, _ => rfl
  | n + 1, lo => by
    rw [List.range_succ_eq_map, List.map_cons, List.map_map, rangeD, rangeD_eq n (lo + 1)]
    congr 1
    · simp
    · apply List.map_congr_left
      intro i _
      simp only [Function.comp]
      congr 1
      omega
theorem range0 (n : Nat) : rangeD 0 n = (List.range n).map fun (i : Nat) => D.int (i : Int) := by
  rw [rangeD_eq]; simp
end
end Py
end SM
section SM2
set_option autoImplicit false
set_option linter.all false
set_option maxRecDepth 100000
set_option maxHeartbeats 4000000
/-! Rules for comprehensions and loops. -/
namespace Py
open PySem (CmpOp Operator UnaryOp)
section
variable {P : Prog} {run : Run} {lp : (S → Out (Option Fl)) → S → Out Fl} {s t : S} {own : List Nat} {tg : Tg} {it : It} {ifs : List E} {elt : E} {xs : List D} {i j : Nat}
theorem S.ext' {s t : S} (hl : s.env.length = t.env.length) (hc : s.cells = t.cells) (h : ∀ j, s.get j = t.get j) : s = t := by
  cases s with
  | mk e c =>
  cases t with
  | mk e' c' =>
  cases hc
  congr 1
  refine List.ext_getElem hl fun j h1 h2 => ?_
  have := h j
  simp only [S.get, List.getD_eq_getElem?_getD] at this
  rw [List.getElem?_eq_getElem h1, List.getElem?_eq_getElem h2] at this
  exact this
theorem restore_ok (h : wipeE t own = wipeE s own) : restoreE s t own = { s with cells := t.cells } := by
  obtain ⟨a1, a2, a3⟩ := wipeE_get t own
  obtain ⟨b1, b2, b3⟩ := wipeE_get s own
  have hl : s.env.length = t.env.length := by rw [← a2, ← b2, h]
  obtain ⟨r1, r2, r3⟩ := restoreE_get s t hl own
  refine S.ext' ?_ r1 fun k => ?_
  · show _ = s.env.length
    rw [r2, hl]
  · show _ = s.get k
    by_cases hk : k ∈ own
    · exact (r3 k).2 hk
    · rw [(r3 k).1 hk, ← (a3 k).1 hk, h, (b3 k).1 hk]
theorem S.set_set (s : S) (i : Nat) (a b : Sl) : (s.set i a).set i b = s.set i b := by simp [S.set, List.set_set]
theorem S.set_comm {s : S} {i j : Nat} {a b : Sl} (h : i ≠ j) : (s.set i a).set j b = (s.set j b).set i a := by
  simp only [S.set]
  rw [List.set_comm a b h]
/-- the turn behind the target -/
def lcB (P : Prog) (run : Run) (elt : E) (ifs : List E) (t1 : S) : Out (Option D) := (evC P run ifs t1).bind fun b t2 => match b with
    | false => .ok none t2
    | true => (evE P run elt t2).bind fun r t3 => match esc t3 r with
      | some q => .ok (some q.1) q.2
      | none => .stuck
theorem pubOwn_same : ∀ {own : List Nat} {s : S}, (∀ k ∈ own, s.get k = .non ∨ ∃ d, s.get k = .pub d) → pubOwn s own = some s
  | [], s, _ => rfl
  | k :: own, s, h => by
    unfold pubOwn
    have ih := pubOwn_same (own := own) (s := s) fun j hj => h j (List.mem_cons_of_mem _ hj)
    rcases h k List.mem_cons_self with e | ⟨d, e⟩ <;> rw [e] <;> exact ih
theorem lcGo_len {f : D → S → Out (Option D)} : ∀ {xs ys : List D} {t t' : S}, lcGo f xs t = .ok ys t' → ys.length ≤ xs.length
  | [], ys, t, t', h => by cases h; exact Nat.le_refl _
  | x :: xs, ys, t, t', h => by
    simp only [lcGo] at h
    obtain ⟨o, t1, _, h⟩ := Out.bind_ok h
    obtain ⟨r, t2, h2, h⟩ := Out.bind_ok h
    cases h
    have := lcGo_len h2
    cases o <;> simp <;> omega
theorem lcGo_mapA {α : Type} {F : D → S → Out (Option D)} (f : α → D) (h : α → Option D) (R : S → Prop) : ∀ (l : List α) (t : S), R t → (∀ a ∈ l, ∀ t, R t → ∃ t', F (f a) t = .ok (h a) t' ∧ R t') → ∃ t', lcGo F (l.map f) t = .ok (l.filterMap h) t' ∧ R t'
  | [], t, q, _ => ⟨t, rfl, q⟩
  | x :: xs, t, q, st => by
    obtain ⟨t1, e1, h1⟩ := st x List.mem_cons_self t q
    obtain ⟨t2, e2, h2⟩ := lcGo_mapA f h R xs t1 h1 fun y hy => st y (List.mem_cons_of_mem _ hy)
    refine ⟨t2, ?_, h2⟩
    simp only [List.map_cons, lcGo, e1, bind_ok, e2]
    cases q : h x <;> simp [List.filterMap_cons, q]
/-- a comprehension whose turns change nothing -/
theorem lc_pure {α : Type} (f : α → D) (l : List α) (h : α → Option D) (st : α → S) (js : List Nat) (hit : evI P run it s = .ok (l.map f, js) s) (hown : ∀ k ∈ own, s.get k = .non ∨ ∃ d, s.get k = .pub d) (hl : l.length ≤ 100000)
    (hst : ∀ x ∈ l, tgD tg (f x) (wipeE (lend s (ownIn s js)) own) = some (st x)) (body : ∀ x ∈ l, lcB P run elt ifs (st x) = .ok (h x) (st x)) (hw : ∀ x ∈ l, wipeE (st x) own = wipeE (lend s (ownIn s js)) own)
    (hun : ∀ t : S, wipeE t own = wipeE (lend s (ownIn s js)) own → unlend (restoreE s t own) (ownIn s js) = s) :
    evE P run (.lc elt tg it ifs own) s = .ok (.own (.lst (l.filterMap h))) s := by
  rw [e_lcT, hit, bind_ok]
  simp only [pubOwn_same hown]
  obtain ⟨t', e, q⟩ := lcGo_mapA (F := lcT P run elt tg ifs own) f h (fun t => wipeE t own = wipeE (lend s (ownIn s js)) own) l (lend s (ownIn s js)) rfl fun x hx t ht => by
    refine ⟨st x, ?_, hw x hx⟩
    unfold lcT
    rw [ht, hst x hx]
    exact body x hx
  rw [e]
  have hlen : (l.filterMap h).length ≤ 100000 := Nat.le_trans (List.length_filterMap_le ..) hl
  simp only [Out.calm, bind_ok, if_pos hlen, hun t' q]
theorem unlend_nil (h : wipeE t own = wipeE s own) : restoreE s t own = s := by
  rw [restore_ok h]
  have : t.cells = s.cells := by rw [← (wipeE_get t own).1, h, (wipeE_get s own).1]
  rw [this]
/-- one name, what is walked is nobody's own -/
theorem lc1 {α : Type} (f : α → D) (l : List α) (h : α → Option D) (hit : evI P run it s = .ok (l.map f, []) s) (hi : s.get i = .non ∨ ∃ d, s.get i = .pub d) (hl : l.length ≤ 100000) (body : ∀ x ∈ l, lcB P run elt ifs (s.set i (.pub (f x))) = .ok (h x) (s.set i (.pub (f x)))) :
    evE P run (.lc elt (.nm i) it ifs [i]) s = .ok (.own (.lst (l.filterMap h))) s := by
  have e : ∀ x, wipeE (s.set i (.pub x)) [i] = wipeE s [i] := fun x => by simp [wipeE, S.set, List.set_set]
  refine lc_pure f l h (fun x => s.set i (.pub (f x))) [] hit (fun k hk => by rw [show k = i by simpa using hk]; exact hi) hl (fun x _ => ?_) body (fun x _ => e (f x)) fun t ht => unlend_nil ht
  show some ((s.set i .non).set i (.pub (f x))) = _
  simp [S.set, List.set_set]
theorem lcR (n : Nat) (h : Nat → Option D) (hit : evI P run it s = .ok (rangeD 0 n, []) s) (hi : s.get i = .non ∨ ∃ d, s.get i = .pub d) (hl : n ≤ 100000) (body : ∀ x < n, lcB P run elt ifs (s.set i (.pub (.int x))) = .ok (h x) (s.set i (.pub (.int x)))) :
    evE P run (.lc elt (.nm i) it ifs [i]) s = .ok (.own (.lst ((List.range n).filterMap h))) s :=
  lc1 (fun x : Nat => .int x) (List.range n) h (by rw [hit, range0]) hi (by simpa using hl) fun x hx => body x (List.mem_range.mp hx)
/-- one name, a name's own list is walked -/
theorem lc1own {α : Type} (f : α → D) (l : List α) (h : α → Option D) (hj : s.get j = .own (.lst (l.map f))) (hij : j ≠ i) (hi : s.get i = .non ∨ ∃ d, s.get i = .pub d) (hl : l.length ≤ 100000)
    (body : ∀ x ∈ l, lcB P run elt ifs ((s.set j (.lent (.lst (l.map f)))).set i (.pub (f x))) = .ok (h x) ((s.set j (.lent (.lst (l.map f)))).set i (.pub (f x)))) :
    evE P run (.lc elt (.nm i) (.seq (.loc j)) ifs [i]) s = .ok (.own (.lst (l.filterMap h))) s := by
  generalize hxs : l.map f = xs at hj body
  have hjl : j < s.env.length := S.get_lt (by rw [hj]; exact fun z => nomatch z)
  have ho : ownIn s [j] = [j] := by simp [ownIn, hj]
  have hle : lend s (ownIn s [j]) = s.set j (.lent (.lst xs)) := by rw [ho]; simp [lend, hj]
  have e : ∀ x, wipeE ((s.set j (.lent (.lst xs))).set i (.pub x)) [i] = wipeE (s.set j (.lent (.lst xs))) [i] := fun x => by simp [wipeE, S.set, List.set_set]
  refine lc_pure f l h (fun x => (s.set j (.lent (.lst xs))).set i (.pub (f x))) [j] ?_ (fun k hk => by rw [show k = i by simpa using hk]; exact hi) hl (fun x _ => ?_) body (fun x _ => by rw [hle]; exact e (f x)) fun t ht => ?_
  · rw [hxs]; simp [locV, hj, itD, rdat, itemsOf, brwOf]
  · rw [hle]
    show some (((s.set j (.lent (.lst xs))).set i .non).set i (.pub (f x))) = _
    simp [S.set, List.set_set]
  · rw [hle] at ht
    rw [ho]
    obtain ⟨a1, a2, a3⟩ := wipeE_get t [i]
    obtain ⟨b1, b2, b3⟩ := wipeE_get (s.set j (.lent (.lst xs))) [i]
    have hlen : s.env.length = t.env.length := by rw [← a2, ht, b2, S.len_set]
    obtain ⟨r1, r2, r3⟩ := restoreE_get s t hlen [i]
    have gj : (restoreE s t [i]).get j = .lent (.lst xs) := by
      rw [(r3 j).1 (by simpa using hij), ← (a3 j).1 (by simpa using hij), ht, (b3 j).1 (by simpa using hij), S.get_eq hjl]
    have hu : unlend (restoreE s t [i]) [j] = (restoreE s t [i]).set j (.own (.lst xs)) := by simp [unlend, gj]
    rw [hu]
    refine S.ext' (by rw [S.len_set, r2, hlen]) (by show (restoreE s t [i]).cells = _; rw [r1, ← a1, ht, b1]; rfl) fun k => ?_
    by_cases hk : k = j
    · subst hk; rw [S.get_eq (by rw [r2, ← hlen]; exact hjl), hj]
    · rw [S.get_ne hk]
      by_cases hki : k = i
      · subst hki; exact (r3 k).2 (by simp)
      · rw [(r3 k).1 (by simpa using hki), ← (a3 k).1 (by simpa using hki), ht, (b3 k).1 (by simpa using hki), S.get_ne hk]
/-- one name, the cells change -/
theorem lc1cells {s0 : S} (I : Nat → List D → List (List D) → Prop) (hit : evI P run it s0 = .ok (xs, []) s) (hi : s.get i = .non ∨ ∃ d, s.get i = .pub d) (hl : xs.length ≤ 100000) (h0 : I 0 [] s.cells)
    (body : ∀ j x acc cs, xs[j]? = some x → I j acc cs → ∃ o cs', lcB P run elt ifs { s.set i (.pub x) with cells := cs } = .ok o { s.set i (.pub x) with cells := cs' } ∧ I (j + 1) (acc ++ o.toList) cs') :
    ∃ ys cs', evE P run (.lc elt (.nm i) it ifs [i]) s0 = .ok (.own (.lst ys)) { s with cells := cs' } ∧ I xs.length ys cs' := by
  rw [e_lcT, hit, bind_ok]
  simp only [pubOwn_same (own := [i]) (s := s) (fun k hk => by rw [show k = i by simpa using hk]; exact hi)]
  have hL : lend s (ownIn s ([] : List Nat)) = s := rfl
  rw [hL]
  obtain ⟨ys, t', e, h⟩ := lcGo_inv (f := lcT P run elt (.nm i) ifs [i]) (fun k acc t => I k acc t.cells ∧ wipeE t [i] = { wipeE s [i] with cells := t.cells }) xs 0 [] s ⟨h0, rfl⟩ fun j x acc t hx ⟨hI, hw⟩ => by
    simp only [Nat.zero_add] at hI ⊢
    obtain ⟨o, cs', e1, e2⟩ := body j x acc t.cells hx hI
    refine ⟨o, { s.set i (.pub x) with cells := cs' }, ?_, e2, ?_⟩
    · unfold lcT
      rw [hw]
      have : tgD (.nm i) x { wipeE s [i] with cells := t.cells } = some { s.set i (.pub x) with cells := t.cells } := by
        simp [tgD, wipeE, S.set, List.set_set]
      rw [this]
      exact e1
    · simp [wipeE, S.set, List.set_set]
  simp only [Nat.zero_add, List.nil_append] at h
  have hlen := Nat.le_trans (lcGo_len e) hl
  refine ⟨ys, t'.cells, ?_, h.1⟩
  rw [e]
  simp only [Out.calm, bind_ok, if_pos hlen]
  show Out.ok _ (restoreE s t' [i]) = _
  congr 1
  obtain ⟨a1, a2, a3⟩ := wipeE_get t' [i]
  obtain ⟨b1, b2, b3⟩ := wipeE_get s [i]
  have hlen2 : s.env.length = t'.env.length := by rw [← a2, h.2]; exact b2.symm
  obtain ⟨r1, r2, r3⟩ := restoreE_get s t' hlen2 [i]
  refine S.ext' (by show _ = s.env.length; rw [r2, hlen2]) r1 fun k => ?_
  show _ = s.get k
  by_cases hk : k = i
  · subst hk; exact (r3 k).2 (by simp)
  · have hk' : k ∉ [i] := by simpa using hk
    rw [(r3 k).1 hk', ← (a3 k).1 hk', h.2]
    exact (b3 k).1 hk'
/-- two names, pairs are walked -/
theorem lc2 {α : Type} (f f2 : α → D) (l : List α) (h : α → Option D) (hij : i ≠ j) (hit : evI P run it s = .ok (l.map fun a => .tup [f a, f2 a], []) s) (hi : s.get i = .non ∨ ∃ d, s.get i = .pub d) (hj : s.get j = .non ∨ ∃ d, s.get j = .pub d) (hl : l.length ≤ 100000)
    (body : ∀ a ∈ l, lcB P run elt ifs ((s.set i (.pub (f a))).set j (.pub (f2 a))) = .ok (h a) ((s.set i (.pub (f a))).set j (.pub (f2 a)))) :
    evE P run (.lc elt (.tup [.nm i, .nm j]) it ifs [i, j]) s = .ok (.own (.lst (l.filterMap h))) s := by
  have key2 : ∀ (s : S) (a b : Sl), (((s.set j .non).set i .non).set i a).set j b = (s.set i a).set j b := fun s a b => by
    rw [S.set_set, S.set_comm (Ne.symm hij), S.set_set]
  have hs : ∀ p : α, wipeE ((s.set i (.pub (f p))).set j (.pub (f2 p))) [i, j] = wipeE s [i, j] := fun p => by
    show (((s.set i (.pub (f p))).set j (.pub (f2 p))).set j .non).set i .non = (s.set j .non).set i .non
    rw [S.set_set, S.set_comm hij, S.set_set]
  refine lc_pure (fun a => .tup [f a, f2 a]) l h (fun a => (s.set i (.pub (f a))).set j (.pub (f2 a))) [] hit (fun k hk => ?_) hl (fun x hx => ?_) body (fun x hx => hs x) fun t ht => unlend_nil ht
  · rcases List.mem_cons.mp hk with rfl | hk
    · exact hi
    · rw [show k = j by simpa using hk]; exact hj
  · show (some ((((s.set j .non).set i .non).set i (.pub (f x))).set j (.pub (f2 x)))) = _
    rw [key2]
end
end Py
end SM2
section SM3
set_option autoImplicit false
set_option linter.all false
set_option maxRecDepth 100000
set_option maxHeartbeats 4000000
/-! Running the evaluator: numbers as naturals, loops by invariants. -/
namespace Py
open PySem (CmpOp Operator UnaryOp)
/-! ### numbers -/
def p2 (n : Nat) : Nat := 2 ^ n
def sl (a n : Nat) : Nat := a * 2 ^ n
def sr (a n : Nat) : Nat := a / 2 ^ n
def m2 (a : Nat) : Nat := a % 2
def on (p i : Nat) : Bool := m2 (sr p i) != 0
theorem onI (p i : Nat) : (((m2 (sr p i) : Nat) : Int) != 0) = on p i := by
  unfold on
  rw [Bool.eq_iff_iff]
  simp
theorem nShl1 (n : Nat) (h : n ≤ 100000) : binop .LShift (.int 1) (.int (n : Int)) = some (.d (.int (p2 n : Nat))) := by
  rw [bo_shl, if_pos ⟨by omega, by omega, by decide⟩]
  simp [p2]
theorem nShl (a n : Nat) (h : n ≤ 100000) (ha : a < 18446744073709551616) : binop .LShift (.int (a : Int)) (.int (n : Int)) = some (.d (.int (sl a n : Nat))) := by
  rw [bo_shl, if_pos ⟨by omega, by omega, by omega⟩]
  simp [sl]
theorem nShr (a n : Nat) : binop .RShift (.int (a : Int)) (.int (n : Int)) = some (.d (.int (sr a n : Nat))) := by
  rw [bo_shr, if_pos (by omega)]
  simp [sr]
theorem m2_eq (p i : Nat) : m2 (sr p i) = (p.testBit i).toNat := by
  unfold m2 sr
  rw [Nat.testBit_eq_decide_div_mod_eq]
  have : p / 2 ^ i % 2 < 2 := Nat.mod_lt _ (by decide)
  by_cases h : p / 2 ^ i % 2 = 1
  · simp [h]
  · have : p / 2 ^ i % 2 = 0 := by omega
    simp [this]
theorem on_bit (p i : Nat) : on p i = p.testBit i := by
  unfold on
  rw [m2_eq]
  cases p.testBit i <;> rfl
theorem m2_0 (p i : Nat) : (m2 (sr p i) == 0) = !p.testBit i := by
  rw [m2_eq]
  cases p.testBit i <;> rfl
theorem rangeN (n : Nat) (h : n < 4611686018427387904) : rangeOf [.int (n : Int)] = some (rangeD 0 n) := by
  have : small62 (n : Int) = true := decide_eq_true (by simpa using h)
  simp [rangeOf, this]
theorem rg_len (lo : Int) : ∀ n : Nat, (rangeD lo n).length = n := rangeD_length lo
/-! ### sorting -/
def sortU (ns : List Int) : List Int := sortI ns.eraseDups
theorem sortU_ok (ns : List Int) : (sortU ns).Pairwise (· < ·) ∧ ∀ z, z ∈ sortU ns ↔ z ∈ ns :=
  ⟨sortI_lt (nodup_eraseDups _ ns (Nat.le_refl _)), fun z => by unfold sortU; rw [sortI_mem', mem_eraseDups']⟩
theorem toI_map (ns : List Int) : toI (ns.map D.int) = some ns := by induction ns <;> simp_all [toI]
theorem bi_sorted (ns : List Int) : biOp .sorted [.lst (ns.map D.int)] = some (.own (.lst ((sortI ns).map D.int))) := by simp only [biOp, toI_map]
theorem bi_sortedSet (ns : List Int) (h : ns.length < 64) : biOp .sortedSet [.lst (ns.map D.int)] = some (.own (.lst ((sortU ns).map D.int))) := by
  simp only [biOp, toI_map, if_pos h, sortU]
section
variable {P : Prog} {run : Run} {lp : (S → Out (Option Fl)) → S → Out Fl} {s s0 t : S} {own : List Nat} {tg : Tg} {it : It} {ifs : List E} {elt : E} {xs : List D} {i j : Nat} {e c : E} {b : List T}
/-! ### more rules -/
@[simp] theorem k_and_int (b : E) (z : Int) (s1 : S) : kAnd P run b (.d (.int z)) s1 = bif z != 0 then evE P run b s1 else .ok (.d (.int z)) s1 := by
  unfold kAnd; simp only [rd_d, Option.bind_some, tr_int]; cases z != 0 <;> rfl
@[simp] theorem k_or_int (b : E) (z : Int) (s1 : S) : kOr P run b (.d (.int z)) s1 = bif z != 0 then .ok (.d (.int z)) s1 else evE P run b s1 := by
  unfold kOr; simp only [rd_d, Option.bind_some, tr_int]; cases z != 0 <;> rfl
@[simp] theorem k_if_int (a b : E) (z : Int) (s1 : S) : kIf P run a b (.d (.int z)) s1 = bif z != 0 then evE P run a s1 else evE P run b s1 := by
  unfold kIf; simp only [rd_d, Option.bind_some, tr_int]; cases z != 0 <;> rfl
@[simp] theorem k_c_int (es : List E) (z : Int) (s1 : S) : kC P run es (.d (.int z)) s1 = bif z != 0 then evC P run es s1 else .ok false s1 := by
  unfold kC; simp only [rd_d, Option.bind_some, tr_int]; cases z != 0 <;> rfl
@[simp] theorem kIte_int (a b : List T) (z : Int) (s1 : S) : kIte lp P run a b (.d (.int z)) s1 = bif z != 0 then exTs lp P run a s1 else exTs lp P run b s1 := by
  unfold kIte; simp only [rd_d, Option.bind_some, tr_int]; cases z != 0 <;> rfl
def kFld (f : Nat) (x : RV) (s1 : S) : Out RV := match x with
    | .brw i => (match s1.get i with
      | .new _ fs => Out.of ((fs.lookup f).map .d) s1
      | _ => .stuck)
    | .d (.obj _ fs) => Out.of ((fs.lookup f).map .d) s1
    | _ => .stuck
@[simp] theorem e_fld' (a : E) (f : Nat) : evE P run (.fld a f) s = (evE P run a s).bind (kFld f) := by simp only [evE] <;> rfl
@[simp] theorem kFld_obj (f q : Nat) (fs : List (Nat × D)) (s1 : S) : kFld f (.d (.obj q fs)) s1 = Out.of ((fs.lookup f).map .d) s1 := Eq.trans rfl rfl
@[simp] theorem e_mk' (q : Nat) (es : List E) : evE P run (.mk q es) s = (evEs P run es s).bind (mkU P run q) := by simp only [evE]
@[simp] theorem e_cmp2' (op op' : CmpOp) (a b c : E) : evE P run (.cmp2 op op' a b c) s = (evE P run a s).bind fun x s1 => (evE P run b s1).bind fun y s2 => match (rdat s2 x).bind fun u => (rdat s2 y).bind fun v => cmpOp op u v with
    | some true => (evE P run c s2).bind fun z s3 => Out.of ((rdat s3 y).bind fun u => (rdat s3 z).bind fun v => (cmpOp op' u v).map fun r => .d (.bl r)) s3
    | some false => .ok (.d (.bl false)) s2
    | none => .stuck := by simp only [evE] <;> rfl
def kPop (i : Nat) (o : Option Int) (s1 : S) : Out RV := match s1.get i with
        | .own (.lst xs) => if xs.length ≤ 100000 then (match atI xs (o.getD (-1)) with
          | some x => .ok (.d x) (s1.set i (.own (.lst (xs.eraseIdx ((ixN xs.length (o.getD (-1))).getD 0)))))
          | none => .stuck) else .stuck
        | _ => .stuck
@[simp] theorem e_pop' (i : Nat) (e : Option E) : evE P run (.pop i e) s = if !isOwnL (s.get i) then .stuck else (evO P run e s).bind (kPop i) := by simp only [evE] <;> rfl
@[simp] theorem e_ofIt' (b : Bi) (it : It) : evE P run (.ofIt b it) s = (evI P run it s).bind fun p s1 => match b with
    | .list => if p.1.length ≤ 100000 then .ok (.own (.lst p.1)) s1 else .stuck
    | .tuple => if p.1.length ≤ 100000 then .ok (.d (.tup p.1)) s1 else .stuck
    | _ => .stuck := by simp only [evE] <;> rfl
def kExt (i : Nat) (r : RV) (s1 : S) : Out Fl := match r, s1.get i with
    | .own (.lst ys), .own (.lst xs) => if xs.length + ys.length ≤ 100000 then .ok .nx (s1.set i (.own (.lst (xs ++ ys)))) else .stuck
    | _, _ => .stuck
@[simp] theorem t_ext (i : Nat) (e : E) : exT lp P run (.ext i e) s = if !isOwnL (s.get i) then .stuck else (evE P run e s).bind (kExt i) := by simp only [exT] <;> rfl
def kSF (i f : Nat) (r : RV) (s1 : S) : Out Fl := match esc s1 r with
    | none => .stuck
    | some p => (match p.2.get i with
      | .new c fs => if fs.length < 100 && (fs.lookup f).isNone then .ok .nx (p.2.set i (.new c (fs ++ [(f, p.1)]))) else .stuck
      | _ => .stuck)
@[simp] theorem t_setF (i f : Nat) (e : E) : exT lp P run (.setF i f e) s = (evE P run e s).bind (kSF i f) := by simp only [exT] <;> rfl
@[simp] theorem t_brk : exT lp P run .brk s = .ok .brk s := by simp only [exT]
@[simp] theorem t_cont : exT lp P run .cont s = .ok .cnt s := by simp only [exT]
@[simp] theorem t_pass : exT lp P run .pass s = .ok .nx s := by simp only [exT]
def kB (lp : (S → Out (Option Fl)) → S → Out Fl) (P : Prog) (run : Run) (f : Nat) (x y : List T) (r : RV) (s1 : S) : Out Fl := match r with
    | .own (.lst xs) => if xs.all flat then (match run f [.cell s1.cells.length] (s1.cells ++ [xs]) with
        | .ok (.d (.bl b)) cs => if b then exTs lp P run x { s1 with cells := cs } else exTs lp P run y { s1 with cells := cs }
        | .exc c fs cs => .exc c fs { s1 with cells := cs }
        | _ => .stuck) else .stuck
    | _ => .stuck
@[simp] theorem t_iteB (f : Nat) (a : E) (x y : List T) : exT lp P run (.iteB f a x y) s = (evE P run a s).bind (kB lp P run f x y) := by simp only [exT] <;> rfl
/-- a while's turn -/
def whT (lp : (S → Out (Option Fl)) → S → Out Fl) (P : Prog) (run : Run) (c : E) (b : List T) (u : S) : Out (Option Fl) := (evE P run c u).bind fun x u1 => match (rdat u1 x).bind truthy with
      | some true => (exTs lp P run b u1).bind fun fl u2 => .ok (match fl with
        | .nx => none
        | .cnt => none
        | .brk => some .nx
        | .ret r => some (.ret r)) u2
      | some false => .ok (some .nx) u1
      | none => .stuck
@[simp] theorem t_while (c : E) (b : List T) : exT lp P run (.while_ c b) s = lp (whT lp P run c b) s := by simp only [exT] <;> rfl
theorem whT_go {t : S} (hc : evE P run c s = .ok (.d (.bl true)) s) (hb : exTs lp P run b s = .ok .nx t) : whT lp P run c b s = .ok none t := by
  unfold whT; rw [hc]; simp only [bind_ok, rd_d, Option.bind_some, tr_bl]; rw [hb]; rfl
theorem whT_end (hc : evE P run c s = .ok (.d (.bl false)) s) : whT lp P run c b s = .ok (some .nx) s := by
  unfold whT; rw [hc]; rfl
theorem while_inv {step : S → Out (Option Fl)} (I : Nat → S → Prop) : (∀ m s, I (m + 1) s → ∃ s', step s = .ok none s' ∧ I m s') → (∀ s, I 0 s → step s = .ok (some .nx) s) → ∀ (n : Nat) (s : S), I n s → ∃ s', whileL step s = .ok .nx s' ∧ I 0 s'
  | _, h2, 0, s, h => ⟨s, by rw [whileL_eq, h2 s h], h⟩
  | h1, h2, n + 1, s, h => by
    obtain ⟨s1, e, hs⟩ := h1 n s h
    obtain ⟨s', e', h'⟩ := while_inv I h1 h2 n s1 hs
    exact ⟨s', by rw [whileL_eq, e]; exact e', h'⟩
/-! ### for -/
theorem for_go (l : List D) (I : Nat → S → Prop) (h0 : I 0 s) (st : ∀ m (hm : m < l.length) (u : S), I m u → ∃ u', (exTs lp P run b (u.set i (.pub l[m])) = .ok .nx u' ∨ exTs lp P run b (u.set i (.pub l[m])) = .ok .cnt u') ∧ I (m + 1) u') :
    ∃ s', forGo (forT lp P run (.nm i) b) l s = .ok .nx s' ∧ I l.length s' := by
  obtain ⟨t', e, h⟩ := forGo_inv (f := forT lp P run (.nm i) b) I l 0 s h0 fun m x u hx hu => by
    obtain ⟨hm, rfl⟩ := List.getElem?_eq_some_iff.mp hx
    rw [Nat.zero_add] at hu ⊢
    exact st m hm u hu
  exact ⟨t', e, by simpa using h⟩
/-- for i in a value that nobody owns -/
theorem for_new (I : Nat → S → Prop) (he : evE P run e s0 = .ok (.own (.lst xs)) s ∨ evE P run e s0 = .ok (.d (.lst xs)) s) (h0 : I 0 s)
    (st : ∀ m (hm : m < xs.length) (u : S), I m u → ∃ u', (exTs lp P run b (u.set i (.pub xs[m])) = .ok .nx u' ∨ exTs lp P run b (u.set i (.pub xs[m])) = .ok .cnt u') ∧ I (m + 1) u') :
    ∃ s', exT lp P run (.for_ (.nm i) (.seq e) b) s0 = .ok .nx s' ∧ I xs.length s' := by
  obtain ⟨s', e', h⟩ := for_go xs I h0 st
  refine ⟨s', ?_, h⟩
  have hi : evI P run (.seq e) s0 = .ok (xs, []) s := by
    rw [i_seq']
    rcases he with he | he <;> rw [he] <;> rfl
  rw [t_forT, hi, bind_ok]
  show (forGo _ xs s).ends _ = _
  rw [e']; rfl
/-- for i in a name's own list -/
theorem for_own {k : Nat} (I : Nat → S → Prop) (hk : s.get k = .own (.lst xs)) (h0 : I 0 (s.set k (.lent (.lst xs)))) (hend : ∀ u, I xs.length u → u.get k = .lent (.lst xs))
    (st : ∀ m (hm : m < xs.length) (u : S), I m u → ∃ u', (exTs lp P run b (u.set i (.pub xs[m])) = .ok .nx u' ∨ exTs lp P run b (u.set i (.pub xs[m])) = .ok .cnt u') ∧ I (m + 1) u') :
    ∃ s', exT lp P run (.for_ (.nm i) (.seq (.loc k)) b) s = .ok .nx (s'.set k (.own (.lst xs))) ∧ I xs.length s' := by
  obtain ⟨s', e', h⟩ := for_go xs I h0 st
  refine ⟨s', ?_, h⟩
  have hi : evI P run (.seq (.loc k)) s = .ok (xs, [k]) s := by
    rw [i_seq', e_loc', locV, hk]
    simp [itD, rdat, hk, itemsOf, brwOf]
  have ho : ownIn s [k] = [k] := by simp [ownIn, hk]
  rw [t_forT, hi, bind_ok]
  simp only [ho]
  rw [show lend s [k] = s.set k (.lent (.lst xs)) by simp [lend, hk], e']
  have := hend s' h
  show Out.ok Fl.nx (unlend s' [k]) = _
  simp [unlend, this]
theorem i_rangeN {c : Nat} (hn : c ≤ 1000000) (he : evE P run e s0 = .ok (.d (.int (c : Nat))) s) : evI P run (.range [e]) s0 = .ok (rangeD 0 c, []) s := by
  simp [i_range', he, rangeN c (by omega)]
/-- for i in range(c) -/
theorem for_range {c : Nat} (I : Nat → S → Prop) (hn : c ≤ 1000000) (he : evE P run e s0 = .ok (.d (.int (c : Nat))) s) (h0 : I 0 s)
    (st : ∀ m (u : S), m < c → I m u → ∃ u', (exTs lp P run b (u.set i (.pub (.int (m : Nat)))) = .ok .nx u' ∨ exTs lp P run b (u.set i (.pub (.int (m : Nat)))) = .ok .cnt u') ∧ I (m + 1) u') :
    ∃ s', exT lp P run (.for_ (.nm i) (.range [e]) b) s0 = .ok .nx s' ∧ I c s' := by
  obtain ⟨s', e', h⟩ := for_go (lp := lp) (P := P) (run := run) (i := i) (b := b) (rangeD 0 c) I h0 fun m hm u hu => by
    rw [rg_len] at hm
    have : (rangeD 0 c)[m]'(by rw [rg_len]; exact hm) = .int (m : Nat) := by simp [range0]
    rw [this]
    exact st m u hm hu
  rw [rg_len] at h
  refine ⟨s', ?_, h⟩
  rw [t_forT, i_rangeN hn he, bind_ok]
  show (forGo _ (rangeD 0 c) s).ends _ = _
  rw [e']; rfl
/-- for i in range(c): the first that returns -/
theorem for_find {c : Nat} (I : S → Prop) (p : Nat → Bool) (g : Nat → RV) (hn : c ≤ 1000000) (he : evE P run e s0 = .ok (.d (.int (c : Nat))) s) (h0 : I s)
    (go : ∀ m (u : S), m < c → I u → p m = false → ∃ u', (exTs lp P run b (u.set i (.pub (.int (m : Nat)))) = .ok .nx u' ∨ exTs lp P run b (u.set i (.pub (.int (m : Nat)))) = .ok .cnt u') ∧ I u')
    (hit : ∀ m (u : S), m < c → I u → p m = true → ∃ u', exTs lp P run b (u.set i (.pub (.int (m : Nat)))) = .ok (.ret (g m)) u' ∧ I u') :
    (∃ m s', ((List.range c).filter p).head? = some m ∧ exT lp P run (.for_ (.nm i) (.range [e]) b) s0 = .ok (.ret (g m)) s' ∧ I s') ∨ ((List.range c).filter p = [] ∧ ∃ s', exT lp P run (.for_ (.nm i) (.range [e]) b) s0 = .ok .nx s' ∧ I s') := by
  have key : ∀ (l : List Nat) (s : S), (∀ m ∈ l, m < c) → I s → (∃ m s', (l.filter p).head? = some m ∧ forGo (forT lp P run (.nm i) b) (l.map fun (m : Nat) => D.int (m : Nat)) s = .ok (.ret (g m)) s' ∧ I s') ∨ (l.filter p = [] ∧ ∃ s', forGo (forT lp P run (.nm i) b) (l.map fun (m : Nat) => D.int (m : Nat)) s = .ok .nx s' ∧ I s') := by
    intro l
    induction l with
    | nil => intro s _ h; exact .inr ⟨rfl, s, rfl, h⟩
    | cons m l ih =>
      intro s hl h
      have hm := hl m List.mem_cons_self
      cases q : p m with
      | true =>
        obtain ⟨u', e, h'⟩ := hit m s hm h q
        refine .inl ⟨m, u', by rw [List.filter_cons, q]; rfl, ?_, h'⟩
        have e : forT lp P run (.nm i) b (.int (m : Nat)) s = .ok (.ret (g m)) u' := e
        simp only [List.map_cons, forGo, e, bind_ok]
      | false =>
        obtain ⟨u', e, h'⟩ := go m s hm h q
        have e : forT lp P run (.nm i) b (.int (m : Nat)) s = .ok .nx u' ∨ forT lp P run (.nm i) b (.int (m : Nat)) s = .ok .cnt u' := e
        have ih := ih u' (fun k hk => hl k (List.mem_cons_of_mem _ hk)) h'
        have e2 : forGo (forT lp P run (.nm i) b) ((m :: l).map fun (m : Nat) => D.int (m : Nat)) s = forGo (forT lp P run (.nm i) b) (l.map fun (m : Nat) => D.int (m : Nat)) u' := by
          rcases e with e | e <;> simp only [List.map_cons, forGo, e, bind_ok]
        rw [e2, List.filter_cons, q]
        exact ih
  have ex : ∀ o, forGo (forT lp P run (.nm i) b) ((List.range c).map fun (m : Nat) => D.int (m : Nat)) s = o → exT lp P run (.for_ (.nm i) (.range [e]) b) s0 = o.ends fun t => t := fun o ho => by
    rw [t_forT, i_rangeN hn he, bind_ok, range0]
    show (forGo _ _ s).ends _ = _
    rw [ho]; rfl
  rcases key (List.range c) s (fun m hm => List.mem_range.mp hm) h0 with ⟨m, s', h1, h2, h3⟩ | ⟨h1, s', h2, h3⟩
  · exact .inl ⟨m, s', h1, ex _ h2, h3⟩
  · exact .inr ⟨h1, s', ex _ h2, h3⟩
/-- one name, what is walked is made ahead -/
theorem lc1s {α : Type} (f : α → D) (l : List α) (h : α → Option D) (hit : evI P run it s0 = .ok (l.map f, []) s) (hi : s.get i = .non ∨ ∃ d, s.get i = .pub d) (hl : l.length ≤ 100000) (body : ∀ x ∈ l, lcB P run elt ifs (s.set i (.pub (f x))) = .ok (h x) (s.set i (.pub (f x)))) :
    evE P run (.lc elt (.nm i) it ifs [i]) s0 = .ok (.own (.lst (l.filterMap h))) s := by
  have hc : evI P run (.seq (.con (.lst (l.map f)))) s = .ok (l.map f, []) s := by
    rw [i_seq', e_con', bind_ok]; rfl
  have h1 := lc1 (P := P) (run := run) (elt := elt) (ifs := ifs) (i := i) (s := s) f l h hc hi hl body
  rw [e_lcT, hc] at h1
  rw [e_lcT, hit]
  exact h1
theorem rg_mem {c m : Nat} {x : D} (hx : (rangeD 0 c)[m]? = some x) : m < c ∧ x = .int (m : Nat) := by
  obtain ⟨h1, h2⟩ := List.getElem?_eq_some_iff.mp hx
  rw [rg_len] at h1
  refine ⟨h1, ?_⟩
  rw [← h2]
  simp [range0]
theorem ss_step {t : T} {ts : List T} {s1 : S} (h : exT lp P run t s = .ok .nx s1) : exTs lp P run (t :: ts) s = exTs lp P run ts s1 := by rw [s_cons, h, bind_ok, k_nx]
theorem ite_skip {a : List T} {ts : List T} (h : evE P run c s = .ok (.d (.bl false)) s) : exTs lp P run (.ite c a [] :: ts) s = exTs lp P run ts s := by
  rw [s_cons, t_ite, h, bind_ok, kIte_bl]
  show (exTs lp P run [] s).bind _ = _
  rw [s_nil, bind_ok, k_nx]
theorem ite_take {a b : List T} {ts : List T} {r : RV} {s1 : S} (h : evE P run c s = .ok (.d (.bl true)) s) (e : exTs lp P run a s = .ok (.ret r) s1) : exTs lp P run (.ite c a b :: ts) s = .ok (.ret r) s1 := by
  rw [s_cons, t_ite, h, bind_ok, kIte_bl]
  show (exTs lp P run a s).bind _ = _
  rw [e, bind_ok, k_ret]
end
end Py
end SM3
section STxt
set_option maxRecDepth 100000
set_option maxHeartbeats 0
set_option linter.all false
set_option Elab.async false
open PySem L2 Py
namespace K19
open Py
/-- _wall -/
def f0 : Fn := ⟨1, 1, []⟩
/-- InvalidCount.__init__ -/
def f1 : Fn := ⟨2, 2, []⟩
/-- InvalidPoint.__init__ -/
def f2 : Fn := ⟨2, 2, []⟩
/-- InvalidTable.__init__ -/
def f3 : Fn := ⟨2, 2, []⟩
/-- is_integer -/
def f4 : Fn := ⟨1, 1, [.ret (some (.and (.isi (.loc 0) [.int]) (.un .Not (.isi (.loc 0) [.bool]))))]⟩
/-- is_between -/
def f5 : Fn := ⟨3, 3, [.ret (some (.and (.call 4 [.loc 0]) (.cmp2 .LtE .LtE (.loc 1) (.loc 0) (.loc 2))))]⟩
/-- full_table -/
def f6 : Fn := ⟨1, 1, [.ret (some (.bin .Sub (.bin .LShift (.con (.int 1)) (.bin .LShift (.con (.int 1)) (.loc 0))) (.con (.int 1))))]⟩
/-- check_count -/
def f7 : Fn := ⟨2, 2, [.ite (.un .Not (.call 5 [.loc 0, .con (.int 0), .loc 1])) [.dead] []]⟩
/-- Function.__init__ -/
def f8 : Fn := ⟨3, 3, [.exp (.callK 7 [.loc 1] [.inl 0, .inr (.int 6)]), .ite (.un .Not (.call 5 [.loc 2, .con (.int 0), .call 6 [.loc 1]])) [.dead] [], .setF 0 0 (.loc 1), .setF 0 1 (.loc 2)]⟩
/-- Function.__eq__ -/
def f9 : Fn := ⟨2, 2, []⟩
/-- Function.at -/
def f10 : Fn := ⟨2, 2, []⟩
/-- Function.points_with -/
def f11 : Fn := ⟨2, 2, []⟩
/-- Function.true_points -/
def f12 : Fn := ⟨1, 1, []⟩
/-- Function.false_points -/
def f13 : Fn := ⟨1, 1, []⟩
/-- first_change -/
def f14 : Fn := ⟨3, 4, [.for_ (.nm 3) (.range [.bin .LShift (.con (.int 1)) (.fld (.loc 0) 0)]) [.ite (.and (.cmp .Eq (.bin .BitAnd (.bin .RShift (.loc 3) (.loc 1)) (.con (.int 1))) (.con (.int 0))) (.cmp .Eq (.bin .BitAnd (.bin .RShift (.fld (.loc 0) 1) (.loc 3)) (.con (.int 1))) (.loc 2))) [.ite (.cmp .NotEq (.bin .BitAnd (.bin .RShift (.fld (.loc 0) 1) (.bin .BitOr (.loc 3) (.bin .LShift (.con (.int 1)) (.loc 1)))) (.con (.int 1))) (.loc 2)) [.ret (some (.loc 3))] []] []], .ret (some (.con (.non)))]⟩
/-- monotone_flips -/
def f15 : Fn := ⟨1, 2, [.ite (.isN true (.call 16 [.loc 0])) [.ret (some (.con (.non)))] [], .ret (some (.bi .tuple [.lc (.loc 1) (.nm 1) (.range [.fld (.loc 0) 0]) [.isN true (.call 14 [.loc 0, .loc 1, .con (.int 1)])] [1]]))]⟩
/-- mixed_variable -/
def f16 : Fn := ⟨1, 4, [.for_ (.nm 1) (.range [.fld (.loc 0) 0]) [.par [2, 3] [.call 14 [.loc 0, .loc 1, .con (.int 0)], .call 14 [.loc 0, .loc 1, .con (.int 1)]], .ite (.and (.isN true (.loc 2)) (.isN true (.loc 3))) [.ret (some (.tup [.loc 1, .loc 2, .loc 3]))] []], .ret (some (.con (.non)))]⟩
/-- _law_cell -/
def f17 : Fn := ⟨2, 2, [.ret (some (.ite (.cmp .Lt (.loc 1) (.bi .len [.loc 0])) (.ix (.loc 0) (.loc 1)) (.bin .Add (.bin .Mult (.con (.int 6007)) (.loc 1)) (.bin .Mod (.bi .int [.bi .sum [.sl (.loc 0) none (some (.con (.int 1)))]]) (.con (.int 1000033))))))]⟩
/-- _law_box -/
def f18 : Fn := ⟨1, 1, [.ret (some (.lst [.bi .abs [.loc 0], .cmp .GtE (.bi .abs [.loc 0]) (.bin .Pow (.con (.int 10)) (.con (.int 18))), .bin .Mod (.bi .int [.bi .abs [.loc 0]]) (.con (.int 2147483629)), .con (.int 0)]))]⟩
/-- _law_take -/
def f19 : Fn := ⟨2, 4, [.ite (.and (.ix (.loc 0) (.con (.int 1))) (.cmp .Gt (.ix (.loc 0) (.con (.int 0))) (.con (.int 0)))) [.asg (.nm 2) (.bin .Mod (.bi .int [.ix (.loc 0) (.con (.int 0))]) (.loc 1)), .setI 0 (.con (.int 0)) (.bin .FloorDiv (.ix (.loc 0) (.con (.int 0))) (.loc 1)), .ret (some (.loc 2))] [], .setI 0 (.con (.int 3)) (.bin .Add (.ix (.loc 0) (.con (.int 3))) (.con (.int 1))), .asg (.nm 3) (.bin .Mod (.bi .int [.bin .Pow (.bin .Add (.bin .Add (.ix (.loc 0) (.con (.int 2))) (.bin .Mult (.con (.int 15485863)) (.ix (.loc 0) (.con (.int 3))))) (.con (.int 179424673))) (.con (.int 5))]) (.con (.int 2147483647))), .ret (some (.bin .Mod (.bi .int [.bin .FloorDiv (.bin .Mod (.bi .int [.bin .Pow (.bin .Add (.bin .Mult (.loc 3) (.con (.int 48271))) (.bin .Mult (.con (.int 104729)) (.ix (.loc 0) (.con (.int 3))))) (.con (.int 3))]) (.con (.int 2147483587))) (.con (.int 64))]) (.loc 1)))]⟩
/-- _law_same -/
def f20 : Fn := ⟨2, 3, [.ite (.or (.isN false (.loc 1)) (.isi (.loc 1) [.bool])) [.ret (some (.ite (.isN false (.loc 1)) (.isN false (.loc 0)) (.and (.isi (.loc 0) [.bool]) (.cmp .Eq (.isB false true (.loc 0)) (.isB false true (.loc 1))))))] [], .ite (.isi (.loc 1) [.int]) [.ret (some (.and (.isi (.loc 0) [.int]) (.and (.un .Not (.isi (.loc 0) [.bool])) (.cmp .Eq (.bin .Sub (.bi .int [.loc 0]) (.loc 1)) (.con (.int 0))))))] [], .ite (.isi (.loc 1) [.str]) [.ret (some (.and (.isi (.loc 0) [.str]) (.and (.cmp .Eq (.bi .len [.loc 0]) (.bi .len [.loc 1])) (.cmp .Eq (.lc (.loc 2) (.nm 2) (.range [.bi .len [.loc 1]]) [.cmp .NotEq (.sl (.loc 0) (some (.loc 2)) (some (.bin .Add (.loc 2) (.con (.int 1))))) (.ix (.loc 1) (.loc 2))] [2]) (.lst [])))))] [], .ite (.or (.cmp .NotEq (.isi (.loc 0) [.list]) (.isi (.loc 1) [.list])) (.cmp .NotEq (.isi (.loc 0) [.tuple]) (.isi (.loc 1) [.tuple]))) [.ret (some (.con (.bl false)))] [], .ret (some (.and (.cmp .Eq (.bi .len [.loc 0]) (.bi .len [.loc 1])) (.cmp .Eq (.lc (.loc 2) (.nm 2) (.range [.bi .len [.loc 1]]) [.un .Not (.call 20 [.ix (.loc 0) (.loc 2), .ix (.loc 1) (.loc 2)])] [2]) (.lst []))))]⟩
/-- _law_full -/
def f21 : Fn := ⟨1, 1, [.ret (some (.bin .Sub (.bin .LShift (.con (.int 1)) (.bin .LShift (.con (.int 1)) (.loc 0))) (.con (.int 1))))]⟩
/-- _law_points -/
def f22 : Fn := ⟨3, 4, [.ret (some (.lc (.loc 3) (.nm 3) (.range [.bin .LShift (.con (.int 1)) (.loc 0)]) [.cmp .Eq (.bin .BitAnd (.bin .RShift (.loc 1) (.loc 3)) (.con (.int 1))) (.loc 2)] [3]))]⟩
/-- _law_weight -/
def f23 : Fn := ⟨1, 2, [.ret (some (.bi .len [.lc (.loc 1) (.nm 1) (.range [.con (.int 6)]) [.bin .BitAnd (.bin .RShift (.loc 0) (.loc 1)) (.con (.int 1))] [1]]))]⟩
/-- _law_mixed -/
def f24 : Fn := ⟨2, 4, [.par [2, 3] [.ofIt .list (.range [.loc 1]), .lst []], .while_ (.cmp .NotEq (.loc 2) (.lst [])) [.app 3 (.pop 2 (some (.call 19 [.loc 0, .bi .len [.loc 2]])))], .ret (some (.loc 3))]⟩
/-- _law_cubes -/
def f25 : Fn := ⟨1, 5, [.asg (.nm 1) (.lst [.con (.str [])]), .for_ (.nm 2) (.range [.loc 0]) [.asg (.nm 3) (.lst []), .for_ (.nm 4) (.seq (.loc 1)) [.ext 3 (.lst [.bin .Add (.loc 4) (.con (.str [48])), .bin .Add (.loc 4) (.con (.str [49])), .bin .Add (.loc 4) (.con (.str [45]))])], .asg (.nm 1) (.loc 3)], .ret (some (.loc 1))]⟩
/-- _law_inside -/
def f26 : Fn := ⟨1, 4, [.asg (.nm 1) (.lst [.con (.int 0)]), .for_ (.nm 2) (.range [.bi .len [.loc 0]]) [.ite (.cmp .Eq (.sl (.loc 0) (some (.loc 2)) (some (.bin .Add (.loc 2) (.con (.int 1))))) (.con (.str [49]))) [.asg (.nm 1) (.lc (.bin .BitOr (.loc 3) (.bin .LShift (.con (.int 1)) (.loc 2))) (.nm 3) (.seq (.loc 1)) [] [3])] [.ite (.cmp .Eq (.sl (.loc 0) (some (.loc 2)) (some (.bin .Add (.loc 2) (.con (.int 1))))) (.con (.str [45]))) [.asg (.nm 1) (.bin .Add (.loc 1) (.lc (.bin .BitOr (.loc 3) (.bin .LShift (.con (.int 1)) (.loc 2))) (.nm 3) (.seq (.loc 1)) [] [3]))] []]], .ret (some (.bi .sorted [.loc 1]))]⟩
/-- _law_closed_up -/
def f27 : Fn := ⟨2, 5, [.asg (.nm 2) (.loc 1), .for_ (.nm 3) (.range [.loc 0]) [.for_ (.nm 4) (.range [.bin .LShift (.con (.int 1)) (.loc 0)]) [.ite (.bin .BitAnd (.bin .RShift (.loc 2) (.loc 4)) (.con (.int 1))) [.asg (.nm 2) (.bin .BitOr (.loc 2) (.bin .LShift (.con (.int 1)) (.bin .BitOr (.loc 4) (.bin .LShift (.con (.int 1)) (.loc 3)))))] []]], .ret (some (.loc 2))]⟩
/-- _law_by_weights -/
def f28 : Fn := ⟨3, 6, [.asg (.nm 3) (.con (.int 0)), .for_ (.nm 4) (.range [.bin .LShift (.con (.int 1)) (.loc 0)]) [.ite (.cmp .GtE (.bi .sum [.lc (.ix (.loc 1) (.loc 5)) (.nm 5) (.range [.loc 0]) [.bin .BitAnd (.bin .RShift (.loc 4) (.loc 5)) (.con (.int 1))] [5]]) (.loc 2)) [.asg (.nm 3) (.bin .BitOr (.loc 3) (.bin .LShift (.con (.int 1)) (.loc 4)))] []], .ret (some (.loc 3))]⟩
/-- _law_by_terms -/
def f29 : Fn := ⟨2, 4, [.ret (some (.bi .sum [.lc (.bin .LShift (.con (.int 1)) (.loc 2)) (.nm 2) (.range [.bin .LShift (.con (.int 1)) (.loc 0)]) [.bin .BitAnd (.bi .len [.lc (.loc 3) (.nm 3) (.seq (.loc 1)) [.cmp .Eq (.bin .BitAnd (.loc 3) (.un .Invert (.loc 2))) (.con (.int 0))] [3]]) (.con (.int 1))] [2]]))]⟩
/-- _law_by_parts -/
def f30 : Fn := ⟨2, 9, [.asg (.nm 2) (.lc (.lst [.bin .LShift (.con (.int 1)) (.loc 4), .bi .sum [.lc (.bin .LShift (.con (.int 1)) (.loc 3)) (.nm 3) (.range [.bin .LShift (.con (.int 1)) (.loc 1)]) [.bin .BitAnd (.bin .RShift (.loc 3) (.loc 4)) (.con (.int 1))] [3]]]) (.nm 4) (.range [.loc 1]) [] [4]), .while_ (.cmp .Gt (.bi .len [.loc 2]) (.con (.int 1))) [.asg (.nm 5) (.pop 2 (some (.call 19 [.loc 0, .bi .len [.loc 2]]))), .asg (.nm 6) (.pop 2 (some (.call 19 [.loc 0, .bi .len [.loc 2]]))), .asg (.nm 7) (.call 19 [.loc 0, .con (.int 5)]), .asg (.nm 8) (.ite (.cmp .Lt (.loc 7) (.con (.int 2))) (.bin .BitAnd (.ix (.loc 5) (.con (.int 1))) (.ix (.loc 6) (.con (.int 1)))) (.ite (.cmp .Lt (.loc 7) (.con (.int 4))) (.bin .BitOr (.ix (.loc 5) (.con (.int 1))) (.ix (.loc 6) (.con (.int 1)))) (.bin .BitXor (.ix (.loc 5) (.con (.int 1))) (.ix (.loc 6) (.con (.int 1)))))), .ite (.cmp .Eq (.call 19 [.loc 0, .con (.int 3)]) (.con (.int 0))) [.asg (.nm 8) (.bin .BitXor (.loc 8) (.call 21 [.loc 1]))] [], .app 2 (.lst [.bin .BitOr (.ix (.loc 5) (.con (.int 0))) (.ix (.loc 6) (.con (.int 0))), .loc 8])], .ret (some (.ite (.cmp .NotEq (.loc 2) (.lst [])) (.ix (.ix (.loc 2) (.con (.int 0))) (.con (.int 1))) (.call 19 [.loc 0, .con (.int 2)])))]⟩
/-- _law_drawn -/
def f31 : Fn := ⟨2, 13, [.asg (.nm 2) (.call 19 [.loc 0, .con (.int 10)]), .ite (.cmp .Lt (.loc 2) (.con (.int 2))) [.asg (.nm 3) (.con (.int 0)), .for_ (.nm 4) (.range [.bin .LShift (.con (.int 1)) (.loc 1)]) [.asg (.nm 3) (.bin .BitOr (.loc 3) (.bin .LShift (.call 19 [.loc 0, .con (.int 2)]) (.loc 4)))], .ret (some (.loc 3))] [], .ite (.cmp .Eq (.loc 2) (.con (.int 2))) [.ret (some (.bi .sum [.lc (.bin .LShift (.con (.int 1)) (.loc 4)) (.nm 4) (.seq (.bi .sorted [.sl (.call 24 [.loc 0, .bin .LShift (.con (.int 1)) (.loc 1)]) none (some (.call 19 [.loc 0, .con (.int 5)]))])) [] [4]]))] [], .ite (.cmp .Lt (.loc 2) (.con (.int 5))) [.asg (.nm 5) (.lc (.call 19 [.loc 0, .bin .LShift (.con (.int 1)) (.loc 1)]) (.nm 6) (.range [.bin .Add (.con (.int 1)) (.call 19 [.loc 0, .con (.int 5)])]) [] [6]), .ret (some (.call 27 [.loc 1, .bi .sum [.lc (.bin .LShift (.con (.int 1)) (.loc 4)) (.nm 4) (.seq (.bi .sortedSet [.loc 5])) [] [4]]]))] [], .ite (.cmp .Eq (.loc 2) (.con (.int 5))) [.asg (.nm 7) (.lc (.bin .Sub (.call 19 [.loc 0, .con (.int 11)]) (.con (.int 4))) (.nm 8) (.range [.loc 1]) [] [8]), .ret (some (.call 28 [.loc 1, .loc 7, .bin .Sub (.call 19 [.loc 0, .con (.int 12)]) (.con (.int 3))]))] [], .ite (.cmp .Eq (.loc 2) (.con (.int 6))) [.asg (.nm 9) (.lc (.loc 10) (.nm 10) (.range [.bin .LShift (.con (.int 1)) (.loc 1)]) [.and (.cmp .Lt (.call 23 [.loc 10]) (.con (.int 3))) (.cmp .Eq (.call 19 [.loc 0, .con (.int 3)]) (.con (.int 0)))] [10]), .ret (some (.call 29 [.loc 1, .loc 9]))] [], .ite (.cmp .Eq (.loc 2) (.con (.int 7))) [.ret (some (.call 30 [.loc 0, .loc 1]))] [], .ite (.cmp .Eq (.loc 2) (.con (.int 8))) [.asg (.nm 11) (.lc (.call 19 [.loc 0, .con (.int 2)]) (.nm 6) (.range [.bin .Add (.loc 1) (.con (.int 1))]) [] [6]), .ret (some (.bi .sum [.lc (.bin .LShift (.con (.int 1)) (.loc 4)) (.nm 4) (.range [.bin .LShift (.con (.int 1)) (.loc 1)]) [.cmp .Eq (.ix (.loc 11) (.call 23 [.loc 4])) (.con (.int 1))] [4]]))] [], .par [3, 12] [.con (.int 0), .call 25 [.loc 1]], .for_ (.nm 6) (.range [.bin .Add (.con (.int 1)) (.call 19 [.loc 0, .con (.int 4)])]) [.for_ (.nm 4) (.seq (.call 26 [.ix (.loc 12) (.call 19 [.loc 0, .bi .len [.loc 12]])])) [.asg (.nm 3) (.bin .BitOr (.loc 3) (.bin .LShift (.con (.int 1)) (.loc 4)))]], .ret (some (.loc 3))]⟩
/-- _law_size -/
def f32 : Fn := ⟨1, 1, [.ret (some (.ix (.lst [.con (.int 3), .con (.int 4), .con (.int 2), .con (.int 3), .con (.int 4), .con (.int 1), .con (.int 0), .bin .Add (.con (.int 5)) (.call 19 [.loc 0, .con (.int 2)])]) (.call 19 [.loc 0, .con (.int 8)])))]⟩
/-- _law_falls -/
def f33 : Fn := ⟨2, 5, [.asg (.nm 2) (.lst []), .for_ (.nm 3) (.seq (.call 22 [.loc 0, .loc 1, .con (.int 1)])) [.ext 2 (.lc (.tup [.loc 3, .bin .BitOr (.loc 3) (.bin .LShift (.con (.int 1)) (.loc 4))]) (.nm 4) (.range [.loc 0]) [.and (.cmp .Eq (.bin .BitAnd (.bin .RShift (.loc 3) (.loc 4)) (.con (.int 1))) (.con (.int 0))) (.cmp .Eq (.bin .BitAnd (.bin .RShift (.loc 1) (.bin .BitOr (.loc 3) (.bin .LShift (.con (.int 1)) (.loc 4)))) (.con (.int 1))) (.con (.int 0)))] [4])], .ret (some (.loc 2))]⟩
/-- _law_monotone -/
def f34 : Fn := ⟨2, 5, [.asg (.nm 2) (.lc (.call 19 [.loc 0, .bin .LShift (.con (.int 1)) (.loc 1)]) (.nm 3) (.range [.call 19 [.loc 0, .con (.int 5)]]) [] [3]), .ret (some (.call 27 [.loc 1, .bi .sum [.lc (.bin .LShift (.con (.int 1)) (.loc 4)) (.nm 4) (.seq (.bi .sortedSet [.loc 2])) [] [4]]]))]⟩
/-- _law_switched -/
def f35 : Fn := ⟨3, 4, [.ret (some (.bi .sum [.lc (.bin .LShift (.con (.int 1)) (.loc 3)) (.nm 3) (.range [.bin .LShift (.con (.int 1)) (.loc 0)]) [.bin .BitAnd (.bin .RShift (.loc 1) (.bin .BitXor (.loc 3) (.loc 2))) (.con (.int 1))] [3]]))]⟩
/-- _law_is_int -/
def f36 : Fn := ⟨1, 1, [.ret (some (.and (.isi (.loc 0) [.int]) (.un .Not (.isi (.loc 0) [.bool]))))]⟩
/-- _law_threshold -/
def f37 : Fn := ⟨2, 8, [.asg (.nm 2) (.lc (.bin .Sub (.call 19 [.loc 0, .con (.int 9)]) (.con (.int 4))) (.nm 3) (.range [.loc 1]) [] [3]), .par [4, 5] [.bi .sum [.lc (.loc 6) (.nm 6) (.seq (.loc 2)) [.cmp .Lt (.loc 6) (.con (.int 0))] [6]], .bi .sum [.lc (.loc 6) (.nm 6) (.seq (.loc 2)) [.cmp .Gt (.loc 6) (.con (.int 0))] [6]]], .asg (.nm 7) (.bin .Add (.bin .Sub (.loc 4) (.con (.int 1))) (.call 19 [.loc 0, .bin .Add (.bin .Sub (.loc 5) (.loc 4)) (.con (.int 4))])), .ret (some (.lst [.call 28 [.loc 1, .loc 2, .loc 7], .tup [.bi .tuple [.loc 2], .loc 7]]))]⟩
/-- _law_steps -/
def f38 : Fn := ⟨4, 6, [.asg (.nm 4) (.lst []), .for_ (.nm 5) (.range [.bin .LShift (.con (.int 1)) (.loc 0)]) [.ite (.and (.cmp .Eq (.bin .BitAnd (.bin .RShift (.loc 5) (.loc 2)) (.con (.int 1))) (.con (.int 0))) (.and (.cmp .Eq (.bin .BitAnd (.bin .RShift (.loc 1) (.loc 5)) (.con (.int 1))) (.loc 3)) (.cmp .NotEq (.bin .BitAnd (.bin .RShift (.loc 1) (.bin .BitOr (.loc 5) (.bin .LShift (.con (.int 1)) (.loc 2)))) (.con (.int 1))) (.loc 3)))) [.app 4 (.loc 5)] []], .ret (some (.loc 4))]⟩
/-- _law_table -/
def f39 : Fn := ⟨2, 4, [.asg (.nm 2) (.call 19 [.loc 0, .con (.int 6)]), .ite (.cmp .Lt (.loc 2) (.con (.int 3))) [.asg (.nm 3) (.call 35 [.loc 1, .call 34 [.loc 0, .loc 1], .call 19 [.loc 0, .bin .LShift (.con (.int 1)) (.loc 1)]]), .ret (some (.bin .BitXor (.loc 3) (.ite (.cmp .Eq (.loc 2) (.con (.int 2))) (.bin .LShift (.con (.int 1)) (.call 19 [.loc 0, .bin .LShift (.con (.int 1)) (.loc 1)])) (.con (.int 0)))))] [], .ite (.cmp .Eq (.loc 2) (.con (.int 3))) [.ret (some (.ix (.call 37 [.loc 0, .loc 1]) (.con (.int 0))))] [], .ret (some (.ite (.cmp .Eq (.loc 2) (.con (.int 4))) (.call 30 [.loc 0, .loc 1]) (.call 31 [.loc 0, .loc 1])))]⟩
/-- _law_mixed_right -/
def f40 : Fn := ⟨3, 7, [.ite (.or (.un .Not (.isi (.loc 0) [.tuple])) (.or (.cmp .NotEq (.bi .len [.loc 0]) (.con (.int 3))) (.cmp .NotEq (.lc (.loc 3) (.nm 3) (.seq (.loc 0)) [.un .Not (.call 36 [.loc 3])] [3]) (.lst [])))) [.ret (some (.con (.bl false)))] [], .asg (.tup [.nm 4, .nm 5, .nm 6]) (.loc 0), .ret (some (.and (.cmp2 .LtE .Lt (.con (.int 0)) (.loc 4) (.bi .len [.loc 1])) (.and (.cmp .In (.loc 5) (.ix (.loc 1) (.loc 4))) (.cmp .In (.loc 6) (.ix (.loc 2) (.loc 4))))))]⟩
/-- _law_right -/
def f41 : Fn := ⟨1, 12, [.asg (.nm 1) (.call 32 [.loc 0]), .asg (.nm 2) (.call 39 [.loc 0, .loc 1]), .par [3, 4] [.lc (.call 38 [.loc 1, .loc 2, .loc 5, .con (.int 0)]) (.nm 5) (.range [.loc 1]) [] [5], .lc (.call 38 [.loc 1, .loc 2, .loc 5, .con (.int 1)]) (.nm 5) (.range [.loc 1]) [] [5]], .asg (.nm 6) (.lc (.loc 5) (.nm 5) (.range [.loc 1]) [.and (.cmp .NotEq (.ix (.loc 3) (.loc 5)) (.lst [])) (.cmp .NotEq (.ix (.loc 4) (.loc 5)) (.lst []))] [5]), .asg (.nm 7) (.bi .tuple [.lc (.loc 5) (.nm 5) (.range [.loc 1]) [.cmp .NotEq (.ix (.loc 4) (.loc 5)) (.lst [])] [5]]), .for_ (.nm 8) (.range [.con (.int 2)]) [.asg (.nm 9) (.mk 4 [.loc 1, .loc 2]), .asg (.nm 10) (.ite (.cmp .Eq (.loc 8) (.con (.int 0))) (.call 15 [.loc 9]) (.callK 15 [.loc 9] [.inl 0])), .asg (.nm 11) (.ite (.cmp .Eq (.loc 8) (.con (.int 1))) (.call 16 [.loc 9]) (.callK 16 [.loc 9] [.inl 0])), .ite (.cmp .NotEq (.loc 6) (.lst [])) [.ite (.or (.isN true (.loc 10)) (.or (.un .Not (.call 40 [.loc 11, .loc 3, .loc 4])) (.un .Not (.call 20 [.call 16 [.loc 9], .loc 11])))) [.ret (some (.con (.bl false)))] []] [.ite (.or (.un .Not (.call 20 [.loc 10, .loc 7])) (.isN true (.loc 11))) [.ret (some (.con (.bl false)))] []]], .ret (some (.or (.cmp .NotEq (.loc 6) (.lst [])) (.cmp .Eq (.call 33 [.loc 1, .call 35 [.loc 1, .loc 2, .bi .sum [.lc (.bin .LShift (.con (.int 1)) (.loc 5)) (.nm 5) (.seq (.loc 7)) [] [5]]]]) (.lst []))))]⟩
/-- law -/
def f42 : Fn := ⟨1, 2, [.for_ (.nm 1) (.range [.bi .max2 [.con (.int 4), .bi .min2 [.con (.int 8), .bi .len [.loc 0]]]]) [.iteB 41 (.call 18 [.call 17 [.loc 0, .loc 1]]) [] [.ret (some (.con (.bl false)))]], .ret (some (.con (.bl true)))]⟩
def P : Prog := {
  fn := fun i => match i with
    | 0 => some f0
    | 1 => some f1
    | 2 => some f2
    | 3 => some f3
    | 4 => some f4
    | 5 => some f5
    | 6 => some f6
    | 7 => some f7
    | 8 => some f8
    | 9 => some f9
    | 10 => some f10
    | 11 => some f11
    | 12 => some f12
    | 13 => some f13
    | 14 => some f14
    | 15 => some f15
    | 16 => some f16
    | 17 => some f17
    | 18 => some f18
    | 19 => some f19
    | 20 => some f20
    | 21 => some f21
    | 22 => some f22
    | 23 => some f23
    | 24 => some f24
    | 25 => some f25
    | 26 => some f26
    | 27 => some f27
    | 28 => some f28
    | 29 => some f29
    | 30 => some f30
    | 31 => some f31
    | 32 => some f32
    | 33 => some f33
    | 34 => some f34
    | 35 => some f35
    | 36 => some f36
    | 37 => some f37
    | 38 => some f38
    | 39 => some f39
    | 40 => some f40
    | 41 => some f41
    | 42 => some f42
    | _ => none
  con := fun i => match i with
    | 0 => some (.int 6)
    | _ => none
  init := fun i => match i with
    | 4 => some 8
    | _ => none
  meth := fun c m => match c, m with
    | _, _ => none
  sub := fun c m => match c, m with
    | 0, 0 => true
    | 1, 0 => true
    | 1, 1 => true
    | 2, 0 => true
    | 2, 2 => true
    | 3, 0 => true
    | 3, 3 => true
    | _, _ => false
  flds := fun i => match i with
    | 1 => [2]
    | 2 => [2]
    | 3 => [2]
    | _ => [] }

def fldL : List Str := [("count" : Str), ("table" : Str), ("given" : Str)]
def L : Lk := {
  fnm := fun i => match i with
    | 0 => ("_wall" : Str)
    | 1 => ("InvalidCount.__init__" : Str)
    | 2 => ("InvalidPoint.__init__" : Str)
    | 3 => ("InvalidTable.__init__" : Str)
    | 4 => ("is_integer" : Str)
    | 5 => ("is_between" : Str)
    | 6 => ("full_table" : Str)
    | 7 => ("check_count" : Str)
    | 8 => ("Function.__init__" : Str)
    | 9 => ("Function.__eq__" : Str)
    | 10 => ("Function.at" : Str)
    | 11 => ("Function.points_with" : Str)
    | 12 => ("Function.true_points" : Str)
    | 13 => ("Function.false_points" : Str)
    | 14 => ("first_change" : Str)
    | 15 => ("monotone_flips" : Str)
    | 16 => ("mixed_variable" : Str)
    | 17 => ("_law_cell" : Str)
    | 18 => ("_law_box" : Str)
    | 19 => ("_law_take" : Str)
    | 20 => ("_law_same" : Str)
    | 21 => ("_law_full" : Str)
    | 22 => ("_law_points" : Str)
    | 23 => ("_law_weight" : Str)
    | 24 => ("_law_mixed" : Str)
    | 25 => ("_law_cubes" : Str)
    | 26 => ("_law_inside" : Str)
    | 27 => ("_law_closed_up" : Str)
    | 28 => ("_law_by_weights" : Str)
    | 29 => ("_law_by_terms" : Str)
    | 30 => ("_law_by_parts" : Str)
    | 31 => ("_law_drawn" : Str)
    | 32 => ("_law_size" : Str)
    | 33 => ("_law_falls" : Str)
    | 34 => ("_law_monotone" : Str)
    | 35 => ("_law_switched" : Str)
    | 36 => ("_law_is_int" : Str)
    | 37 => ("_law_threshold" : Str)
    | 38 => ("_law_steps" : Str)
    | 39 => ("_law_table" : Str)
    | 40 => ("_law_mixed_right" : Str)
    | 41 => ("_law_right" : Str)
    | 42 => ("law" : Str)
    | _ => ""
  glo := fun i => match i with
    | 0 => ("MOST_VARIABLES" : Str)
    | _ => ""
  cls := fun i => match i with
    | 4 => ("Function" : Str)
    | _ => ""
  fld := fun i => fldL.getD i ""
  mth := fun i => match i with
    | _ => ""
  ps := fun i => match i with
    | 0 => [("k" : Str)]
    | 1 => [("self" : Str), ("given" : Str)]
    | 2 => [("self" : Str), ("given" : Str)]
    | 3 => [("self" : Str), ("given" : Str)]
    | 4 => [("value" : Str)]
    | 5 => [("value" : Str), ("least" : Str), ("most" : Str)]
    | 6 => [("count" : Str)]
    | 7 => [("count" : Str), ("most" : Str)]
    | 8 => [("self" : Str), ("count" : Str), ("table" : Str)]
    | 9 => [("self" : Str), ("other" : Str)]
    | 10 => [("self" : Str), ("point" : Str)]
    | 11 => [("self" : Str), ("value" : Str)]
    | 12 => [("self" : Str)]
    | 13 => [("self" : Str)]
    | 14 => [("function" : Str), ("variable" : Str), ("before" : Str)]
    | 15 => [("function" : Str)]
    | 16 => [("function" : Str)]
    | 17 => [("script" : Str), ("k" : Str)]
    | 18 => [("great" : Str)]
    | 19 => [("box" : Str), ("many" : Str)]
    | 20 => [("told" : Str), ("due" : Str)]
    | 21 => [("count" : Str)]
    | 22 => [("count" : Str), ("table" : Str), ("value" : Str)]
    | 23 => [("point" : Str)]
    | 24 => [("box" : Str), ("many" : Str)]
    | 25 => [("count" : Str)]
    | 26 => [("cube" : Str)]
    | 27 => [("count" : Str), ("table" : Str)]
    | 28 => [("count" : Str), ("weights" : Str), ("bound" : Str)]
    | 29 => [("count" : Str), ("terms" : Str)]
    | 30 => [("box" : Str), ("count" : Str)]
    | 31 => [("box" : Str), ("count" : Str)]
    | 32 => [("box" : Str)]
    | 33 => [("count" : Str), ("table" : Str)]
    | 34 => [("box" : Str), ("count" : Str)]
    | 35 => [("count" : Str), ("table" : Str), ("mask" : Str)]
    | 36 => [("value" : Str)]
    | 37 => [("box" : Str), ("count" : Str)]
    | 38 => [("count" : Str), ("table" : Str), ("variable" : Str), ("before" : Str)]
    | 39 => [("box" : Str), ("count" : Str)]
    | 40 => [("told" : Str), ("ups" : Str), ("downs" : Str)]
    | 41 => [("box" : Str)]
    | 42 => [("script" : Str)]
    | _ => [] }
def dd : Nat → List D := fun i => match i with
    | 7 => [.int 6]
    | _ => []
def tb : Tb := ⟨L, fun g => (P.con g).isSome, dd, fun f => [4, 5, 6, 7, 14, 15, 16, 17, 18, 19, 20, 21, 22, 23, 24, 25, 26, 27, 28, 29, 30, 31, 32, 33, 34, 35, 36, 37, 38, 39, 40, 41, 42].contains f, P.init, fun f => decide (f < 3), fun m => match m with | _ => none⟩
def top (i : Nat) : Stmt := PySem.Challenge.pw_truthbench_k19_unate_functions.main.body.getD i (.Pass ⟨0, 0, 0, 0⟩)
def mem (i j : Nat) : Stmt := inClass (top i) j
def dm (c m q : Str) (i j : Nat) (d : List He.Dv) : He.DefD := ⟨(c, some m), m, q, defArgs (mem i j), defBody (mem i j), defScope (mem i j), d, []⟩
def de (x : Str) (i : Nat) (d : List He.Dv) : He.DefD := ⟨(x, none), x, x, defArgs (top i), defBody (top i), defScope (top i), d, []⟩
def defs : List He.DefD := ([de "_wall" 0 [], dm "InvalidCount" "__init__" "InvalidCount.__init__" 3 0 [], dm "InvalidPoint" "__init__" "InvalidPoint.__init__" 4 0 [], dm "InvalidTable" "__init__" "InvalidTable.__init__" 5 0 [], de "is_integer" 8 [], de "is_between" 9 [], de "full_table" 11 [], de "check_count" 12 [.int (6)], dm "Function" "__init__" "Function.__init__" 13 0 [], dm "Function" "__eq__" "Function.__eq__" 13 1 [], dm "Function" "at" "Function.at" 13 2 [], dm "Function" "points_with" "Function.points_with" 13 3 [], dm "Function" "true_points" "Function.true_points" 13 4 [], dm "Function" "false_points" "Function.false_points" 13 5 [], de "first_change" 15 [], de "monotone_flips" 16 [], de "mixed_variable" 17 [], de "_law_cell" 19 [], de "_law_box" 20 [], de "_law_take" 21 [], de "_law_same" 22 [], de "_law_full" 23 [], de "_law_points" 24 [], de "_law_weight" 25 [], de "_law_mixed" 26 [], de "_law_cubes" 27 [], de "_law_inside" 28 [], de "_law_closed_up" 29 [], de "_law_by_weights" 30 [], de "_law_by_terms" 31 []] : List He.DefD) ++ ([de "_law_by_parts" 32 [], de "_law_drawn" 33 [], de "_law_size" 34 [], de "_law_falls" 35 [], de "_law_monotone" 36 [], de "_law_switched" 37 [], de "_law_is_int" 38 [], de "_law_threshold" 39 [], de "_law_steps" 40 [], de "_law_table" 41 [], de "_law_mixed_right" 42 [], de "_law_right" 43 [], de "law" 44 []] : List He.DefD)
def Ns : List (List Str) := ([([] : List Str), ([] : List Str), ([] : List Str), ([] : List Str), ([("value" : Str)] : List Str), ([("value" : Str), ("least" : Str), ("most" : Str)] : List Str), ([("count" : Str)] : List Str), ([("count" : Str), ("most" : Str)] : List Str), ([("self" : Str), ("count" : Str), ("table" : Str)] : List Str), ([] : List Str), ([] : List Str), ([] : List Str), ([] : List Str), ([] : List Str), ([("function" : Str), ("variable" : Str), ("before" : Str), ("point" : Str)] : List Str), ([("function" : Str), ("variable" : Str)] : List Str), ([("function" : Str), ("variable" : Str), ("up" : Str), ("down" : Str)] : List Str), ([("script" : Str), ("k" : Str)] : List Str), ([("great" : Str)] : List Str), ([("box" : Str), ("many" : Str), ("digit" : Str), ("mixed" : Str)] : List Str), ([("told" : Str), ("due" : Str), ("k" : Str)] : List Str), ([("count" : Str)] : List Str), ([("count" : Str), ("table" : Str), ("value" : Str), ("p" : Str)] : List Str), ([("point" : Str), ("i" : Str)] : List Str), ([("box" : Str), ("many" : Str), ("left" : Str), ("found" : Str)] : List Str), ([("count" : Str), ("found" : Str), ("i" : Str), ("longer" : Str), ("cube" : Str)] : List Str), ([("cube" : Str), ("found" : Str), ("i" : Str), ("p" : Str)] : List Str), ([("count" : Str), ("table" : Str), ("found" : Str), ("i" : Str), ("p" : Str)] : List Str), ([("count" : Str), ("weights" : Str), ("bound" : Str), ("found" : Str), ("p" : Str), ("i" : Str)] : List Str), ([("count" : Str), ("terms" : Str), ("p" : Str), ("t" : Str)] : List Str)] : List (List Str)) ++ ([([("box" : Str), ("count" : Str), ("pieces" : Str), ("p" : Str), ("i" : Str), ("one" : Str), ("other" : Str), ("way" : Str), ("table" : Str)] : List Str), ([("box" : Str), ("count" : Str), ("way" : Str), ("found" : Str), ("p" : Str), ("points" : Str), ("k" : Str), ("weights" : Str), ("i" : Str), ("terms" : Str), ("t" : Str), ("values" : Str), ("cubes" : Str)] : List Str), ([("box" : Str)] : List Str), ([("count" : Str), ("table" : Str), ("found" : Str), ("p" : Str), ("i" : Str)] : List Str), ([("box" : Str), ("count" : Str), ("points" : Str), ("k" : Str), ("p" : Str)] : List Str), ([("count" : Str), ("table" : Str), ("mask" : Str), ("p" : Str)] : List Str), ([("value" : Str)] : List Str), ([("box" : Str), ("count" : Str), ("weights" : Str), ("i" : Str), ("low" : Str), ("high" : Str), ("w" : Str), ("bound" : Str)] : List Str), ([("count" : Str), ("table" : Str), ("variable" : Str), ("before" : Str), ("found" : Str), ("p" : Str)] : List Str), ([("box" : Str), ("count" : Str), ("way" : Str), ("table" : Str)] : List Str), ([("told" : Str), ("ups" : Str), ("downs" : Str), ("one" : Str), ("variable" : Str), ("up" : Str), ("down" : Str)] : List Str), ([("box" : Str), ("count" : Str), ("table" : Str), ("ups" : Str), ("downs" : Str), ("i" : Str), ("mixed" : Str), ("due" : Str), ("turn" : Str), ("function" : Str), ("told" : Str), ("other" : Str)] : List Str), ([("script" : Str), ("k" : Str)] : List Str)] : List (List Str))
def l : LawT := ⟨P, tb, [4, 5, 6, 7, 14, 15, 16, 17, 18, 19, 20, 21, 22, 23, 24, 25, 26, 27, 28, 29, 30, 31, 32, 33, 34, 35, 36, 37, 38, 39, 40, 41, 42], defs, Ns, ([(0, .int 6)] : List (Nat × D)), [(4, 8)], [0, 1, 2], []⟩
end K19
end STxt
section SKLT
set_option maxRecDepth 100000
namespace KL
open Py
/-- _law_box -/
def dBox : Fn := ⟨1, 1, [.ret (some (.lst [.bi .abs [.loc 0], .cmp .GtE (.bi .abs [.loc 0]) (.bin .Pow (.con (.int 10)) (.con (.int 18))), .bin .Mod (.bi .int [.bi .abs [.loc 0]]) (.con (.int 2147483629)), .con (.int 0)]))]⟩
/-- _law_cell -/
def dCell : Fn := ⟨2, 2, [.ret (some (.ite (.cmp .Lt (.loc 1) (.bi .len [.loc 0])) (.ix (.loc 0) (.loc 1)) (.bin .Add (.bin .Mult (.con (.int 6007)) (.loc 1)) (.bin .Mod (.bi .int [.bi .sum [.sl (.loc 0) none (some (.con (.int 1)))]]) (.con (.int 1000033))))))]⟩
/-- _law_take -/
def dTake : Fn := ⟨2, 4, [.ite (.and (.ix (.loc 0) (.con (.int 1))) (.cmp .Gt (.ix (.loc 0) (.con (.int 0))) (.con (.int 0)))) [.asg (.nm 2) (.bin .Mod (.bi .int [.ix (.loc 0) (.con (.int 0))]) (.loc 1)), .setI 0 (.con (.int 0)) (.bin .FloorDiv (.ix (.loc 0) (.con (.int 0))) (.loc 1)), .ret (some (.loc 2))] [], .setI 0 (.con (.int 3)) (.bin .Add (.ix (.loc 0) (.con (.int 3))) (.con (.int 1))), .asg (.nm 3) (.bin .Mod (.bi .int [.bin .Pow (.bin .Add (.bin .Add (.ix (.loc 0) (.con (.int 2))) (.bin .Mult (.con (.int 15485863)) (.ix (.loc 0) (.con (.int 3))))) (.con (.int 179424673))) (.con (.int 5))]) (.con (.int 2147483647))), .ret (some (.bin .Mod (.bi .int [.bin .FloorDiv (.bin .Mod (.bi .int [.bin .Pow (.bin .Add (.bin .Mult (.loc 3) (.con (.int 48271))) (.bin .Mult (.con (.int 104729)) (.ix (.loc 0) (.con (.int 3))))) (.con (.int 3))]) (.con (.int 2147483587))) (.con (.int 64))]) (.loc 1)))]⟩
/-- _law_same -/
def dSame (iSame : Nat) : Fn := ⟨2, 3, [.ite (.or (.isN false (.loc 1)) (.isi (.loc 1) [.bool])) [.ret (some (.ite (.isN false (.loc 1)) (.isN false (.loc 0)) (.and (.isi (.loc 0) [.bool]) (.cmp .Eq (.isB false true (.loc 0)) (.isB false true (.loc 1))))))] [], .ite (.isi (.loc 1) [.int]) [.ret (some (.and (.isi (.loc 0) [.int]) (.and (.un .Not (.isi (.loc 0) [.bool])) (.cmp .Eq (.bin .Sub (.bi .int [.loc 0]) (.loc 1)) (.con (.int 0))))))] [], .ite (.isi (.loc 1) [.str]) [.ret (some (.and (.isi (.loc 0) [.str]) (.and (.cmp .Eq (.bi .len [.loc 0]) (.bi .len [.loc 1])) (.cmp .Eq (.lc (.loc 2) (.nm 2) (.range [.bi .len [.loc 1]]) [.cmp .NotEq (.sl (.loc 0) (some (.loc 2)) (some (.bin .Add (.loc 2) (.con (.int 1))))) (.ix (.loc 1) (.loc 2))] [2]) (.lst [])))))] [], .ite (.or (.cmp .NotEq (.isi (.loc 0) [.list]) (.isi (.loc 1) [.list])) (.cmp .NotEq (.isi (.loc 0) [.tuple]) (.isi (.loc 1) [.tuple]))) [.ret (some (.con (.bl false)))] [], .ret (some (.and (.cmp .Eq (.bi .len [.loc 0]) (.bi .len [.loc 1])) (.cmp .Eq (.lc (.loc 2) (.nm 2) (.range [.bi .len [.loc 1]]) [.un .Not (.call iSame [.ix (.loc 0) (.loc 2), .ix (.loc 1) (.loc 2)])] [2]) (.lst []))))]⟩
/-- _law_full -/
def dFull : Fn := ⟨1, 1, [.ret (some (.bin .Sub (.bin .LShift (.con (.int 1)) (.bin .LShift (.con (.int 1)) (.loc 0))) (.con (.int 1))))]⟩
/-- _law_points -/
def dPoints : Fn := ⟨3, 4, [.ret (some (.lc (.loc 3) (.nm 3) (.range [.bin .LShift (.con (.int 1)) (.loc 0)]) [.cmp .Eq (.bin .BitAnd (.bin .RShift (.loc 1) (.loc 3)) (.con (.int 1))) (.loc 2)] [3]))]⟩
/-- _law_weight -/
def dWeight : Fn := ⟨1, 2, [.ret (some (.bi .len [.lc (.loc 1) (.nm 1) (.range [.con (.int 6)]) [.bin .BitAnd (.bin .RShift (.loc 0) (.loc 1)) (.con (.int 1))] [1]]))]⟩
/-- _law_mixed -/
def dMixed (iTake : Nat) : Fn := ⟨2, 4, [.par [2, 3] [.ofIt .list (.range [.loc 1]), .lst []], .while_ (.cmp .NotEq (.loc 2) (.lst [])) [.app 3 (.pop 2 (some (.call iTake [.loc 0, .bi .len [.loc 2]])))], .ret (some (.loc 3))]⟩
/-- _law_cubes -/
def dCubes : Fn := ⟨1, 5, [.asg (.nm 1) (.lst [.con (.str [])]), .for_ (.nm 2) (.range [.loc 0]) [.asg (.nm 3) (.lst []), .for_ (.nm 4) (.seq (.loc 1)) [.ext 3 (.lst [.bin .Add (.loc 4) (.con (.str [48])), .bin .Add (.loc 4) (.con (.str [49])), .bin .Add (.loc 4) (.con (.str [45]))])], .asg (.nm 1) (.loc 3)], .ret (some (.loc 1))]⟩
/-- _law_inside -/
def dInside : Fn := ⟨1, 4, [.asg (.nm 1) (.lst [.con (.int 0)]), .for_ (.nm 2) (.range [.bi .len [.loc 0]]) [.ite (.cmp .Eq (.sl (.loc 0) (some (.loc 2)) (some (.bin .Add (.loc 2) (.con (.int 1))))) (.con (.str [49]))) [.asg (.nm 1) (.lc (.bin .BitOr (.loc 3) (.bin .LShift (.con (.int 1)) (.loc 2))) (.nm 3) (.seq (.loc 1)) [] [3])] [.ite (.cmp .Eq (.sl (.loc 0) (some (.loc 2)) (some (.bin .Add (.loc 2) (.con (.int 1))))) (.con (.str [45]))) [.asg (.nm 1) (.bin .Add (.loc 1) (.lc (.bin .BitOr (.loc 3) (.bin .LShift (.con (.int 1)) (.loc 2))) (.nm 3) (.seq (.loc 1)) [] [3]))] []]], .ret (some (.bi .sorted [.loc 1]))]⟩
/-- _law_closed_up -/
def dClosedUp : Fn := ⟨2, 5, [.asg (.nm 2) (.loc 1), .for_ (.nm 3) (.range [.loc 0]) [.for_ (.nm 4) (.range [.bin .LShift (.con (.int 1)) (.loc 0)]) [.ite (.bin .BitAnd (.bin .RShift (.loc 2) (.loc 4)) (.con (.int 1))) [.asg (.nm 2) (.bin .BitOr (.loc 2) (.bin .LShift (.con (.int 1)) (.bin .BitOr (.loc 4) (.bin .LShift (.con (.int 1)) (.loc 3)))))] []]], .ret (some (.loc 2))]⟩
/-- _law_by_weights -/
def dByWeights : Fn := ⟨3, 6, [.asg (.nm 3) (.con (.int 0)), .for_ (.nm 4) (.range [.bin .LShift (.con (.int 1)) (.loc 0)]) [.ite (.cmp .GtE (.bi .sum [.lc (.ix (.loc 1) (.loc 5)) (.nm 5) (.range [.loc 0]) [.bin .BitAnd (.bin .RShift (.loc 4) (.loc 5)) (.con (.int 1))] [5]]) (.loc 2)) [.asg (.nm 3) (.bin .BitOr (.loc 3) (.bin .LShift (.con (.int 1)) (.loc 4)))] []], .ret (some (.loc 3))]⟩
/-- _law_by_terms -/
def dByTerms : Fn := ⟨2, 4, [.ret (some (.bi .sum [.lc (.bin .LShift (.con (.int 1)) (.loc 2)) (.nm 2) (.range [.bin .LShift (.con (.int 1)) (.loc 0)]) [.bin .BitAnd (.bi .len [.lc (.loc 3) (.nm 3) (.seq (.loc 1)) [.cmp .Eq (.bin .BitAnd (.loc 3) (.un .Invert (.loc 2))) (.con (.int 0))] [3]]) (.con (.int 1))] [2]]))]⟩
/-- _law_by_parts -/
def dByParts (iTake : Nat) (iFull : Nat) : Fn := ⟨2, 9, [.asg (.nm 2) (.lc (.lst [.bin .LShift (.con (.int 1)) (.loc 4), .bi .sum [.lc (.bin .LShift (.con (.int 1)) (.loc 3)) (.nm 3) (.range [.bin .LShift (.con (.int 1)) (.loc 1)]) [.bin .BitAnd (.bin .RShift (.loc 3) (.loc 4)) (.con (.int 1))] [3]]]) (.nm 4) (.range [.loc 1]) [] [4]), .while_ (.cmp .Gt (.bi .len [.loc 2]) (.con (.int 1))) [.asg (.nm 5) (.pop 2 (some (.call iTake [.loc 0, .bi .len [.loc 2]]))), .asg (.nm 6) (.pop 2 (some (.call iTake [.loc 0, .bi .len [.loc 2]]))), .asg (.nm 7) (.call iTake [.loc 0, .con (.int 5)]), .asg (.nm 8) (.ite (.cmp .Lt (.loc 7) (.con (.int 2))) (.bin .BitAnd (.ix (.loc 5) (.con (.int 1))) (.ix (.loc 6) (.con (.int 1)))) (.ite (.cmp .Lt (.loc 7) (.con (.int 4))) (.bin .BitOr (.ix (.loc 5) (.con (.int 1))) (.ix (.loc 6) (.con (.int 1)))) (.bin .BitXor (.ix (.loc 5) (.con (.int 1))) (.ix (.loc 6) (.con (.int 1)))))), .ite (.cmp .Eq (.call iTake [.loc 0, .con (.int 3)]) (.con (.int 0))) [.asg (.nm 8) (.bin .BitXor (.loc 8) (.call iFull [.loc 1]))] [], .app 2 (.lst [.bin .BitOr (.ix (.loc 5) (.con (.int 0))) (.ix (.loc 6) (.con (.int 0))), .loc 8])], .ret (some (.ite (.cmp .NotEq (.loc 2) (.lst [])) (.ix (.ix (.loc 2) (.con (.int 0))) (.con (.int 1))) (.call iTake [.loc 0, .con (.int 2)])))]⟩
/-- _law_drawn -/
def dDrawn (iTake : Nat) (iMixed : Nat) (iClosedUp : Nat) (iByWeights : Nat) (iWeight : Nat) (iByTerms : Nat) (iByParts : Nat) (iCubes : Nat) (iInside : Nat) : Fn := ⟨2, 13, [.asg (.nm 2) (.call iTake [.loc 0, .con (.int 10)]), .ite (.cmp .Lt (.loc 2) (.con (.int 2))) [.asg (.nm 3) (.con (.int 0)), .for_ (.nm 4) (.range [.bin .LShift (.con (.int 1)) (.loc 1)]) [.asg (.nm 3) (.bin .BitOr (.loc 3) (.bin .LShift (.call iTake [.loc 0, .con (.int 2)]) (.loc 4)))], .ret (some (.loc 3))] [], .ite (.cmp .Eq (.loc 2) (.con (.int 2))) [.ret (some (.bi .sum [.lc (.bin .LShift (.con (.int 1)) (.loc 4)) (.nm 4) (.seq (.bi .sorted [.sl (.call iMixed [.loc 0, .bin .LShift (.con (.int 1)) (.loc 1)]) none (some (.call iTake [.loc 0, .con (.int 5)]))])) [] [4]]))] [], .ite (.cmp .Lt (.loc 2) (.con (.int 5))) [.asg (.nm 5) (.lc (.call iTake [.loc 0, .bin .LShift (.con (.int 1)) (.loc 1)]) (.nm 6) (.range [.bin .Add (.con (.int 1)) (.call iTake [.loc 0, .con (.int 5)])]) [] [6]), .ret (some (.call iClosedUp [.loc 1, .bi .sum [.lc (.bin .LShift (.con (.int 1)) (.loc 4)) (.nm 4) (.seq (.bi .sortedSet [.loc 5])) [] [4]]]))] [], .ite (.cmp .Eq (.loc 2) (.con (.int 5))) [.asg (.nm 7) (.lc (.bin .Sub (.call iTake [.loc 0, .con (.int 11)]) (.con (.int 4))) (.nm 8) (.range [.loc 1]) [] [8]), .ret (some (.call iByWeights [.loc 1, .loc 7, .bin .Sub (.call iTake [.loc 0, .con (.int 12)]) (.con (.int 3))]))] [], .ite (.cmp .Eq (.loc 2) (.con (.int 6))) [.asg (.nm 9) (.lc (.loc 10) (.nm 10) (.range [.bin .LShift (.con (.int 1)) (.loc 1)]) [.and (.cmp .Lt (.call iWeight [.loc 10]) (.con (.int 3))) (.cmp .Eq (.call iTake [.loc 0, .con (.int 3)]) (.con (.int 0)))] [10]), .ret (some (.call iByTerms [.loc 1, .loc 9]))] [], .ite (.cmp .Eq (.loc 2) (.con (.int 7))) [.ret (some (.call iByParts [.loc 0, .loc 1]))] [], .ite (.cmp .Eq (.loc 2) (.con (.int 8))) [.asg (.nm 11) (.lc (.call iTake [.loc 0, .con (.int 2)]) (.nm 6) (.range [.bin .Add (.loc 1) (.con (.int 1))]) [] [6]), .ret (some (.bi .sum [.lc (.bin .LShift (.con (.int 1)) (.loc 4)) (.nm 4) (.range [.bin .LShift (.con (.int 1)) (.loc 1)]) [.cmp .Eq (.ix (.loc 11) (.call iWeight [.loc 4])) (.con (.int 1))] [4]]))] [], .par [3, 12] [.con (.int 0), .call iCubes [.loc 1]], .for_ (.nm 6) (.range [.bin .Add (.con (.int 1)) (.call iTake [.loc 0, .con (.int 4)])]) [.for_ (.nm 4) (.seq (.call iInside [.ix (.loc 12) (.call iTake [.loc 0, .bi .len [.loc 12]])])) [.asg (.nm 3) (.bin .BitOr (.loc 3) (.bin .LShift (.con (.int 1)) (.loc 4)))]], .ret (some (.loc 3))]⟩
/-- is_integer -/
def dIsInteger : Fn := ⟨1, 1, [.ret (some (.and (.isi (.loc 0) [.int]) (.un .Not (.isi (.loc 0) [.bool]))))]⟩
/-- is_between -/
def dIsBetween (iIsInteger : Nat) : Fn := ⟨3, 3, [.ret (some (.and (.call iIsInteger [.loc 0]) (.cmp2 .LtE .LtE (.loc 1) (.loc 0) (.loc 2))))]⟩
/-- full_table -/
def dFullTable : Fn := ⟨1, 1, [.ret (some (.bin .Sub (.bin .LShift (.con (.int 1)) (.bin .LShift (.con (.int 1)) (.loc 0))) (.con (.int 1))))]⟩
/-- check_count -/
def dCheckCount (iIsBetween : Nat) (r0 : T) : Fn := ⟨2, 2, [.ite (.un .Not (.call iIsBetween [.loc 0, .con (.int 0), .loc 1])) [r0] []]⟩
/-- Function.__init__ -/
def dFunctionInit (iCheckCount : Nat) (iIsBetween : Nat) (iFullTable : Nat) (fCount : Nat) (fTable : Nat) (r0 : T) : Fn := ⟨3, 3, [.exp (.callK iCheckCount [.loc 1] [.inl 0, .inr (.int 6)]), .ite (.un .Not (.call iIsBetween [.loc 2, .con (.int 0), .call iFullTable [.loc 1]])) [r0] [], .setF 0 fCount (.loc 1), .setF 0 fTable (.loc 2)]⟩
/-- _law_count -/
def dCount (iTake : Nat) : Fn := ⟨1, 1, [.ret (some (.ix (.lst [.con (.int 2), .con (.int 3), .con (.int 4), .con (.int 3), .con (.int 2), .con (.int 4), .con (.int 3), .con (.int 0), .con (.int 1), .con (.int 5), .con (.int 3), .con (.int 6), .con (.int 2), .con (.int 4), .con (.int 1), .con (.int 3)]) (.call iTake [.loc 0, .con (.int 16)])))]⟩
end KL
end SKLT
section SKLA
set_option autoImplicit false
set_option linter.all false
set_option maxRecDepth 100000
set_option maxHeartbeats 4000000
open Py
open PySem (CmpOp Operator UnaryOp)
namespace KL
variable {P : Prog}

/-! ### the box -/
def BoxOk (b : List D) (j : Nat) : Prop := ∃ (g : Int) (h : Bool) (m c : Int), b = [.int g, .bl h, .int m, .int c] ∧ 0 ≤ g ∧ 0 ≤ m ∧ m < 2147483629 ∧ 0 ≤ c ∧ c ≤ j
def Cl (k j L : Nat) (cs : List (List D)) : Prop := cs.length = L ∧ ∃ b, cs[k]? = some b ∧ BoxOk b j
theorem Cl.lt {k j L : Nat} {cs : List (List D)} (h : Cl k j L cs) : k < cs.length := let ⟨_, b, e, _⟩ := h; (List.getElem?_eq_some_iff.mp e).1
theorem Cl.put {k j j' L : Nat} {cs : List (List D)} {b : List D} (h : Cl k j L cs) (hb : BoxOk b j') : Cl k j' L (cs.set k b) := ⟨by rw [List.length_set]; exact h.1, b, List.getElem?_set_self h.lt, hb⟩
theorem take_ok {iTake : Nat} (hTake : P.fn iTake = some dTake) (n k j L many : Nat) (cs : List (List D)) (hc : Cl k j L cs) (hj : j < 2 ^ 36) (h1 : 1 ≤ many) (h2 : many < 2 ^ 20) :
    ∃ (r : Nat) (cs' : List (List D)), runF P (n + 1) iTake [.cell k, .d (.int many)] cs = .ok (.d (.int r)) cs' ∧ r < many ∧ Cl k (j + 1) L cs' := by
  have hlt := hc.lt
  obtain ⟨hL, b, hk, g, h, m, c, rfl, hg, hm0, hm, hc0, hcj⟩ := id hc
  have pm : (0 : Int) < many := by omega
  have pm2 : (many : Int) < 1073741824 := by omega
  have pn : 0 < many := h1
  have pn2 : many < 1073741824 := by omega
  have nn : ∀ x : Int, ∃ r : Nat, x % (many : Int) = (r : Int) ∧ r < many := fun x => ⟨(x % (many : Int)).toNat, by have := Int.emod_nonneg x (show (many : Int) ≠ 0 by omega); omega, by have := Int.emod_nonneg x (show (many : Int) ≠ 0 by omega); have := Int.emod_lt_of_pos x pm; omega⟩
  rw [runF_succ P n iTake _ cs dTake hTake rfl]
  unfold bodyR dTake
  have tk : ∀ b : List D, List.take cs.length (cs.set k b) = cs.set k b := fun b => List.take_of_length_le (by simp)
  have A1 : (m + 15485863 * (c + 1) + 179424673).natAbs < 18446744073709551616 := by omega
  by_cases hh : h = true ∧ 0 < g
  · obtain ⟨rfl, hg0⟩ := hh
    obtain ⟨r, e, hr⟩ := nn g
    refine ⟨r, _, ?_, hr, hc.put (b := [.int (g / many), .bl true, .int m, .int c]) ⟨_, _, _, _, rfl, Int.ediv_nonneg hg (by omega), hm0, hm, hc0, by omega⟩⟩
    simp -implicitDefEqProofs [agSl, kSet, locV, hk, ixOp, atI, ixN, kAnd, hg0, hasV, setAt, flat, rtOf, isNew, pm, pm2, pn, pn2, tk, e]
  · generalize hx : (m + 15485863 * (c + 1) + 179424673) ^ 5 % 2147483647 = x
    have x0 : 0 ≤ x := by rw [← hx]; exact Int.emod_nonneg _ (by decide)
    have x1 : x < 2147483647 := by rw [← hx]; exact Int.emod_lt_of_pos _ (by decide)
    have A2 : (x * 48271 + 104729 * (c + 1)).natAbs < 18446744073709551616 := by omega
    obtain ⟨r, e, hr⟩ := nn ((x * 48271 + 104729 * (c + 1)) ^ 3 % 2147483587 / 64)
    refine ⟨r, _, ?_, hr, hc.put (b := [.int g, .bl h, .int m, .int (c + 1)]) ⟨_, _, _, _, rfl, hg, hm0, hm, by omega, by omega⟩⟩
    cases h with
    | true =>
      have hg0 : ¬ 0 < g := fun z => hh ⟨rfl, z⟩
      simp -implicitDefEqProofs [agSl, kSet, locV, hk, ixOp, atI, ixN, kAnd, hg0, hasV, setAt, flat, rtOf, isNew, pm, pm2, pn, pn2, tk, e, mulOk, A1, A2, hx, List.getElem?_set_self hlt]
    | false =>
      simp -implicitDefEqProofs [agSl, kSet, locV, hk, ixOp, atI, ixN, kAnd, hasV, setAt, flat, rtOf, isNew, pm, pm2, pn, pn2, tk, e, mulOk, A1, A2, hx, List.getElem?_set_self hlt]

/-! ### digits -/
theorem bandN (a b : Nat) : PySem.Builtin.bitAnd (a : Int) (b : Int) = ((a &&& b : Nat) : Int) := by
  unfold PySem.Builtin.bitAnd
  have h1 : decide (0 ≤ (a : Int)) = true := decide_eq_true (Int.natCast_nonneg a)
  have h2 : decide (0 ≤ (b : Int)) = true := decide_eq_true (Int.natCast_nonneg b)
  rw [h1, h2]
  simp
theorem band1 (p i : Nat) : PySem.Builtin.bitAnd ((p : Int) / 2 ^ i) 1 = ((p / 2 ^ i % 2 : Nat) : Int) := by
  have e : ((p : Int) / 2 ^ i) = ((p / 2 ^ i : Nat) : Int) := by simp
  rw [e]
  have := bandN (p / 2 ^ i) 1
  rw [Nat.and_one_is_mod] at this
  exact this
def bt (p i : Nat) : Nat := p / 2 ^ i % 2
theorem band1' (p i : Nat) : PySem.Builtin.bitAnd ((p : Int) / 2 ^ i) 1 = ((bt p i : Nat) : Int) := band1 p i

/-! ### sequences -/
theorem atN {α : Type} (xs : List α) (k : Nat) : atI xs (k : Int) = xs[k]? := by
  unfold atI ixN
  rw [if_pos (Int.natCast_nonneg k)]
  by_cases h : k < xs.length
  · rw [if_pos (by omega)]; simp
  · rw [if_neg (by omega)]
    simp [List.getElem?_eq_none (Nat.le_of_not_lt h)]
theorem cutN {α : Type} (xs : List α) (a b : Nat) : cut xs (some (a : Int)) (some (b : Int)) = (xs.drop (min a xs.length)).take (min b xs.length - min a xs.length) := by
  have ha : ¬ ((a : Int) < 0) := by omega
  have hb : ¬ ((b : Int) < 0) := by omega
  unfold cut sIx
  simp [ha, hb]
theorem cut1 {α : Type} (xs : List α) (k : Nat) (h : k < xs.length) : cut xs (some (k : Int)) (some ((k : Int) + 1)) = [xs[k]] := by
  have := cutN xs k (k + 1)
  rw [show ((k + 1 : Nat) : Int) = (k : Int) + 1 by omega] at this
  rw [this, Nat.min_eq_left (Nat.le_of_lt h), Nat.min_eq_left h, show k + 1 - k = 1 by omega, List.drop_eq_getElem_cons h]
  rfl
theorem ixOp_l (xs : List D) (k : Nat) : ixOp (.lst xs) (.int (k : Int)) = xs[k]? := atN xs k
theorem ixOp_t (xs : List D) (k : Nat) : ixOp (.tup xs) (.int (k : Int)) = xs[k]? := atN xs k
theorem ixOp_s (z : List Nat) (k : Nat) : ixOp (.str z) (.int (k : Int)) = (z[k]?).map fun c => .str [c] := by
  show (atI z (k : Int)).map _ = _
  rw [atN]
/-! ### _law_same -/
def nice : Nat → D → Bool
  | _, .non => true
  | _, .bl _ => true
  | _, .int _ => true
  | _, .str z => decide (z.length ≤ 1000)
  | m + 1, .lst xs => decide (xs.length ≤ 1000) && xs.all (nice m)
  | m + 1, .tup xs => decide (xs.length ≤ 1000) && xs.all (nice m)
  | _, _ => false
theorem same_ok {iSame : Nat} (hSame : P.fn iSame = some (dSame iSame)) : ∀ (m : Nat) (x : D), nice m x = true → ∀ (n : Nat) (cs : List (List D)), runF P (n + m + 1) iSame [.d x, .d x] cs = .ok (.d (.bl true)) cs := by
  intro m
  induction m with
  | zero =>
    intro x hx n cs
    rw [runF_succ P _ iSame _ cs (dSame iSame) hSame rfl]
    unfold bodyR dSame
    cases x with
    | non => simp -implicitDefEqProofs [agSl, locV, rd_brw, ixOp, atI, ixN, rtOf, isNew, callU, agsOf, agOf, kPl, place, lcB, itD, itemsOf, brwOf, toI, enI, ziI, isTy, eqOp]
    | bl b => simp -implicitDefEqProofs [agSl, locV, rd_brw, ixOp, atI, ixN, rtOf, isNew, callU, agsOf, agOf, kPl, place, lcB, itD, itemsOf, brwOf, toI, enI, ziI, isTy, eqOp, eqOp]
    | int i => simp -implicitDefEqProofs [agSl, locV, rd_brw, ixOp, atI, ixN, rtOf, isNew, callU, agsOf, agOf, kPl, place, lcB, itD, itemsOf, brwOf, toI, enI, ziI, isTy, eqOp, eqOp]
    | str z =>
      have hz : z.length ≤ 1000 := by simpa [nice] using hx
      simp -implicitDefEqProofs [agSl, locV, rd_brw, ixOp, atI, ixN, rtOf, isNew, callU, agsOf, agOf, kPl, place, lcB, itD, itemsOf, brwOf, toI, enI, ziI, isTy, eqOp, eqOp]
      rw [lcR z.length (fun _ => none)]
      · simp -implicitDefEqProofs [agSl, locV, rd_brw, ixOp, atI, ixN, rtOf, isNew, callU, agsOf, agOf, kPl, place, lcB, itD, itemsOf, brwOf, toI, enI, ziI, isTy, eqOp, fmNone, eqOp]
      · simp -implicitDefEqProofs [agSl, locV, rd_brw, ixOp, atI, ixN, rtOf, isNew, callU, agsOf, agOf, kPl, place, lcB, itD, itemsOf, brwOf, toI, enI, ziI, isTy, eqOp, rangeN z.length (by omega)]
      · exact .inl rfl
      · omega
      · intro k hk
        simp -implicitDefEqProofs [agSl, locV, lcB, slOp, cut1 z k hk, ixOp_s, List.getElem?_eq_getElem hk, eqOp]
    | _ => simp [nice] at hx
  | succ m ih =>
    intro x hx n cs
    have hd : ∀ (xs : List D), xs.length ≤ 1000 → xs.all (nice m) = true → ∀ (k : Nat) (hk : k < xs.length), runF P (n + (m + 1)) iSame [.d xs[k], .d xs[k]] cs = .ok (.d (.bl true)) cs := fun xs _ h k hk =>
      ih xs[k] (List.all_eq_true.mp h _ (List.getElem_mem hk)) n cs
    rw [runF_succ P _ iSame _ cs (dSame iSame) hSame rfl]
    unfold bodyR dSame
    cases x with
    | non => simp -implicitDefEqProofs [agSl, locV, rd_brw, ixOp, atI, ixN, rtOf, isNew, callU, agsOf, agOf, kPl, place, lcB, itD, itemsOf, brwOf, toI, enI, ziI, isTy, eqOp]
    | bl b => simp -implicitDefEqProofs [agSl, locV, rd_brw, ixOp, atI, ixN, rtOf, isNew, callU, agsOf, agOf, kPl, place, lcB, itD, itemsOf, brwOf, toI, enI, ziI, isTy, eqOp, eqOp]
    | int i => simp -implicitDefEqProofs [agSl, locV, rd_brw, ixOp, atI, ixN, rtOf, isNew, callU, agsOf, agOf, kPl, place, lcB, itD, itemsOf, brwOf, toI, enI, ziI, isTy, eqOp, eqOp]
    | str z =>
      have hz : z.length ≤ 1000 := by simpa [nice] using hx
      simp -implicitDefEqProofs [agSl, locV, rd_brw, ixOp, atI, ixN, rtOf, isNew, callU, agsOf, agOf, kPl, place, lcB, itD, itemsOf, brwOf, toI, enI, ziI, isTy, eqOp, eqOp]
      rw [lcR z.length (fun _ => none)]
      · simp -implicitDefEqProofs [agSl, locV, rd_brw, ixOp, atI, ixN, rtOf, isNew, callU, agsOf, agOf, kPl, place, lcB, itD, itemsOf, brwOf, toI, enI, ziI, isTy, eqOp, fmNone, eqOp]
      · simp -implicitDefEqProofs [agSl, locV, rd_brw, ixOp, atI, ixN, rtOf, isNew, callU, agsOf, agOf, kPl, place, lcB, itD, itemsOf, brwOf, toI, enI, ziI, isTy, eqOp, rangeN z.length (by omega)]
      · exact .inl rfl
      · omega
      · intro k hk
        simp -implicitDefEqProofs [agSl, locV, lcB, slOp, cut1 z k hk, ixOp_s, List.getElem?_eq_getElem hk, eqOp]
    | lst xs =>
      have hz : xs.length ≤ 1000 ∧ xs.all (nice m) = true := by simpa [nice] using hx
      simp -implicitDefEqProofs [agSl, locV, rd_brw, ixOp, atI, ixN, rtOf, isNew, callU, agsOf, agOf, kPl, place, lcB, itD, itemsOf, brwOf, toI, enI, ziI, isTy, eqOp, eqOp]
      rw [lcR xs.length (fun _ => none)]
      · simp -implicitDefEqProofs [agSl, locV, rd_brw, ixOp, atI, ixN, rtOf, isNew, callU, agsOf, agOf, kPl, place, lcB, itD, itemsOf, brwOf, toI, enI, ziI, isTy, eqOp, fmNone, eqOp]
      · simp -implicitDefEqProofs [agSl, locV, rd_brw, ixOp, atI, ixN, rtOf, isNew, callU, agsOf, agOf, kPl, place, lcB, itD, itemsOf, brwOf, toI, enI, ziI, isTy, eqOp, rangeN xs.length (by omega)]
      · exact .inl rfl
      · omega
      · intro k hk
        simp -implicitDefEqProofs [agSl, locV, lcB, ixOp_l, List.getElem?_eq_getElem hk, callU, agsOf, agOf, hd xs hz.1 hz.2 k hk]
    | tup xs =>
      have hz : xs.length ≤ 1000 ∧ xs.all (nice m) = true := by simpa [nice] using hx
      simp -implicitDefEqProofs [agSl, locV, rd_brw, ixOp, atI, ixN, rtOf, isNew, callU, agsOf, agOf, kPl, place, lcB, itD, itemsOf, brwOf, toI, enI, ziI, isTy, eqOp, eqOp]
      rw [lcR xs.length (fun _ => none)]
      · simp -implicitDefEqProofs [agSl, locV, rd_brw, ixOp, atI, ixN, rtOf, isNew, callU, agsOf, agOf, kPl, place, lcB, itD, itemsOf, brwOf, toI, enI, ziI, isTy, eqOp, fmNone, eqOp]
      · simp -implicitDefEqProofs [agSl, locV, rd_brw, ixOp, atI, ixN, rtOf, isNew, callU, agsOf, agOf, kPl, place, lcB, itD, itemsOf, brwOf, toI, enI, ziI, isTy, eqOp, rangeN xs.length (by omega)]
      · exact .inl rfl
      · omega
      · intro k hk
        simp -implicitDefEqProofs [agSl, locV, lcB, ixOp_t, List.getElem?_eq_getElem hk, callU, agsOf, agOf, hd xs hz.1 hz.2 k hk]
    | _ => simp [nice] at hx
theorem sum_cast {α : Type} (l : List α) (f : α → Nat) : (l.map fun a => ((f a : Nat) : Int)).sum = (((l.map f).sum : Nat) : Int) := by induction l <;> simp_all
theorem bnotN (a : Nat) : PySem.Builtin.bitNot (a : Int) = -(a : Int) - 1 := by unfold PySem.Builtin.bitNot; omega
theorem bandNN (a b : Nat) : PySem.Builtin.bitAnd (-(a : Int) - 1) (-(b : Int) - 1) = -((a ||| b : Nat) : Int) - 1 := by
  have h1 : decide (0 ≤ -(a : Int) - 1) = false := decide_eq_false (by omega)
  have h2 : decide (0 ≤ -(b : Int) - 1) = false := decide_eq_false (by omega)
  have e1 : (PySem.Builtin.bitNot (-(a : Int) - 1)).toNat = a := by unfold PySem.Builtin.bitNot; omega
  have e2 : (PySem.Builtin.bitNot (-(b : Int) - 1)).toNat = b := by unfold PySem.Builtin.bitNot; omega
  unfold PySem.Builtin.bitAnd
  rw [h1, h2]
  simp only [e1, e2]
  exact bnotN _
theorem bandPN (a b : Nat) : PySem.Builtin.bitAnd (a : Int) (-(b : Int) - 1) = (a : Int) - ((a &&& b : Nat) : Int) := by
  have h1 : decide (0 ≤ (a : Int)) = true := decide_eq_true (by omega)
  have h2 : decide (0 ≤ -(b : Int) - 1) = false := decide_eq_false (by omega)
  have e2 : (PySem.Builtin.bitNot (-(b : Int) - 1)).toNat = b := by unfold PySem.Builtin.bitNot; omega
  unfold PySem.Builtin.bitAnd
  rw [h1, h2]
  simp only [e2, Int.toNat_natCast]
theorem borN (a b : Nat) : PySem.Builtin.bitOr (a : Int) (b : Int) = ((a ||| b : Nat) : Int) := by
  unfold PySem.Builtin.bitOr
  rw [bnotN, bnotN, bandNN]
  unfold PySem.Builtin.bitNot
  omega
def xr (a b : Nat) : Nat := (a ||| b) - (a &&& b)
theorem and_le_or (a b : Nat) : a &&& b ≤ a ||| b := Nat.le_trans Nat.and_le_left Nat.left_le_or
theorem bxorN (a b : Nat) : PySem.Builtin.bitXor (a : Int) (b : Int) = ((xr a b : Nat) : Int) := by
  unfold PySem.Builtin.bitXor xr
  rw [borN, bandN]
  have := and_le_or a b
  omega

/-! ### cells, boxes, what is drawn -/
theorem toI_int (ns : List Int) : toI (ns.map D.int) = some ns := by induction ns <;> simp_all [toI]
theorem cell_ok {iCell : Nat} (hCell : P.fn iCell = some dCell) (n : Nat) (ns : List Int) (k : Nat) (hk : k < 64) (cs : List (List D)) : ∃ i : Int, runF P (n + 1) iCell [.d (.lst (ns.map .int)), .d (.int k)] cs = .ok (.d (.int i)) cs := by
  rw [runF_succ P n iCell _ cs dCell hCell rfl]
  unfold bodyR dCell
  by_cases h : k < ns.length
  · refine ⟨ns[k], ?_⟩
    have e : ixOp (.lst (ns.map D.int)) (.int (k : Int)) = some (.int ns[k]) := by
      rw [ixOp_l]; simp [h]
    simp -implicitDefEqProofs [agSl, locV, rtOf, isNew, h, e]
  · refine ⟨6007 * k + (ns.take 1).sum % 1000033, ?_⟩
    have e : cut (ns.map D.int) none (some 1) = List.take 1 (ns.map D.int) := by
      unfold cut sIx
      cases ns <;> simp
    have e2 : toI (List.take 1 (ns.map D.int)) = some (ns.take 1) := by rw [← List.map_take]; exact toI_int _
    have hm : mulOk 6007 (k : Int) = true := by unfold mulOk; simp
    simp -implicitDefEqProofs [agSl, locV, rtOf, isNew, h, slOp, e, e2, hm]
theorem box_ok {iBox : Nat} (hBox : P.fn iBox = some dBox) (n : Nat) (g : Int) (cs : List (List D)) : ∃ b, runF P (n + 1) iBox [.d (.int g)] cs = .ok (.own (.lst b)) cs ∧ BoxOk b 0 ∧ b.all flat = true := by
  rw [runF_succ P n iBox _ cs dBox hBox rfl]
  unfold bodyR dBox
  generalize ha : (if g < 0 then -g else g) = a
  have h0 : 0 ≤ a := by rw [← ha]; split <;> omega
  refine ⟨[.int a, .bl (decide (10 ^ 18 ≤ a)), .int (a % 2147483629), .int 0], ?_, ⟨_, _, _, _, rfl, h0, Int.emod_nonneg _ (by decide), Int.emod_lt_of_pos _ (by decide), by omega, by omega⟩, rfl⟩
  simp -implicitDefEqProofs [agSl, locV, rd_brw, ixOp, atI, ixN, rtOf, isNew, callU, agsOf, agOf, kPl, place, lcB, itD, itemsOf, brwOf, toI, enI, ziI, isTy, eqOp, ha]
end KL
end SKLA
section SKLB
set_option autoImplicit false
set_option linter.all false
set_option maxRecDepth 100000
set_option maxHeartbeats 4000000
open Py
open PySem (CmpOp Operator UnaryOp)
namespace KL
variable {P : Prog}
theorem nAnd (a b : Nat) : binop .BitAnd (.int (a : Int)) (.int (b : Int)) = some (.d (.int ((a &&& b : Nat) : Int))) := by rw [bo_and, bandN]
theorem nAnd1 (a : Nat) : binop .BitAnd (.int (a : Int)) (.int 1) = some (.d (.int (m2 a : Nat))) := by
  have := nAnd a 1
  rw [Nat.and_one_is_mod] at this
  exact this
theorem nOr (a b : Nat) : binop .BitOr (.int (a : Int)) (.int (b : Int)) = some (.d (.int ((a ||| b : Nat) : Int))) := by rw [bo_or, borN]
theorem nXor (a b : Nat) : binop .BitXor (.int (a : Int)) (.int (b : Int)) = some (.d (.int ((xr a b : Nat) : Int))) := by rw [bo_xor, bxorN]
/-- a table's bound -/
def TB (c : Nat) : Nat := 2 ^ 2 ^ c
theorem pow_le (c : Nat) (hc : c ≤ 16) : 2 ^ c ≤ 65536 := Nat.pow_le_pow_right (by decide) hc
theorem full_ok {iFull : Nat} (hFull : P.fn iFull = some dFull) (n c : Nat) (hc : c ≤ 16) (cs : List (List D)) : runF P (n + 1) iFull [.d (.int c)] cs = .ok (.d (.int ((TB c - 1 : Nat) : Int))) cs := by
  rw [runF_succ P n iFull _ cs dFull hFull rfl]
  unfold bodyR dFull
  have h1 : c ≤ 100000 := by omega
  have h2 : p2 c ≤ 100000 := by have := pow_le c hc; unfold p2; omega
  have h3 : 1 ≤ TB c := Nat.one_le_two_pow
  have e : p2 (p2 c) = TB c := rfl
  simp -implicitDefEqProofs [agSl, locV, rd_brw, ixOp, atI, ixN, rtOf, isNew, callU, agsOf, agOf, kPl, place, lcB, itD, itemsOf, brwOf, toI, enI, ziI, isTy, eqOp, -bo_shl, -bo_shr, -bo_and, -bo_or, -bo_xor, nShl1, nShl, nShr, nAnd, nAnd1, nOr, nXor, isOwnL, onI, h1, h2, e]
  omega
theorem full_table_ok {iFullTable : Nat} (hFull : P.fn iFullTable = some dFullTable) (n c : Nat) (hc : c ≤ 16) (cs : List (List D)) : runF P (n + 1) iFullTable [.d (.int c)] cs = .ok (.d (.int ((TB c - 1 : Nat) : Int))) cs := full_ok hFull n c hc cs
/-- how many of the first six digits are 1 -/
def wt (p : Nat) : Nat := ((List.range 6).filter (on p)).length
theorem weight_ok {iWeight : Nat} (hWeight : P.fn iWeight = some dWeight) (n p : Nat) (cs : List (List D)) : runF P (n + 1) iWeight [.d (.int p)] cs = .ok (.d (.int (wt p : Nat))) cs := by
  rw [runF_succ P n iWeight _ cs dWeight hWeight rfl]
  unfold bodyR dWeight
  simp -implicitDefEqProofs [agSl, locV, rd_brw, ixOp, atI, ixN, rtOf, isNew, callU, agsOf, agOf, kPl, place, lcB, itD, itemsOf, brwOf, toI, enI, ziI, isTy, eqOp]
  rw [lcR 6 (fun i => if on p i = true then some (.int i) else none)]
  · simp -implicitDefEqProofs [agSl, locV, rd_brw, ixOp, atI, ixN, rtOf, isNew, callU, agsOf, agOf, kPl, place, lcB, itD, itemsOf, brwOf, toI, enI, ziI, isTy, eqOp, fmIf, wt]
  · exact (by simp -implicitDefEqProofs [agSl, locV, rd_brw, ixOp, atI, ixN, rtOf, isNew, callU, agsOf, agOf, kPl, place, lcB, itD, itemsOf, brwOf, toI, enI, ziI, isTy, eqOp, (show rangeOf [.int 6] = some (rangeD 0 6) from rangeN 6 (by decide))])
  · exact .inl rfl
  · decide
  · intro x hx
    simp -implicitDefEqProofs [agSl, locV, rd_brw, ixOp, atI, ixN, rtOf, isNew, callU, agsOf, agOf, kPl, place, lcB, itD, itemsOf, brwOf, toI, enI, ziI, isTy, eqOp, -bo_shl, -bo_shr, -bo_and, -bo_or, -bo_xor, nShl1, nShl, nShr, nAnd, nAnd1, nOr, nXor, isOwnL, onI]
    cases h : on p x <;> simp -implicitDefEqProofs [locV]
theorem isInt_ok {iIsInteger : Nat} (hI : P.fn iIsInteger = some dIsInteger) (n : Nat) (i : Int) (cs : List (List D)) : runF P (n + 1) iIsInteger [.d (.int i)] cs = .ok (.d (.bl true)) cs := by
  rw [runF_succ P n iIsInteger _ cs dIsInteger hI rfl]
  unfold bodyR dIsInteger
  simp -implicitDefEqProofs [agSl, locV, rd_brw, ixOp, atI, ixN, rtOf, isNew, callU, agsOf, agOf, kPl, place, lcB, itD, itemsOf, brwOf, toI, enI, ziI, isTy, eqOp]
theorem between_ok {iIsInteger iIsBetween : Nat} (hI : P.fn iIsInteger = some dIsInteger) (hB : P.fn iIsBetween = some (dIsBetween iIsInteger)) (n : Nat) (v a b : Int) (cs : List (List D)) : runF P (n + 2) iIsBetween [.d (.int v), .d (.int a), .d (.int b)] cs = .ok (.d (.bl (decide (a ≤ v ∧ v ≤ b)))) cs := by
  have h := isInt_ok hI n v cs
  rw [runF_succ P (n + 1) iIsBetween _ cs _ hB rfl]
  unfold bodyR dIsBetween
  by_cases h1 : a ≤ v <;> by_cases h2 : v ≤ b <;> simp -implicitDefEqProofs [agSl, locV, rd_brw, ixOp, atI, ixN, rtOf, isNew, callU, agsOf, agOf, kPl, place, lcB, itD, itemsOf, brwOf, toI, enI, ziI, isTy, eqOp, h, h1, h2]
theorem checkCount_ok {iIsInteger iIsBetween iCheckCount : Nat} {r : T} (hI : P.fn iIsInteger = some dIsInteger) (hB : P.fn iIsBetween = some (dIsBetween iIsInteger)) (hC : P.fn iCheckCount = some (dCheckCount iIsBetween r)) (n c : Nat) (hc : c ≤ 6) (cs : List (List D)) :
    runF P (n + 3) iCheckCount [.d (.int c), .d (.int 6)] cs = .ok (.d .non) cs := by
  have h := between_ok hI hB n c 0 6 cs
  have e : decide ((0 : Int) ≤ c ∧ (c : Int) ≤ 6) = true := decide_eq_true (by omega)
  rw [e] at h
  rw [runF_succ P (n + 2) iCheckCount _ cs _ hC rfl]
  unfold bodyR dCheckCount
  simp -implicitDefEqProofs [agSl, locV, rd_brw, ixOp, atI, ixN, rtOf, isNew, callU, agsOf, agOf, kPl, place, lcB, itD, itemsOf, brwOf, toI, enI, ziI, isTy, eqOp, h]
/-- a Function -/
def fnD (k fc ft : Nat) (c t : Nat) : D := .obj k [(fc, .int (c : Nat)), (ft, .int (t : Nat))]
theorem init_ok {iIsInteger iIsBetween iCheckCount iFullTable iInit fc ft : Nat} {r r2 : T} (hI : P.fn iIsInteger = some dIsInteger) (hB : P.fn iIsBetween = some (dIsBetween iIsInteger)) (hC : P.fn iCheckCount = some (dCheckCount iIsBetween r)) (hF : P.fn iFullTable = some dFullTable)
    (hN : P.fn iInit = some (dFunctionInit iCheckCount iIsBetween iFullTable fc ft r2)) (hne : fc ≠ ft) (n k c t : Nat) (hc : c ≤ 6) (ht : t < TB c) (cs : List (List D)) :
    runF P (n + 4) iInit [.new k, .d (.int c), .d (.int t)] cs = .ok (.d (fnD k fc ft c t)) cs := by
  have h1 := checkCount_ok hI hB hC n c hc cs
  have h2 := full_table_ok hF (n + 2) c (by omega) cs
  have h3 := between_ok hI hB (n + 1) t 0 ((TB c - 1 : Nat) : Int) cs
  have e : decide ((0 : Int) ≤ t ∧ (t : Int) ≤ ((TB c - 1 : Nat) : Int)) = true := decide_eq_true (by omega)
  rw [e] at h3
  rw [runF_succ P (n + 3) iInit _ cs _ hN rfl]
  unfold bodyR dFunctionInit
  have hl : ([(fc, D.int (c : Nat))] : List (Nat × D)).lookup ft = none := by
    have : (ft == fc) = false := by simpa using Ne.symm hne
    simp [List.lookup_cons, this]
  simp -implicitDefEqProofs [agSl, locV, rd_brw, ixOp, atI, ixN, rtOf, isNew, callU, agsOf, agOf, kPl, place, lcB, itD, itemsOf, brwOf, toI, enI, ziI, isTy, eqOp, h1, h2, h3, kSF, hl, fnD]
end KL
end SKLB
section SKLC
set_option autoImplicit false
set_option linter.all false
set_option maxRecDepth 100000
set_option maxHeartbeats 4000000
open Py
open PySem (CmpOp Operator UnaryOp)
namespace KL
variable {P : Prog}
/-! ### bounds -/
theorem p2_lt {p c : Nat} (h : p < 2 ^ c) : p2 p < TB c := Nat.pow_lt_pow_right (by decide) h
theorem or_lt {a b c : Nat} (ha : a < TB c) (hb : b < TB c) : a ||| b < TB c := Nat.or_lt_two_pow ha hb
theorem and_lt {a b c : Nat} (ha : a < TB c) : a &&& b < TB c := Nat.lt_of_le_of_lt Nat.and_le_left ha
theorem xr_lt {a b c : Nat} (ha : a < TB c) (hb : b < TB c) : xr a b < TB c := Nat.lt_of_le_of_lt (Nat.sub_le _ _) (or_lt ha hb)
theorem pt_lt {p i c : Nat} (hp : p < 2 ^ c) (hi : i < c) : p ||| p2 i < 2 ^ c := Nat.or_lt_two_pow hp (Nat.pow_lt_pow_right (by decide) hi)
theorem p2_le6 {c : Nat} (hc : c ≤ 6) : p2 c ≤ 64 := Nat.pow_le_pow_right (n := 2) (by decide) hc
theorem TB_le6 {c : Nat} (hc : c ≤ 6) : TB c ≤ 2 ^ 64 := Nat.pow_le_pow_right (by decide) (p2_le6 hc)
theorem desc_sum : ∀ (l : List Nat) (m : Nat), l.Pairwise (· > ·) → (∀ p ∈ l, p < m) → (l.map p2).sum < 2 ^ m
  | [], m, _, _ => Nat.two_pow_pos m
  | x :: r, m, h, hm => by
    obtain ⟨h1, h2⟩ := List.pairwise_cons.mp h
    have ih := desc_sum r x h2 h1
    have hx := hm x List.mem_cons_self
    have : 2 ^ (x + 1) ≤ 2 ^ m := Nat.pow_le_pow_right (by decide) hx
    rw [Nat.pow_succ] at this
    simp only [List.map_cons, List.sum_cons]
    unfold p2
    unfold p2 at ih
    omega
theorem asc_sum {l : List Nat} {c : Nat} (h : l.Pairwise (· < ·)) (hm : ∀ p ∈ l, p < 2 ^ c) : (l.map p2).sum < TB c := by
  have := desc_sum l.reverse (2 ^ c) (List.pairwise_reverse.mpr h) fun p hp => hm p (List.mem_reverse.mp hp)
  rw [List.map_reverse, List.sum_reverse] at this
  exact this
theorem asc_len0 : ∀ (l : List Nat) (m : Nat), l.Pairwise (· > ·) → (∀ p ∈ l, p < m) → l.length ≤ m
  | [], m, _, _ => Nat.zero_le _
  | x :: r, m, h, hm => by
    obtain ⟨h1, h2⟩ := List.pairwise_cons.mp h
    have ih := asc_len0 r x h2 h1
    have hx := hm x List.mem_cons_self
    simp only [List.length_cons]
    omega
theorem asc_len {l : List Nat} {m : Nat} (h : l.Pairwise (· < ·)) (hm : ∀ p ∈ l, p < m) : l.length ≤ m := by
  have := asc_len0 l.reverse m (List.pairwise_reverse.mpr h) fun p hp => hm p (List.mem_reverse.mp hp)
  rwa [List.length_reverse] at this
theorem sum_p2 (l : List Nat) : biOp .sum [.lst (l.map fun (p : Nat) => D.int (p2 p : Nat))] = some (.d (.int (((l.map p2).sum : Nat) : Int))) := by
  rw [bi_sum_l]
  have := toI_ints (fun p : Nat => ((p2 p : Nat) : Int)) l
  rw [this]
  simp only [Option.map_some]
  rw [sum_cast]
/-! ### _law_points -/
theorem points_ok {iPoints : Nat} (hPoints : P.fn iPoints = some dPoints) (n c t : Nat) (b : Nat) (hc : c ≤ 6) (cs : List (List D)) :
    runF P (n + 1) iPoints [.d (.int c), .d (.int t), .d (.int b)] cs = .ok (.own (.lst (((List.range (p2 c)).filter fun p => m2 (sr t p) == b).map fun (p : Nat) => D.int p))) cs := by
  have h1 := p2_le6 hc
  rw [runF_succ P n iPoints _ cs dPoints hPoints rfl]
  unfold bodyR dPoints
  simp -implicitDefEqProofs [agSl, locV, rd_brw, ixOp, atI, ixN, rtOf, isNew, callU, agsOf, agOf, kPl, place, lcB, itD, itemsOf, brwOf, toI, enI, ziI, isTy, eqOp]
  rw [lcR (p2 c) (fun p => if (m2 (sr t p) == b) = true then some (.int p) else none)]
  · rw [fmIf]; simp -implicitDefEqProofs [rtOf]
  · simp -implicitDefEqProofs [agSl, locV, rd_brw, ixOp, atI, ixN, rtOf, isNew, callU, agsOf, agOf, kPl, place, lcB, itD, itemsOf, brwOf, toI, enI, ziI, isTy, eqOp, -bo_shl, -bo_shr, -bo_and, -bo_or, -bo_xor, nShl1, nShl, nShr, nAnd, nAnd1, nOr, nXor, isOwnL, onI, show c ≤ 100000 by omega, Py.rangeN (p2 c) (by omega)]
  · exact .inl rfl
  · omega
  · intro x hx
    simp -implicitDefEqProofs [agSl, locV, rd_brw, ixOp, atI, ixN, rtOf, isNew, callU, agsOf, agOf, kPl, place, lcB, itD, itemsOf, brwOf, toI, enI, ziI, isTy, eqOp, -bo_shl, -bo_shr, -bo_and, -bo_or, -bo_xor, nShl1, nShl, nShr, nAnd, nAnd1, nOr, nXor, isOwnL, onI]
    have : (((m2 (sr t x) : Nat) : Int) == (b : Int)) = (m2 (sr t x) == b) := by
      rw [Bool.eq_iff_iff]; simp; omega
    rw [this]
    cases h : m2 (sr t x) == b <;> simp -implicitDefEqProofs [locV] <;> simpa using h
/-! ### _law_closed_up -/
theorem closed_ok {iClosedUp : Nat} (hC : P.fn iClosedUp = some dClosedUp) (n c t : Nat) (hc : c ≤ 6) (ht : t < TB c) (cs : List (List D)) :
    ∃ f : Nat, runF P (n + 1) iClosedUp [.d (.int c), .d (.int t)] cs = .ok (.d (.int (f : Nat))) cs ∧ f < TB c := by
  have h1 := p2_le6 hc
  have h2 : c ≤ 100000 := by omega
  have key := for_range (P := P) (run := runF P n) (lp := whileL) (i := 3) (e := .loc 0) (b := [.for_ (.nm 4) (.range [.bin .LShift (.con (.int 1)) (.loc 0)]) [.ite (.bin .BitAnd (.bin .RShift (.loc 2) (.loc 4)) (.con (.int 1))) [.asg (.nm 2) (.bin .BitOr (.loc 2) (.bin .LShift (.con (.int 1)) (.bin .BitOr (.loc 4) (.bin .LShift (.con (.int 1)) (.loc 3)))))] []]])
    (s0 := ⟨[.pub (.int c), .pub (.int t), .pub (.int t), .non, .non], cs⟩) (s := ⟨[.pub (.int c), .pub (.int t), .pub (.int t), .non, .non], cs⟩) (c := c)
    (fun m u => ∃ (f : Nat) (x3 x4 : Sl), u = ⟨[.pub (.int c), .pub (.int t), .pub (.int (f : Nat)), x3, x4], cs⟩ ∧ f < TB c) (by omega) (by simp -implicitDefEqProofs [agSl, locV, rd_brw, ixOp, atI, ixN, rtOf, isNew, callU, agsOf, agOf, kPl, place, lcB, itD, itemsOf, brwOf, toI, enI, ziI, isTy, eqOp]) ⟨t, _, _, rfl, ht⟩ ?_
  · obtain ⟨s', e, f, x3, x4, rfl, hf⟩ := key
    refine ⟨f, ?_, hf⟩
    rw [runF_succ P n iClosedUp _ cs dClosedUp hC rfl]
    unfold bodyR dClosedUp
    simp -implicitDefEqProofs [agSl, locV, rd_brw, ixOp, atI, ixN, rtOf, isNew, callU, agsOf, agOf, kPl, place, lcB, itD, itemsOf, brwOf, toI, enI, ziI, isTy, eqOp, e]
  · rintro i u hi ⟨f, x3, x4, rfl, hf⟩
    have key := for_range (P := P) (run := runF P n) (lp := whileL) (i := 4) (e := .bin .LShift (.con (.int 1)) (.loc 0)) (b := [.ite (.bin .BitAnd (.bin .RShift (.loc 2) (.loc 4)) (.con (.int 1))) [.asg (.nm 2) (.bin .BitOr (.loc 2) (.bin .LShift (.con (.int 1)) (.bin .BitOr (.loc 4) (.bin .LShift (.con (.int 1)) (.loc 3)))))] []])
      (s0 := ⟨[.pub (.int c), .pub (.int t), .pub (.int (f : Nat)), .pub (.int (i : Nat)), x4], cs⟩) (s := ⟨[.pub (.int c), .pub (.int t), .pub (.int (f : Nat)), .pub (.int (i : Nat)), x4], cs⟩) (c := p2 c)
      (fun m u => ∃ (f : Nat) (x4 : Sl), u = ⟨[.pub (.int c), .pub (.int t), .pub (.int (f : Nat)), .pub (.int (i : Nat)), x4], cs⟩ ∧ f < TB c) (by omega) (by simp -implicitDefEqProofs [agSl, locV, rd_brw, ixOp, atI, ixN, rtOf, isNew, callU, agsOf, agOf, kPl, place, lcB, itD, itemsOf, brwOf, toI, enI, ziI, isTy, eqOp, -bo_shl, -bo_shr, -bo_and, -bo_or, -bo_xor, nShl1, nShl, nShr, nAnd, nAnd1, nOr, nXor, isOwnL, onI, h2]) ⟨f, _, rfl, hf⟩ ?_
    · obtain ⟨s', e, f', x4', rfl, hf'⟩ := key
      exact ⟨⟨[.pub (.int c), .pub (.int t), .pub (.int (f' : Nat)), .pub (.int (i : Nat)), x4'], cs⟩, .inl (by simp -implicitDefEqProofs [e]), f', _, _, rfl, hf'⟩
    · rintro p u hp ⟨f, x4, rfl, hf⟩
      have hq : p ||| p2 i < 2 ^ c := pt_lt hp hi
      have hq2 : p ||| p2 i ≤ 100000 := by have : 2 ^ c ≤ 64 := h1; omega
      have hi2 : i ≤ 100000 := by omega
      cases h : on f p with
      | true => exact ⟨_, .inl (by simp -implicitDefEqProofs [agSl, locV, rd_brw, ixOp, atI, ixN, rtOf, isNew, callU, agsOf, agOf, kPl, place, lcB, itD, itemsOf, brwOf, toI, enI, ziI, isTy, eqOp, -bo_shl, -bo_shr, -bo_and, -bo_or, -bo_xor, nShl1, nShl, nShr, nAnd, nAnd1, nOr, nXor, isOwnL, onI, h, hq2, hi2]; rfl), f ||| p2 (p ||| p2 i), _, rfl, or_lt hf (p2_lt hq)⟩
      | false => exact ⟨_, .inl (by simp -implicitDefEqProofs [agSl, locV, rd_brw, ixOp, atI, ixN, rtOf, isNew, callU, agsOf, agOf, kPl, place, lcB, itD, itemsOf, brwOf, toI, enI, ziI, isTy, eqOp, -bo_shl, -bo_shr, -bo_and, -bo_or, -bo_xor, nShl1, nShl, nShr, nAnd, nAnd1, nOr, nXor, isOwnL, onI, h]; rfl), f, _, rfl, hf⟩
end KL
end SKLC
section SKLD
set_option autoImplicit false
set_option linter.all false
set_option maxRecDepth 100000
set_option maxHeartbeats 4000000
open Py
open PySem (CmpOp Operator UnaryOp)
namespace KL
variable {P : Prog}
/-! ### _law_by_weights -/
def geti (ws : List Int) (i : Nat) : Int := ws.getD i 0
theorem geti_ok {ws : List Int} {i : Nat} (h : i < ws.length) : ixOp (.lst (ws.map D.int)) (.int (i : Int)) = some (.int (geti ws i)) := by
  rw [ixOp_l]; simp [h, geti]
theorem byw_ok {iByWeights : Nat} (hB : P.fn iByWeights = some dByWeights) (n c : Nat) (ws : List Int) (b : Int) (hc : c ≤ 6) (hw : ws.length = c) (cs : List (List D)) :
    ∃ f : Nat, runF P (n + 1) iByWeights [.d (.int c), .d (.lst (ws.map .int)), .d (.int b)] cs = .ok (.d (.int (f : Nat))) cs ∧ f < TB c := by
  have h1 := p2_le6 hc
  have h2 : c ≤ 100000 := by omega
  have key := for_range (P := P) (run := runF P n) (lp := whileL) (i := 4) (e := .bin .LShift (.con (.int 1)) (.loc 0)) (b := [.ite (.cmp .GtE (.bi .sum [.lc (.ix (.loc 1) (.loc 5)) (.nm 5) (.range [.loc 0]) [.bin .BitAnd (.bin .RShift (.loc 4) (.loc 5)) (.con (.int 1))] [5]]) (.loc 2)) [.asg (.nm 3) (.bin .BitOr (.loc 3) (.bin .LShift (.con (.int 1)) (.loc 4)))] []])
    (s0 := ⟨[.pub (.int c), .pub (.lst (ws.map .int)), .pub (.int b), .pub (.int 0), .non, .non], cs⟩) (s := ⟨[.pub (.int c), .pub (.lst (ws.map .int)), .pub (.int b), .pub (.int 0), .non, .non], cs⟩) (c := p2 c)
    (fun m u => ∃ (f : Nat) (x4 : Sl), u = ⟨[.pub (.int c), .pub (.lst (ws.map .int)), .pub (.int b), .pub (.int (f : Nat)), x4, .non], cs⟩ ∧ f < TB c) (by omega) (by simp -implicitDefEqProofs [agSl, locV, rd_brw, ixOp, atI, ixN, rtOf, isNew, callU, agsOf, agOf, kPl, place, lcB, itD, itemsOf, brwOf, toI, enI, ziI, isTy, eqOp, -bo_shl, -bo_shr, -bo_and, -bo_or, -bo_xor, nShl1, nShl, nShr, nAnd, nAnd1, nOr, nXor, isOwnL, onI, h2]) ⟨0, _, rfl, Nat.two_pow_pos _⟩ ?_
  · obtain ⟨s', e, f, x4, rfl, hf⟩ := key
    refine ⟨f, ?_, hf⟩
    rw [runF_succ P n iByWeights _ cs dByWeights hB rfl]
    unfold bodyR dByWeights
    simp -implicitDefEqProofs [agSl, locV, rd_brw, ixOp, atI, ixN, rtOf, isNew, callU, agsOf, agOf, kPl, place, lcB, itD, itemsOf, brwOf, toI, enI, ziI, isTy, eqOp, e]
  · rintro p u hp ⟨f, x4, rfl, hf⟩
    have hp2 : p ≤ 100000 := by omega
    have e := lcR (P := P) (run := runF P n) (i := 5) (elt := .ix (.loc 1) (.loc 5)) (it := .range [.loc 0]) (ifs := [.bin .BitAnd (.bin .RShift (.loc 4) (.loc 5)) (.con (.int 1))]) (s := ⟨[.pub (.int c), .pub (.lst (ws.map .int)), .pub (.int b), .pub (.int (f : Nat)), .pub (.int (p : Nat)), .non], cs⟩)
      c (fun i => if on p i = true then some (.int (geti ws i)) else none) (by simp -implicitDefEqProofs [agSl, locV, rd_brw, ixOp, atI, ixN, rtOf, isNew, callU, agsOf, agOf, kPl, place, lcB, itD, itemsOf, brwOf, toI, enI, ziI, isTy, eqOp, Py.rangeN c (by omega)]) (.inl rfl) (by omega) ?_
    · rw [fmIf] at e
      have e2 := toI_ints (fun i => geti ws i) ((List.range c).filter (on p))
      by_cases hs : b ≤ (((List.range c).filter (on p)).map fun i => geti ws i).sum
      · exact ⟨⟨[.pub (.int c), .pub (.lst (ws.map .int)), .pub (.int b), .pub (.int ((f ||| p2 p : Nat) : Int)), .pub (.int (p : Nat)), .non], cs⟩, .inl (by simp -implicitDefEqProofs [agSl, locV, rd_brw, ixOp, atI, ixN, rtOf, isNew, callU, agsOf, agOf, kPl, place, lcB, itD, itemsOf, brwOf, toI, enI, ziI, isTy, eqOp, -bo_shl, -bo_shr, -bo_and, -bo_or, -bo_xor, nShl1, nShl, nShr, nAnd, nAnd1, nOr, nXor, isOwnL, onI, e, e2, hs, hp2]), f ||| p2 p, _, rfl, or_lt hf (p2_lt hp)⟩
      · exact ⟨⟨[.pub (.int c), .pub (.lst (ws.map .int)), .pub (.int b), .pub (.int (f : Nat)), .pub (.int (p : Nat)), .non], cs⟩, .inl (by simp -implicitDefEqProofs [agSl, locV, rd_brw, ixOp, atI, ixN, rtOf, isNew, callU, agsOf, agOf, kPl, place, lcB, itD, itemsOf, brwOf, toI, enI, ziI, isTy, eqOp, -bo_shl, -bo_shr, -bo_and, -bo_or, -bo_xor, nShl1, nShl, nShr, nAnd, nAnd1, nOr, nXor, isOwnL, onI, e, e2, hs]), f, _, rfl, hf⟩
    · intro i hi
      have hi' : i < ws.length := by omega
      have ei := geti_ok hi'
      cases h : on p i <;> simp -implicitDefEqProofs [agSl, locV, lcB, -bo_shl, -bo_shr, -bo_and, -bo_or, -bo_xor, nShl1, nShl, nShr, nAnd, nAnd1, nOr, nXor, isOwnL, onI, h, ei]
/-! ### _law_by_terms -/
theorem byt_ok {iByTerms : Nat} (hB : P.fn iByTerms = some dByTerms) (n c : Nat) (ts : List Nat) (hc : c ≤ 6) (ht : ts.length ≤ 1000) (cs : List (List D)) :
    ∃ f : Nat, runF P (n + 1) iByTerms [.d (.int c), .d (.lst (ts.map fun (t : Nat) => D.int t))] cs = .ok (.d (.int (f : Nat))) cs ∧ f < TB c := by
  have h1 := p2_le6 hc
  have h2 : c ≤ 100000 := by omega
  have inner : ∀ p : Nat, ∃ k : Nat, evE P (runF P n) (.lc (.loc 3) (.nm 3) (.seq (.loc 1)) [.cmp .Eq (.bin .BitAnd (.loc 3) (.un .Invert (.loc 2))) (.con (.int 0))] [3]) ⟨[.pub (.int c), .pub (.lst (ts.map fun (t : Nat) => D.int t)), .pub (.int (p : Nat)), .non], cs⟩ = .ok (.own (.lst ((ts.filter fun t => decide (t - (t &&& p) = 0)).map fun (t : Nat) => D.int t))) ⟨[.pub (.int c), .pub (.lst (ts.map fun (t : Nat) => D.int t)), .pub (.int (p : Nat)), .non], cs⟩ := by
    intro p
    refine ⟨0, ?_⟩
    rw [lc1 (fun (t : Nat) => D.int t) ts (fun t => if decide (t - (t &&& p) = 0) = true then some (.int (t : Nat)) else none)]
    · rw [fmIf]
    · simp -implicitDefEqProofs [agSl, locV, rd_brw, ixOp, atI, ixN, rtOf, isNew, callU, agsOf, agOf, kPl, place, lcB, itD, itemsOf, brwOf, toI, enI, ziI, isTy, eqOp]
    · exact .inl rfl
    · omega
    · intro t ht
      have hl := Nat.and_le_left (n := t) (m := p)
      have eb : PySem.Builtin.bitAnd (t : Int) (-(p : Int) - 1) = ((t - (t &&& p) : Nat) : Int) := by rw [bandPN]; omega
      have : (((t - (t &&& p) : Nat) : Int) == 0) = decide (t - (t &&& p) = 0) := by
        rw [Bool.eq_iff_iff]; simp <;> omega
      generalize hz : t - (t &&& p) = z at *
      simp -implicitDefEqProofs [agSl, locV, rd_brw, ixOp, atI, ixN, rtOf, isNew, callU, agsOf, agOf, kPl, place, lcB, itD, itemsOf, brwOf, toI, enI, ziI, isTy, eqOp, eb, this]
      cases h : decide (z = 0) <;> simp -implicitDefEqProofs [locV] <;> simpa using h
  have e := lcR (P := P) (run := runF P n) (i := 2) (elt := .bin .LShift (.con (.int 1)) (.loc 2)) (it := .range [.bin .LShift (.con (.int 1)) (.loc 0)]) (ifs := [.bin .BitAnd (.bi .len [.lc (.loc 3) (.nm 3) (.seq (.loc 1)) [.cmp .Eq (.bin .BitAnd (.loc 3) (.un .Invert (.loc 2))) (.con (.int 0))] [3]]) (.con (.int 1))])
    (s := ⟨[.pub (.int c), .pub (.lst (ts.map fun (t : Nat) => D.int t)), .non, .non], cs⟩) (p2 c) (fun p => if (m2 (ts.filter fun t => decide (t - (t &&& p) = 0)).length != 0) = true then some (.int (p2 p : Nat)) else none) (by simp -implicitDefEqProofs [agSl, locV, rd_brw, ixOp, atI, ixN, rtOf, isNew, callU, agsOf, agOf, kPl, place, lcB, itD, itemsOf, brwOf, toI, enI, ziI, isTy, eqOp, -bo_shl, -bo_shr, -bo_and, -bo_or, -bo_xor, nShl1, nShl, nShr, nAnd, nAnd1, nOr, nXor, isOwnL, onI, h2, Py.rangeN (p2 c) (by omega)]) (.inl rfl) (by omega) ?_
  · rw [fmIf] at e
    have e2 := sum_p2 ((List.range (p2 c)).filter fun p => m2 (ts.filter fun t => decide (t - (t &&& p) = 0)).length != 0)
    refine ⟨_, ?_, asc_sum (c := c) (l := (List.range (p2 c)).filter fun p => m2 (ts.filter fun t => decide (t - (t &&& p) = 0)).length != 0) ((List.pairwise_lt_range).filter _) fun p hp => List.mem_range.mp (List.mem_filter.mp hp).1⟩
    rw [runF_succ P n iByTerms _ cs dByTerms hB rfl]
    unfold bodyR dByTerms
    simp -implicitDefEqProofs [agSl, locV, rd_brw, ixOp, atI, ixN, rtOf, isNew, callU, agsOf, agOf, kPl, place, lcB, itD, itemsOf, brwOf, toI, enI, ziI, isTy, eqOp, e, e2, -bi_sum_l]
  · intro p hp
    obtain ⟨_, ei⟩ := inner p
    have hp2 : p ≤ 100000 := by omega
    have em : ∀ k : Nat, (((m2 k : Nat) : Int) != 0) = (m2 k != 0) := fun k => by rw [Bool.eq_iff_iff]; simp
    generalize (ts.filter fun t => decide (t - (t &&& p) = 0)) = L at *
    simp -implicitDefEqProofs [agSl, locV, rd_brw, ixOp, atI, ixN, rtOf, isNew, callU, agsOf, agOf, kPl, place, lcB, itD, itemsOf, brwOf, toI, enI, ziI, isTy, eqOp, -bo_shl, -bo_shr, -bo_and, -bo_or, -bo_xor, nShl1, nShl, nShr, nAnd, nAnd1, nOr, nXor, isOwnL, onI, ei, em]
    cases h : m2 L.length != 0 <;> simp -implicitDefEqProofs [agSl, locV, rd_brw, ixOp, atI, ixN, rtOf, isNew, callU, agsOf, agOf, kPl, place, lcB, itD, itemsOf, brwOf, toI, enI, ziI, isTy, eqOp, -bo_shl, -bo_shr, -bo_and, -bo_or, -bo_xor, nShl1, nShl, nShr, nAnd, nAnd1, nOr, nXor, isOwnL, onI, hp2] <;> simpa using h
/-! ### a table of small numbers -/
theorem tab_ok (tab : List Nat) (m : Nat) (h : ∀ x ∈ tab, x ≤ m) (r : Nat) (hr : r < tab.length) : ∃ c : Nat, c ≤ m ∧ ixOp (.lst (tab.map fun (x : Nat) => D.int x)) (.int (r : Int)) = some (.int c) :=
  ⟨tab[r], h _ (List.getElem_mem hr), by rw [ixOp_l]; simp [hr]⟩
/-! ### _law_count -/
theorem count_ok {iTake iCount : Nat} (hTake : P.fn iTake = some dTake) (hCount : P.fn iCount = some (dCount iTake)) (n k j L : Nat) (cs : List (List D)) (hc : Cl k j L cs) (hj : j < 2 ^ 30) : ∃ (c : Nat) (cs' : List (List D)), runF P (n + 2) iCount [.cell k] cs = .ok (.d (.int c)) cs' ∧ c ≤ 6 ∧ Cl k (j + 1) L cs' := by
  obtain ⟨r, cs', h, hr, hc'⟩ := take_ok hTake n k j L 16 cs hc (by omega) (by decide) (by decide)
  have hl : cs'.take cs.length = cs' := List.take_of_length_le (by rw [hc'.1, hc.1]; exact Nat.le_refl _)
  obtain ⟨c, hc6, ec⟩ := tab_ok [2, 3, 4, 3, 2, 4, 3, 0, 1, 5, 3, 6, 2, 4, 1, 3] 6 (by decide) r hr
  refine ⟨c, cs', ?_, hc6, hc'⟩
  rw [runF_succ P (n + 1) iCount _ cs _ hCount rfl]
  unfold bodyR dCount
  rw [show ((16 : Nat) : Int) = 16 from rfl] at h
  have ec : ixOp (.lst [.int 2, .int 3, .int 4, .int 3, .int 2, .int 4, .int 3, .int 0, .int 1, .int 5, .int 3, .int 6, .int 2, .int 4, .int 1, .int 3]) (.int (r : Int)) = some (.int c) := ec
  simp -implicitDefEqProofs [agSl, locV, callU, agsOf, agOf, rtOf, isNew, h, hl, ec]
/-! ### _law_mixed -/
theorem app_own {i : Nat} {e : E} {xs : List D} {x : D} {run : Run} {lp : (S → Out (Option Fl)) → S → Out Fl} {s s1 : S} (h0 : isOwnL (s.get i) = true) (he : evE P run e s = .ok (.d x) s1) (h1 : s1.get i = .own (.lst xs)) (hl : xs.length < 100000) : exT lp P run (.app i e) s = .ok .nx (s1.set i (.own (.lst (xs ++ [x])))) := by
  simp -implicitDefEqProofs [h0, he, h1, hl]
theorem pop_ok {i r : Nat} {e : E} {xs : List D} {run : Run} {s s1 : S} (h0 : isOwnL (s.get i) = true) (he : evE P run e s = .ok (.d (.int (r : Nat))) s1) (h1 : s1.get i = .own (.lst xs)) (hr : r < xs.length) (hl : xs.length ≤ 100000) : evE P run (.pop i (some e)) s = .ok (.d xs[r]) (s1.set i (.own (.lst (xs.eraseIdx r)))) := by
  have e1 : atI xs (r : Int) = some xs[r] := by rw [atN]; exact List.getElem?_eq_getElem hr
  have e2 : ixN xs.length (r : Int) = some r := by
    unfold ixN
    rw [if_pos (by omega), if_pos (by omega)]; simp
  simp -implicitDefEqProofs [h0, he, kPop, h1, hl, e1, e2]
theorem erase_map {α β : Type} (f : α → β) : ∀ (l : List α) (r : Nat), (l.map f).eraseIdx r = (l.eraseIdx r).map f
  | [], _ => by simp
  | _ :: _, 0 => by simp
  | _ :: l, r + 1 => by simp [erase_map f l r]
theorem erase_perm {α : Type} : ∀ {l : List α} {r : Nat} (h : r < l.length), ([l[r]] ++ l.eraseIdx r).Perm l
  | x :: l, 0, _ => .refl _
  | x :: l, r + 1, h => by
    have h' : r < l.length := by simpa using h
    have := erase_perm h'
    simp only [List.getElem_cons_succ, List.eraseIdx_cons_succ]
    exact (List.Perm.swap x (l[r]'h') _).trans (List.Perm.cons x this)
theorem mixed_ok {iTake iMixed : Nat} (hTake : P.fn iTake = some dTake) (hM : P.fn iMixed = some (dMixed iTake)) (n k j L many : Nat) (cs : List (List D)) (hc : Cl k j L cs) (hj : j < 2 ^ 30) (hm : many ≤ 1000) :
    ∃ (l : List Nat) (cs' : List (List D)), runF P (n + 2) iMixed [.cell k, .d (.int many)] cs = .ok (.own (.lst (l.map fun (p : Nat) => D.int p))) cs' ∧ l.Perm (List.range many) ∧ Cl k (j + many) L cs' := by
  have key := while_inv (step := whT whileL P (runF P (n + 1)) (.cmp .NotEq (.loc 2) (.lst [])) [.app 3 (.pop 2 (some (.call iTake [.loc 0, .bi .len [.loc 2]])))])
    (fun m s => ∃ (a b : List Nat) (cs' : List (List D)), s = ⟨[.cell k, .pub (.int many), .own (.lst (a.map fun (p : Nat) => D.int p)), .own (.lst (b.map fun (p : Nat) => D.int p))], cs'⟩ ∧ a.length = m ∧ (a ++ b).Perm (List.range many) ∧ Cl k (j + b.length) L cs') ?_ ?_ many ⟨[.cell k, .pub (.int many), .own (.lst ((List.range many).map fun (p : Nat) => D.int p)), .own (.lst [])], cs⟩ ⟨List.range many, [], cs, rfl, by simp, by simp, hc⟩
  · obtain ⟨s', e, a, b, cs', rfl, ha, hp, hcl⟩ := key
    have ha : a = [] := List.length_eq_zero_iff.mp ha
    subst ha
    have hbl : b.length = many := by have := hp.length_eq; simpa using this
    rw [hbl] at hcl
    refine ⟨b, cs', ?_, by simpa using hp, hcl⟩
    have hl : cs'.take cs.length = cs' := List.take_of_length_le (by rw [hcl.1, hc.1]; exact Nat.le_refl _)
    rw [runF_succ P (n + 1) iMixed _ cs _ hM rfl]
    unfold bodyR dMixed
    simp -implicitDefEqProofs [agSl, locV, rd_brw, ixOp, atI, ixN, rtOf, isNew, callU, agsOf, agOf, kPl, place, lcB, itD, itemsOf, brwOf, toI, enI, ziI, isTy, eqOp, Py.rangeN many (by omega), range0, show many ≤ 100000 by omega, parGo, tgR, e, hl]
  · rintro m s ⟨a, b, cs', rfl, ha, hp, hcl⟩
    have hab : a.length + b.length = many := by have := hp.length_eq; simpa using this
    obtain ⟨r, cs2, e1, hr, c2⟩ := take_ok hTake n k (j + b.length) L a.length cs' hcl (by omega) (by omega) (by omega)
    have hne : a.isEmpty = false := by cases a with
      | nil => simp at ha
      | cons => rfl
    have e2 := pop_ok (P := P) (run := runF P (n + 1)) (i := 2) (r := r) (e := .call iTake [.loc 0, .bi .len [.loc 2]]) (xs := a.map fun (p : Nat) => D.int p) (s := ⟨[.cell k, .pub (.int many), .own (.lst (a.map fun (p : Nat) => D.int p)), .own (.lst (b.map fun (p : Nat) => D.int p))], cs'⟩) (s1 := ⟨[.cell k, .pub (.int many), .own (.lst (a.map fun (p : Nat) => D.int p)), .own (.lst (b.map fun (p : Nat) => D.int p))], cs2⟩) rfl (by simp -implicitDefEqProofs [agSl, locV, rd_brw, ixOp, atI, ixN, rtOf, isNew, callU, agsOf, agOf, kPl, place, lcB, itD, itemsOf, brwOf, toI, enI, ziI, isTy, eqOp, e1]) rfl (by simpa using hr) (by simp; omega)
    have e3 := app_own (P := P) (run := runF P (n + 1)) (lp := whileL) (i := 3) (xs := b.map fun (p : Nat) => D.int p) (s := ⟨[.cell k, .pub (.int many), .own (.lst (a.map fun (p : Nat) => D.int p)), .own (.lst (b.map fun (p : Nat) => D.int p))], cs'⟩) rfl e2 rfl (by simp; omega)
    refine ⟨⟨[.cell k, .pub (.int many), .own (.lst ((a.eraseIdx r).map fun (p : Nat) => D.int p)), .own (.lst ((b ++ [a[r]]).map fun (p : Nat) => D.int p))], cs2⟩, whT_go ?_ ?_, a.eraseIdx r, b ++ [a[r]], cs2, rfl, by rw [List.length_eraseIdx]; simp [hr]; omega, ?_, ?_⟩
    · simp -implicitDefEqProofs [locV, rd_brw, eqOp, hne]
    · simp -implicitDefEqProofs [e3]
      rw [erase_map]
    · refine List.Perm.trans ?_ hp
      refine (List.perm_append_comm (l₁ := a.eraseIdx r) (l₂ := b ++ [a[r]])).trans ?_
      rw [List.append_assoc]
      refine List.Perm.trans ?_ (List.perm_append_comm (l₁ := b) (l₂ := a))
      refine List.Perm.append_left b ?_
      exact erase_perm hr
    · rw [List.length_append, List.length_singleton]; exact c2
  · rintro s ⟨a, b, cs', rfl, ha, hp, hcl⟩
    have ha : a = [] := List.length_eq_zero_iff.mp ha
    subst ha
    exact whT_end (by simp -implicitDefEqProofs [locV, rd_brw, eqOp])
end KL
end SKLD
section SKLE
set_option autoImplicit false
set_option linter.all false
set_option maxRecDepth 100000
set_option maxHeartbeats 4000000
open Py
open PySem (CmpOp Operator UnaryOp)
namespace KL
variable {P : Prog}
/-! ### sorted -/
theorem nat_list {ns : List Int} (h : ∀ z ∈ ns, 0 ≤ z) : ns = (ns.map Int.toNat).map fun (p : Nat) => (p : Int) := by
  induction ns with
  | nil => rfl
  | cons x r ih =>
    have hx := h x List.mem_cons_self
    have := ih fun z hz => h z (List.mem_cons_of_mem _ hz)
    simp only [List.map_cons]
    rw [← this, Int.toNat_of_nonneg hx]
theorem sort_nat (l : List Nat) : ∃ l' : List Nat, sortI (l.map fun (p : Nat) => (p : Int)) = l'.map (fun (p : Nat) => (p : Int)) ∧ l'.Perm l ∧ l'.Pairwise (· ≤ ·) := by
  have hp := sortI_perm (l.map fun (p : Nat) => (p : Int))
  have hn := nat_list (ns := sortI (l.map fun (p : Nat) => (p : Int))) fun z hz => by
    obtain ⟨p, _, rfl⟩ := List.mem_map.mp (hp.mem_iff.mp hz)
    omega
  refine ⟨_, hn, ?_, ?_⟩
  · have := hp.map Int.toNat
    rw [List.map_map] at this
    refine this.trans ?_
    have e : (Int.toNat ∘ fun (p : Nat) => (p : Int)) = id := by funext p; simp
    rw [e, List.map_id]
  · have := sortI_sorted (l.map fun (p : Nat) => (p : Int))
    rw [List.pairwise_map]
    exact this.imp fun {a b} h => by omega
theorem sortU_nat (l : List Nat) : ∃ l' : List Nat, sortU (l.map fun (p : Nat) => (p : Int)) = l'.map (fun (p : Nat) => (p : Int)) ∧ (∀ p, p ∈ l' ↔ p ∈ l) ∧ l'.Pairwise (· < ·) := by
  obtain ⟨h1, h2⟩ := sortU_ok (l.map fun (p : Nat) => (p : Int))
  have hn := nat_list (ns := sortU (l.map fun (p : Nat) => (p : Int))) fun z hz => by
    obtain ⟨p, _, rfl⟩ := List.mem_map.mp ((h2 z).mp hz)
    omega
  refine ⟨_, hn, fun p => ?_, ?_⟩
  · have h3 : (p : Int) ∈ sortU (l.map fun (p : Nat) => (p : Int)) ↔ p ∈ l := (h2 (p : Int)).trans ⟨fun h => by
      obtain ⟨q, hq, e⟩ := List.mem_map.mp h
      have : q = p := by omega
      rw [← this]; exact hq, fun h => List.mem_map.mpr ⟨p, h, rfl⟩⟩
    rw [← h3]
    constructor
    · intro h
      obtain ⟨a, ha, e⟩ := List.mem_map.mp h
      obtain ⟨q, _, rfl⟩ := List.mem_map.mp ((h2 a).mp ha)
      have : q = p := by simpa using e
      rw [← this]; exact ha
    · intro h
      exact List.mem_map.mpr ⟨_, h, by simp⟩
  · rw [List.pairwise_map]
    refine List.Pairwise.imp_of_mem (fun {a b} ha hb h => ?_) h1
    have := (h2 a).mp ha
    obtain ⟨p, _, rfl⟩ := List.mem_map.mp this
    omega
theorem bi_sorted_nat (l : List Nat) : ∃ l' : List Nat, biOp .sorted [.lst (l.map fun (p : Nat) => D.int p)] = some (.own (.lst (l'.map fun (p : Nat) => D.int p))) ∧ l'.Perm l ∧ l'.Pairwise (· ≤ ·) := by
  obtain ⟨l', h1, h2, h3⟩ := sort_nat l
  have := bi_sorted (l.map fun (p : Nat) => (p : Int))
  rw [h1, List.map_map, List.map_map] at this
  exact ⟨l', this, h2, h3⟩
theorem bi_sortedSet_nat (l : List Nat) (hl : l.length < 64) : ∃ l' : List Nat, biOp .sortedSet [.lst (l.map fun (p : Nat) => D.int p)] = some (.own (.lst (l'.map fun (p : Nat) => D.int p))) ∧ (∀ p, p ∈ l' ↔ p ∈ l) ∧ l'.Pairwise (· < ·) := by
  obtain ⟨l', h1, h2, h3⟩ := sortU_nat l
  have := bi_sortedSet (l.map fun (p : Nat) => (p : Int)) (by simpa using hl)
  rw [h1, List.map_map, List.map_map] at this
  exact ⟨l', this, h2, h3⟩
/-! ### _law_cubes -/
def Cube (z : List Nat) : Prop := ∀ x ∈ z, x = 48 ∨ x = 49 ∨ x = 45
def sLst (zs : List (List Nat)) : D := .lst (zs.map .str)
def CubesOk (c : Nat) (zs : List (List Nat)) : Prop := zs.length = 3 ^ c ∧ ∀ z ∈ zs, z.length = c ∧ Cube z
theorem Cube.snoc {z : List Nat} {x : Nat} (h : Cube z) (hx : x = 48 ∨ x = 49 ∨ x = 45) : Cube (z ++ [x]) := fun y hy => by
  rcases List.mem_append.mp hy with hy | hy
  · exact h y hy
  · rw [List.mem_singleton.mp hy]; exact hx
abbrev cubeBody : List T := [.ext 3 (.lst [.bin .Add (.loc 4) (.con (.str [48])), .bin .Add (.loc 4) (.con (.str [49])), .bin .Add (.loc 4) (.con (.str [45]))])]
theorem cube_step (n i m : Nat) (z : List Nat) (acc : List (List Nat)) (hi : i < 6) (hz : z.length = i) (ha : acc.length ≤ 3000) (x0 x1 x2 : Sl) (cs : List (List D)) :
    exTs whileL P (runF P n) cubeBody ⟨[x0, x1, x2, .own (sLst acc), .pub (.str z)], cs⟩ = .ok .nx ⟨[x0, x1, x2, .own (sLst (acc ++ [z ++ [48], z ++ [49], z ++ [45]])), .pub (.str z)], cs⟩ := by
  have h1 : z.length + 1 ≤ SZ := by unfold SZ; omega
  have h2 : acc.length + 3 ≤ 100000 := by omega
  unfold cubeBody
  simp -implicitDefEqProofs [locV, isOwnL, kExt, sLst, h1, h2]
theorem inner_cubes (n i : Nat) (zs : List (List Nat)) (hi : i < 6) (hzs : CubesOk i zs) (b : Bool) (x0 x2 x3 x4 : Sl) (cs : List (List D)) :
    ∃ (zs' : List (List Nat)) (x4' : Sl), exT whileL P (runF P n) (.for_ (.nm 4) (.seq (.loc 1)) cubeBody) ⟨[x0, if b then .own (sLst zs) else .pub (sLst zs), x2, .own (sLst []), x4], cs⟩ = .ok .nx ⟨[x0, if b then .own (sLst zs) else .pub (sLst zs), x2, .own (sLst zs'), x4'], cs⟩ ∧ CubesOk (i + 1) zs' := by
  have hlen : zs.length ≤ 729 := by rw [hzs.1]; exact Nat.le_trans (Nat.pow_le_pow_right (by decide) (show i ≤ 6 by omega)) (by decide)
  have step : ∀ (y1 : Sl) (m : Nat) (hm : m < (zs.map D.str).length) (u : S), (∃ (acc : List (List Nat)) (x4 : Sl), u = ⟨[x0, y1, x2, .own (sLst acc), x4], cs⟩ ∧ acc.length = 3 * m ∧ ∀ z ∈ acc, z.length = i + 1 ∧ Cube z) →
      ∃ u', (exTs whileL P (runF P n) cubeBody (u.set 4 (.pub (zs.map D.str)[m])) = .ok .nx u' ∨ exTs whileL P (runF P n) cubeBody (u.set 4 (.pub (zs.map D.str)[m])) = .ok .cnt u') ∧ ∃ (acc : List (List Nat)) (x4 : Sl), u' = ⟨[x0, y1, x2, .own (sLst acc), x4], cs⟩ ∧ acc.length = 3 * (m + 1) ∧ ∀ z ∈ acc, z.length = i + 1 ∧ Cube z := by
    rintro y1 m hm u ⟨acc, x4, rfl, ha, hc⟩
    have hm' : m < zs.length := by simpa using hm
    obtain ⟨hz, hcu⟩ := hzs.2 zs[m] (List.getElem_mem hm')
    refine ⟨_, .inl ?_, acc ++ [zs[m] ++ [48], zs[m] ++ [49], zs[m] ++ [45]], .pub (.str zs[m]), rfl, by simp; omega, fun z hz' => ?_⟩
    · rw [List.getElem_map]
      exact cube_step n i m zs[m] acc hi hz (by omega) x0 y1 x2 cs
    · rcases List.mem_append.mp hz' with hz' | hz'
      · exact hc z hz'
      · simp only [List.mem_cons, List.not_mem_nil, or_false] at hz'
        rcases hz' with rfl | rfl | rfl
        · exact ⟨by simp [hz], hcu.snoc (.inl rfl)⟩
        · exact ⟨by simp [hz], hcu.snoc (.inr (.inl rfl))⟩
        · exact ⟨by simp [hz], hcu.snoc (.inr (.inr rfl))⟩
  have done : ∀ acc : List (List Nat), acc.length = 3 * (zs.map D.str).length → (∀ z ∈ acc, z.length = i + 1 ∧ Cube z) → CubesOk (i + 1) acc := fun acc h1 h2 => ⟨by rw [h1, List.length_map, hzs.1, Nat.pow_succ, Nat.mul_comm], h2⟩
  cases b with
  | true =>
    have key := for_own (P := P) (run := runF P n) (lp := whileL) (i := 4) (k := 1) (b := cubeBody) (xs := zs.map D.str) (s := ⟨[x0, .own (sLst zs), x2, .own (sLst []), x4], cs⟩)
      (fun m u => ∃ (acc : List (List Nat)) (x4 : Sl), u = ⟨[x0, .lent (sLst zs), x2, .own (sLst acc), x4], cs⟩ ∧ acc.length = 3 * m ∧ ∀ z ∈ acc, z.length = i + 1 ∧ Cube z) rfl ⟨[], x4, rfl, rfl, fun _ h => (by cases h)⟩ (by rintro u ⟨acc, x4, rfl, _⟩; rfl) (step _)
    obtain ⟨s', e, acc, x4', rfl, ha, hc⟩ := key
    exact ⟨acc, x4', e, done acc ha hc⟩
  | false =>
    have key := for_new (P := P) (run := runF P n) (lp := whileL) (i := 4) (e := .loc 1) (b := cubeBody) (xs := zs.map D.str) (s0 := ⟨[x0, .pub (sLst zs), x2, .own (sLst []), x4], cs⟩) (s := ⟨[x0, .pub (sLst zs), x2, .own (sLst []), x4], cs⟩)
      (fun m u => ∃ (acc : List (List Nat)) (x4 : Sl), u = ⟨[x0, .pub (sLst zs), x2, .own (sLst acc), x4], cs⟩ ∧ acc.length = 3 * m ∧ ∀ z ∈ acc, z.length = i + 1 ∧ Cube z) (.inr (by simp -implicitDefEqProofs [locV, sLst])) ⟨[], x4, rfl, rfl, fun _ h => (by cases h)⟩ (step _)
    obtain ⟨s', e, acc, x4', rfl, ha, hc⟩ := key
    exact ⟨acc, x4', e, done acc ha hc⟩
theorem cubes_ok {iCubes : Nat} (hC : P.fn iCubes = some dCubes) (n c : Nat) (hc : c ≤ 6) (cs : List (List D)) :
    ∃ (zs : List (List Nat)) (r : Rt), runF P (n + 1) iCubes [.d (.int c)] cs = .ok r cs ∧ (r = .own (sLst zs) ∨ r = .d (sLst zs)) ∧ CubesOk c zs := by
  have key := for_range (P := P) (run := runF P n) (lp := whileL) (i := 2) (e := .loc 0) (b := [.asg (.nm 3) (.lst []), .for_ (.nm 4) (.seq (.loc 1)) cubeBody, .asg (.nm 1) (.loc 3)])
    (s0 := ⟨[.pub (.int c), .own (sLst [[]]), .non, .non, .non], cs⟩) (s := ⟨[.pub (.int c), .own (sLst [[]]), .non, .non, .non], cs⟩) (c := c)
    (fun m u => ∃ (b : Bool) (zs : List (List Nat)) (x2 x3 x4 : Sl), u = ⟨[.pub (.int c), if b then .own (sLst zs) else .pub (sLst zs), x2, x3, x4], cs⟩ ∧ CubesOk m zs) (by omega) (by simp -implicitDefEqProofs [agSl, locV, rd_brw, ixOp, atI, ixN, rtOf, isNew, callU, agsOf, agOf, kPl, place, lcB, itD, itemsOf, brwOf, toI, enI, ziI, isTy, eqOp]) ⟨true, [[]], _, _, _, rfl, rfl, fun z hz => ?_⟩ ?_
  · obtain ⟨s', e, b, zs, x2, x3, x4, rfl, hz⟩ := key
    refine ⟨zs, if b then .own (sLst zs) else .d (sLst zs), ?_, by cases b <;> simp, hz⟩
    rw [runF_succ P n iCubes _ cs dCubes hC rfl]
    unfold bodyR dCubes
    unfold sLst at e
    unfold cubeBody at e
    cases b
    · simp -implicitDefEqProofs [agSl, locV, isNew, rtOf, sLst] at e ⊢
      simp -implicitDefEqProofs [e, agSl, locV, isNew, rtOf]
    · simp -implicitDefEqProofs [agSl, locV, isNew, rtOf, sLst] at e ⊢
      simp -implicitDefEqProofs [e, agSl, locV, isNew, rtOf]
  · rw [List.mem_singleton.mp hz]
    exact ⟨rfl, fun _ h => by cases h⟩
  · rintro i u hi ⟨b, zs, x2, x3, x4, rfl, hz⟩
    obtain ⟨zs', x4', e, hz'⟩ := inner_cubes (P := P) n i zs (by omega) hz b (.pub (.int c)) (.pub (.int (i : Nat))) x3 x4 cs
    refine ⟨⟨[.pub (.int c), .pub (sLst zs'), .pub (.int (i : Nat)), .pub (sLst zs'), x4'], cs⟩, .inl ?_, false, zs', _, _, _, rfl, hz'⟩
    have e0 : (sLst [] : D) = .lst [] := rfl
    rw [e0] at e
    simp -implicitDefEqProofs [e, locV, kAsg, tgR, esc, tgD]
end KL
end SKLE
section SKLF
set_option autoImplicit false
set_option linter.all false
set_option maxRecDepth 100000
set_option maxHeartbeats 4000000
open Py
open PySem (CmpOp Operator UnaryOp)
namespace KL
variable {P : Prog}
def nLst (l : List Nat) : D := .lst (l.map fun (p : Nat) => D.int p)
/-! ### _law_inside -/
theorem inside_ok {iInside : Nat} (hI : P.fn iInside = some dInside) (n : Nat) (z : List Nat) (hz : z.length ≤ 6) (cs : List (List D)) :
    ∃ l : List Nat, runF P (n + 1) iInside [.d (.str z)] cs = .ok (.own (nLst l)) cs ∧ (∀ p ∈ l, p < 2 ^ z.length) ∧ l.length ≤ 64 := by
  have key := for_range (P := P) (run := runF P n) (lp := whileL) (i := 2) (e := .bi .len [.loc 0]) (b := [.ite (.cmp .Eq (.sl (.loc 0) (some (.loc 2)) (some (.bin .Add (.loc 2) (.con (.int 1))))) (.con (.str [49]))) [.asg (.nm 1) (.lc (.bin .BitOr (.loc 3) (.bin .LShift (.con (.int 1)) (.loc 2))) (.nm 3) (.seq (.loc 1)) [] [3])] [.ite (.cmp .Eq (.sl (.loc 0) (some (.loc 2)) (some (.bin .Add (.loc 2) (.con (.int 1))))) (.con (.str [45]))) [.asg (.nm 1) (.bin .Add (.loc 1) (.lc (.bin .BitOr (.loc 3) (.bin .LShift (.con (.int 1)) (.loc 2))) (.nm 3) (.seq (.loc 1)) [] [3]))] []]])
    (s0 := ⟨[.pub (.str z), .own (nLst [0]), .non, .non], cs⟩) (s := ⟨[.pub (.str z), .own (nLst [0]), .non, .non], cs⟩) (c := z.length)
    (fun m u => ∃ (l : List Nat) (x2 : Sl), u = ⟨[.pub (.str z), .own (nLst l), x2, .non], cs⟩ ∧ (∀ p ∈ l, p < 2 ^ z.length) ∧ l.length ≤ 2 ^ m) (by omega) (by simp -implicitDefEqProofs [agSl, locV, rd_brw, ixOp, atI, ixN, rtOf, isNew, callU, agsOf, agOf, kPl, place, lcB, itD, itemsOf, brwOf, toI, enI, ziI, isTy, eqOp]) ⟨[0], _, rfl, fun p hp => by rw [List.mem_singleton.mp hp]; exact Nat.two_pow_pos _, by simp⟩ ?_
  · obtain ⟨s', e, l, x2, rfl, hl, hn⟩ := key
    obtain ⟨l', e2, hp, _⟩ := bi_sorted_nat l
    refine ⟨l', ?_, fun p h => hl p (hp.mem_iff.mp h), ?_⟩
    · rw [runF_succ P n iInside _ cs dInside hI rfl]
      unfold bodyR dInside
      have e0 : (nLst [0] : D) = .lst [.int 0] := rfl
      rw [e0] at e
      unfold nLst at e ⊢
      simp -implicitDefEqProofs [agSl, locV, isNew, rtOf, e, rd_brw, e2]
    · rw [hp.length_eq]
      exact Nat.le_trans hn (Nat.le_trans (Nat.pow_le_pow_right (by decide) hz) (by decide))
  · rintro i u hi ⟨l, x2, rfl, hl, hn⟩
    have hi2 : i ≤ 100000 := by omega
    have hn2 : l.length ≤ 64 := Nat.le_trans hn (Nat.le_trans (Nat.pow_le_pow_right (by decide) (show i ≤ 6 by omega)) (by decide))
    have hlt : ∀ p ∈ l, p ||| p2 i < 2 ^ z.length := fun p hp => pt_lt (hl p hp) hi
    have elc := lc1own (P := P) (run := runF P n) (i := 3) (j := 1) (elt := .bin .BitOr (.loc 3) (.bin .LShift (.con (.int 1)) (.loc 2))) (ifs := []) (s := ⟨[.pub (.str z), .own (nLst l), .pub (.int (i : Nat)), .non], cs⟩) (fun (p : Nat) => D.int p) l (fun p => some (.int ((p ||| p2 i : Nat) : Int))) rfl (by decide) (.inl rfl) (by omega) (fun p hp => by simp -implicitDefEqProofs [agSl, locV, rd_brw, ixOp, atI, ixN, rtOf, isNew, callU, agsOf, agOf, kPl, place, lcB, itD, itemsOf, brwOf, toI, enI, ziI, isTy, eqOp, -bo_shl, -bo_shr, -bo_and, -bo_or, -bo_xor, nShl1, nShl, nShr, nAnd, nAnd1, nOr, nXor, isOwnL, onI, hi2])
    rw [fmSome] at elc
    have e1 : cut z (some (i : Int)) (some ((i : Int) + 1)) = [z[i]] := cut1 z i hi
    have en : (l.map fun p => D.int ((p ||| p2 i : Nat) : Int)) = (l.map fun p => p ||| p2 i).map fun (p : Nat) => D.int p := by rw [List.map_map]; rfl
    rw [en] at elc
    have hs : l.length + l.length ≤ SZ := by unfold SZ; omega
    by_cases h1 : z[i] = 49
    · refine ⟨⟨[.pub (.str z), .own (nLst (l.map fun p => p ||| p2 i)), .pub (.int (i : Nat)), .non], cs⟩, .inl ?_, l.map fun p => p ||| p2 i, _, rfl, fun p hp => ?_, ?_⟩
      · simp -implicitDefEqProofs [locV, slOp, e1, eqOp, h1, elc, nLst] at elc ⊢
        simp -implicitDefEqProofs [elc]
      · obtain ⟨q, hq, rfl⟩ := List.mem_map.mp hp
        exact hlt q hq
      · rw [List.length_map]
        exact Nat.le_trans hn (Nat.pow_le_pow_right (by decide) (Nat.le_succ _))
    · by_cases h2 : z[i] = 45
      · refine ⟨⟨[.pub (.str z), .own (nLst (l ++ l.map fun p => p ||| p2 i)), .pub (.int (i : Nat)), .non], cs⟩, .inl ?_, l ++ l.map fun p => p ||| p2 i, _, rfl, fun p hp => ?_, ?_⟩
        · simp -implicitDefEqProofs [locV, slOp, e1, eqOp, h1, h2, nLst] at elc ⊢
          simp -implicitDefEqProofs [elc, hs, rd_brw]
        · rcases List.mem_append.mp hp with hp | hp
          · exact hl p hp
          · obtain ⟨q, hq, rfl⟩ := List.mem_map.mp hp
            exact hlt q hq
        · rw [List.length_append, List.length_map, Nat.pow_succ]; omega
      · refine ⟨⟨[.pub (.str z), .own (nLst l), .pub (.int (i : Nat)), .non], cs⟩, .inl ?_, l, _, rfl, hl, Nat.le_trans hn (Nat.pow_le_pow_right (by decide) (Nat.le_succ _))⟩
        have b1 : (z[i] == 49) = false := by simpa using h1
        have b2 : (z[i] == 45) = false := by simpa using h2
        simp -implicitDefEqProofs [locV, slOp, e1, eqOp, b1, b2]
/-! ### _law_by_parts -/
def pLst (ps : List (Nat × Nat)) : D := .lst (ps.map fun q => .lst [.int q.1, .int q.2])
abbrev opE : E := .ite (.cmp .Lt (.loc 7) (.con (.int 2))) (.bin .BitAnd (.ix (.loc 5) (.con (.int 1))) (.ix (.loc 6) (.con (.int 1)))) (.ite (.cmp .Lt (.loc 7) (.con (.int 4))) (.bin .BitOr (.ix (.loc 5) (.con (.int 1))) (.ix (.loc 6) (.con (.int 1)))) (.bin .BitXor (.ix (.loc 5) (.con (.int 1))) (.ix (.loc 6) (.con (.int 1)))))
abbrev bypBody (iTake iFull : Nat) : List T := [.asg (.nm 5) (.pop 2 (some (.call iTake [.loc 0, .bi .len [.loc 2]]))), .asg (.nm 6) (.pop 2 (some (.call iTake [.loc 0, .bi .len [.loc 2]]))), .asg (.nm 7) (.call iTake [.loc 0, .con (.int 5)]), .asg (.nm 8) opE, .ite (.cmp .Eq (.call iTake [.loc 0, .con (.int 3)]) (.con (.int 0))) [.asg (.nm 8) (.bin .BitXor (.loc 8) (.call iFull [.loc 1]))] [], .app 2 (.lst [.bin .BitOr (.ix (.loc 5) (.con (.int 0))) (.ix (.loc 6) (.con (.int 0))), .loc 8])]
theorem op_ok (run : Run) (c a b a' b' w : Nat) (hb : b < TB c) (hb' : b' < TB c) (x0 x1 x2 x3 x4 x8 : Sl) (cs : List (List D)) : ∃ t : Nat, t < TB c ∧ evE P run opE ⟨[x0, x1, x2, x3, x4, .pub (.lst [.int (a : Nat), .int (b : Nat)]), .pub (.lst [.int (a' : Nat), .int (b' : Nat)]), .pub (.int (w : Nat)), x8], cs⟩ = .ok (.d (.int (t : Nat))) ⟨[x0, x1, x2, x3, x4, .pub (.lst [.int (a : Nat), .int (b : Nat)]), .pub (.lst [.int (a' : Nat), .int (b' : Nat)]), .pub (.int (w : Nat)), x8], cs⟩ := by
  unfold opE
  by_cases h1 : w < 2
  · refine ⟨b &&& b', and_lt hb, ?_⟩
    have : (w : Int) < 2 := by omega
    simp -implicitDefEqProofs [locV, ixOp, atI, ixN, -bo_shl, -bo_shr, -bo_and, -bo_or, -bo_xor, nShl1, nShl, nShr, nAnd, nAnd1, nOr, nXor, isOwnL, onI, this]
  · have g1 : ¬ (w : Int) < 2 := by omega
    by_cases h2 : w < 4
    · refine ⟨b ||| b', or_lt hb hb', ?_⟩
      have : (w : Int) < 4 := by omega
      simp -implicitDefEqProofs [locV, ixOp, atI, ixN, -bo_shl, -bo_shr, -bo_and, -bo_or, -bo_xor, nShl1, nShl, nShr, nAnd, nAnd1, nOr, nXor, isOwnL, onI, g1, this]
    · refine ⟨xr b b', xr_lt hb hb', ?_⟩
      have : ¬ (w : Int) < 4 := by omega
      simp -implicitDefEqProofs [locV, ixOp, atI, ixN, -bo_shl, -bo_shr, -bo_and, -bo_or, -bo_xor, nShl1, nShl, nShr, nAnd, nAnd1, nOr, nXor, isOwnL, onI, g1, this]
theorem pget {ps : List (Nat × Nat)} {r : Nat} (h : r < ps.length) : (ps.map fun q => D.lst [.int q.1, .int q.2])[r]'(by simpa using h) = .lst [.int (ps[r].1 : Nat), .int (ps[r].2 : Nat)] := by simp
theorem byp_turn {iTake iFull : Nat} (hTake : P.fn iTake = some dTake) (hFull : P.fn iFull = some dFull) (n k j L c : Nat) (hc6 : c ≤ 6) (ps : List (Nat × Nat)) (hl : 2 ≤ ps.length) (hl6 : ps.length ≤ 6) (hps : ∀ q ∈ ps, q.2 < TB c) (x3 x4 x5 x6 x7 x8 : Sl) (cs : List (List D)) (hc : Cl k j L cs) (hj : j < 2 ^ 32) :
    ∃ (ps' : List (Nat × Nat)) (y5 y6 y7 y8 : Sl) (cs' : List (List D)), exTs whileL P (runF P (n + 1)) (bypBody iTake iFull) ⟨[.cell k, .pub (.int c), .own (pLst ps), x3, x4, x5, x6, x7, x8], cs⟩ = .ok .nx ⟨[.cell k, .pub (.int c), .own (pLst ps'), x3, x4, y5, y6, y7, y8], cs'⟩ ∧ ps'.length + 1 = ps.length ∧ (∀ q ∈ ps', q.2 < TB c) ∧ Cl k (j + 4) L cs' := by
  obtain ⟨r1, cs1, e1, hr1, c1⟩ := take_ok hTake n k j L ps.length cs hc (by omega) (by omega) (by omega)
  have lg1 : (ps.eraseIdx r1).length = ps.length - 1 := by rw [List.length_eraseIdx]; simp [hr1]
  obtain ⟨r2, cs2, e2, hr2, c2⟩ := take_ok hTake n k (j + 1) L (ps.eraseIdx r1).length cs1 c1 (by omega) (by omega) (by omega)
  obtain ⟨w, cs3, e3, hw, c3⟩ := take_ok hTake n k (j + 1 + 1) L 5 cs2 c2 (by omega) (by decide) (by decide)
  obtain ⟨v, cs4, e4, hv, c4⟩ := take_ok hTake n k (j + 1 + 1 + 1) L 3 cs3 c3 (by omega) (by decide) (by decide)
  have lg2 : ((ps.eraseIdx r1).eraseIdx r2).length = ps.length - 2 := by rw [List.length_eraseIdx]; simp [hr2]; omega
  have m1 : ps[r1].2 < TB c := hps _ (List.getElem_mem hr1)
  have m2' : (ps.eraseIdx r1)[r2].2 < TB c := hps _ (List.mem_of_mem_eraseIdx (List.getElem_mem hr2))
  have ef := full_ok hFull n c (by omega) cs4
  have p1 := pop_ok (P := P) (run := runF P (n + 1)) (i := 2) (r := r1) (e := .call iTake [.loc 0, .bi .len [.loc 2]]) (xs := ps.map fun q => .lst [.int q.1, .int q.2]) (s := ⟨[.cell k, .pub (.int c), .own (pLst ps), x3, x4, x5, x6, x7, x8], cs⟩) (s1 := ⟨[.cell k, .pub (.int c), .own (pLst ps), x3, x4, x5, x6, x7, x8], cs1⟩) rfl (by simp -implicitDefEqProofs [agSl, locV, rd_brw, ixOp, atI, ixN, rtOf, isNew, callU, agsOf, agOf, kPl, place, lcB, itD, itemsOf, brwOf, toI, enI, ziI, isTy, eqOp, pLst, e1]) rfl (by simpa using hr1) (by simp; omega)
  rw [pget hr1, erase_map] at p1
  have p2' := pop_ok (P := P) (run := runF P (n + 1)) (i := 2) (r := r2) (e := .call iTake [.loc 0, .bi .len [.loc 2]]) (xs := (ps.eraseIdx r1).map fun q => .lst [.int q.1, .int q.2]) (s := ⟨[.cell k, .pub (.int c), .own (pLst (ps.eraseIdx r1)), x3, x4, .pub (.lst [.int (ps[r1].1 : Nat), .int (ps[r1].2 : Nat)]), x6, x7, x8], cs1⟩) (s1 := ⟨[.cell k, .pub (.int c), .own (pLst (ps.eraseIdx r1)), x3, x4, .pub (.lst [.int (ps[r1].1 : Nat), .int (ps[r1].2 : Nat)]), x6, x7, x8], cs2⟩) rfl (by simp -implicitDefEqProofs [agSl, locV, rd_brw, ixOp, atI, ixN, rtOf, isNew, callU, agsOf, agOf, kPl, place, lcB, itD, itemsOf, brwOf, toI, enI, ziI, isTy, eqOp, pLst, e2]) rfl (by simpa using hr2) (by simp; omega)
  rw [pget hr2, erase_map] at p2'
  generalize ps[r1] = q1 at *
  generalize (ps.eraseIdx r1)[r2] = q2 at *
  obtain ⟨t, ht, eo⟩ := op_ok (P := P) (runF P (n + 1)) c q1.1 q1.2 q2.1 q2.2 w m1 m2' (.cell k) (.pub (.int c)) (.own (pLst ((ps.eraseIdx r1).eraseIdx r2))) x3 x4 x8 cs3
  obtain ⟨t', ht', ei⟩ : ∃ t' : Nat, t' < TB c ∧ exT whileL P (runF P (n + 1)) (.ite (.cmp .Eq (.call iTake [.loc 0, .con (.int 3)]) (.con (.int 0))) [.asg (.nm 8) (.bin .BitXor (.loc 8) (.call iFull [.loc 1]))] []) ⟨[.cell k, .pub (.int c), .own (pLst ((ps.eraseIdx r1).eraseIdx r2)), x3, x4, .pub (.lst [.int (q1.1 : Nat), .int (q1.2 : Nat)]), .pub (.lst [.int (q2.1 : Nat), .int (q2.2 : Nat)]), .pub (.int (w : Nat)), .pub (.int (t : Nat))], cs3⟩ = .ok .nx ⟨[.cell k, .pub (.int c), .own (pLst ((ps.eraseIdx r1).eraseIdx r2)), x3, x4, .pub (.lst [.int (q1.1 : Nat), .int (q1.2 : Nat)]), .pub (.lst [.int (q2.1 : Nat), .int (q2.2 : Nat)]), .pub (.int (w : Nat)), .pub (.int (t' : Nat))], cs4⟩ := by
    rw [show ((3 : Nat) : Int) = 3 from rfl] at e4
    by_cases hv0 : v = 0
    · subst hv0
      exact ⟨xr t (TB c - 1), xr_lt ht (by have : 0 < TB c := Nat.two_pow_pos _; omega), by simp -implicitDefEqProofs [locV, callU, agsOf, agOf, e4, ef, eqOp, -bo_shl, -bo_shr, -bo_and, -bo_or, -bo_xor, nShl1, nShl, nShr, nAnd, nAnd1, nOr, nXor, isOwnL, onI]⟩
    · have : ((v : Int) == 0) = false := by simpa using hv0
      exact ⟨t, ht, by simp -implicitDefEqProofs [locV, callU, agsOf, agOf, e4, eqOp, this]⟩
  rw [show ((5 : Nat) : Int) = 5 from rfl] at e3
  refine ⟨(ps.eraseIdx r1).eraseIdx r2 ++ [(q1.1 ||| q2.1, t')], .pub (.lst [.int (q1.1 : Nat), .int (q1.2 : Nat)]), .pub (.lst [.int (q2.1 : Nat), .int (q2.2 : Nat)]), .pub (.int (w : Nat)), .pub (.int (t' : Nat)), cs4, ?_, by rw [List.length_append, lg2]; simp; omega, fun q hq => ?_, c4⟩
  · have ea : exT whileL P (runF P (n + 1)) (.app 2 (.lst [.bin .BitOr (.ix (.loc 5) (.con (.int 0))) (.ix (.loc 6) (.con (.int 0))), .loc 8])) ⟨[.cell k, .pub (.int c), .own (pLst ((ps.eraseIdx r1).eraseIdx r2)), x3, x4, .pub (.lst [.int (q1.1 : Nat), .int (q1.2 : Nat)]), .pub (.lst [.int (q2.1 : Nat), .int (q2.2 : Nat)]), .pub (.int (w : Nat)), .pub (.int (t' : Nat))], cs4⟩ = .ok .nx ⟨[.cell k, .pub (.int c), .own (pLst ((ps.eraseIdx r1).eraseIdx r2 ++ [(q1.1 ||| q2.1, t')])), x3, x4, .pub (.lst [.int (q1.1 : Nat), .int (q1.2 : Nat)]), .pub (.lst [.int (q2.1 : Nat), .int (q2.2 : Nat)]), .pub (.int (w : Nat)), .pub (.int (t' : Nat))], cs4⟩ := by
      have : ((ps.eraseIdx r1).eraseIdx r2).length < 100000 := by omega
      simp -implicitDefEqProofs [pLst, locV, ixOp, atI, ixN, -bo_shl, -bo_shr, -bo_and, -bo_or, -bo_xor, nShl1, nShl, nShr, nAnd, nAnd1, nOr, nXor, isOwnL, onI, this]
    unfold bypBody
    rw [s_cons, t_asg, p1, bind_ok, kAsg_d]
    simp only [S.set_mk, List.set_cons_zero, List.set_cons_succ, bind_ok, k_nx]
    show (exTs whileL P (runF P (n + 1)) _ ⟨[.cell k, .pub (.int c), .own (pLst (ps.eraseIdx r1)), x3, x4, .pub (.lst [.int (q1.1 : Nat), .int (q1.2 : Nat)]), x6, x7, x8], cs1⟩) = _
    rw [s_cons, t_asg, p2', bind_ok, kAsg_d]
    simp only [S.set_mk, List.set_cons_zero, List.set_cons_succ, bind_ok, k_nx]
    show (exTs whileL P (runF P (n + 1)) _ ⟨[.cell k, .pub (.int c), .own (pLst ((ps.eraseIdx r1).eraseIdx r2)), x3, x4, .pub (.lst [.int (q1.1 : Nat), .int (q1.2 : Nat)]), .pub (.lst [.int (q2.1 : Nat), .int (q2.2 : Nat)]), x7, x8], cs2⟩) = _
    have e7 : exT whileL P (runF P (n + 1)) (.asg (.nm 7) (.call iTake [.loc 0, .con (.int 5)])) ⟨[.cell k, .pub (.int c), .own (pLst ((ps.eraseIdx r1).eraseIdx r2)), x3, x4, .pub (.lst [.int (q1.1 : Nat), .int (q1.2 : Nat)]), .pub (.lst [.int (q2.1 : Nat), .int (q2.2 : Nat)]), x7, x8], cs2⟩ = .ok .nx ⟨[.cell k, .pub (.int c), .own (pLst ((ps.eraseIdx r1).eraseIdx r2)), x3, x4, .pub (.lst [.int (q1.1 : Nat), .int (q1.2 : Nat)]), .pub (.lst [.int (q2.1 : Nat), .int (q2.2 : Nat)]), .pub (.int (w : Nat)), x8], cs3⟩ := by
      simp -implicitDefEqProofs [locV, callU, agsOf, agOf, e3]
    rw [s_cons, e7, bind_ok, k_nx, s_cons, t_asg, eo, bind_ok, kAsg_d]
    simp only [S.set_mk, List.set_cons_zero, List.set_cons_succ, bind_ok, k_nx]
    rw [s_cons, ei, bind_ok, k_nx, s_cons, ea, bind_ok, k_nx, s_nil]
  · rcases List.mem_append.mp hq with hq | hq
    · exact hps q (List.mem_of_mem_eraseIdx (List.mem_of_mem_eraseIdx hq))
    · rw [List.mem_singleton.mp hq]; exact ht'
theorem byp_ok {iTake iFull iByParts : Nat} (hTake : P.fn iTake = some dTake) (hFull : P.fn iFull = some dFull) (hB : P.fn iByParts = some (dByParts iTake iFull)) (n k j L c : Nat) (hc6 : c ≤ 6) (cs : List (List D)) (hc : Cl k j L cs) (hj : j < 2 ^ 30) :
    ∃ (f : Nat) (cs' : List (List D)), runF P (n + 2) iByParts [.cell k, .d (.int c)] cs = .ok (.d (.int (f : Nat))) cs' ∧ f < TB c ∧ ∃ j', j' ≤ 25 ∧ Cl k (j + j') L cs' := by
  have h1 := p2_le6 hc6
  have h2 : c ≤ 100000 := by omega
  have inner : ∀ i : Nat, evE P (runF P (n + 1)) (.lc (.bin .LShift (.con (.int 1)) (.loc 3)) (.nm 3) (.range [.bin .LShift (.con (.int 1)) (.loc 1)]) [.bin .BitAnd (.bin .RShift (.loc 3) (.loc 4)) (.con (.int 1))] [3]) ⟨[.cell k, .pub (.int c), .non, .non, .pub (.int (i : Nat)), .non, .non, .non, .non], cs⟩ = .ok (.own (.lst (((List.range (p2 c)).filter fun p => on p i).map fun (p : Nat) => D.int (p2 p : Nat)))) ⟨[.cell k, .pub (.int c), .non, .non, .pub (.int (i : Nat)), .non, .non, .non, .non], cs⟩ := by
    intro i
    rw [lcR (p2 c) (fun p => if on p i = true then some (.int (p2 p : Nat)) else none)]
    · rw [fmIf]
    · simp -implicitDefEqProofs [agSl, locV, rd_brw, ixOp, atI, ixN, rtOf, isNew, callU, agsOf, agOf, kPl, place, lcB, itD, itemsOf, brwOf, toI, enI, ziI, isTy, eqOp, -bo_shl, -bo_shr, -bo_and, -bo_or, -bo_xor, nShl1, nShl, nShr, nAnd, nAnd1, nOr, nXor, isOwnL, onI, h2, Py.rangeN (p2 c) (by omega)]
    · exact .inl rfl
    · omega
    · intro p hp
      have hp2 : p ≤ 100000 := by omega
      simp -implicitDefEqProofs [agSl, locV, rd_brw, ixOp, atI, ixN, rtOf, isNew, callU, agsOf, agOf, kPl, place, lcB, itD, itemsOf, brwOf, toI, enI, ziI, isTy, eqOp, -bo_shl, -bo_shr, -bo_and, -bo_or, -bo_xor, nShl1, nShl, nShr, nAnd, nAnd1, nOr, nXor, isOwnL, onI]
      cases h : on p i <;> simp -implicitDefEqProofs [locV, -bo_shl, -bo_shr, -bo_and, -bo_or, -bo_xor, nShl1, nShl, nShr, nAnd, nAnd1, nOr, nXor, isOwnL, onI, hp2]
  have elc := lcR (P := P) (run := runF P (n + 1)) (i := 4) (elt := .lst [.bin .LShift (.con (.int 1)) (.loc 4), .bi .sum [.lc (.bin .LShift (.con (.int 1)) (.loc 3)) (.nm 3) (.range [.bin .LShift (.con (.int 1)) (.loc 1)]) [.bin .BitAnd (.bin .RShift (.loc 3) (.loc 4)) (.con (.int 1))] [3]]]) (it := .range [.loc 1]) (ifs := []) (s := ⟨[.cell k, .pub (.int c), .non, .non, .non, .non, .non, .non, .non], cs⟩) c (fun i => some (.lst [.int (p2 i : Nat), .int ((((List.range (p2 c)).filter fun p => on p i).map p2).sum : Nat)])) (by simp -implicitDefEqProofs [agSl, locV, rd_brw, ixOp, atI, ixN, rtOf, isNew, callU, agsOf, agOf, kPl, place, lcB, itD, itemsOf, brwOf, toI, enI, ziI, isTy, eqOp, Py.rangeN c (by omega)]) (.inl rfl) (by omega) (fun i hi => by
    have hi2 : i ≤ 100000 := by omega
    simp -implicitDefEqProofs [lcB, locV, -bo_shl, -bo_shr, -bo_and, -bo_or, -bo_xor, nShl1, nShl, nShr, nAnd, nAnd1, nOr, nXor, isOwnL, onI, hi2, inner i, sum_p2, -bi_sum_l])
  rw [fmSome] at elc
  have key := while_inv (step := whT whileL P (runF P (n + 1)) (.cmp .Gt (.bi .len [.loc 2]) (.con (.int 1))) (bypBody iTake iFull))
    (fun m s => ∃ (ps : List (Nat × Nat)) (x5 x6 x7 x8 : Sl) (cs' : List (List D)) (j' : Nat), s = ⟨[.cell k, .pub (.int c), .own (pLst ps), .non, .non, x5, x6, x7, x8], cs'⟩ ∧ (ps.length = m + 1 ∨ (m = 0 ∧ ps = [])) ∧ ps.length ≤ 6 ∧ (∀ q ∈ ps, q.2 < TB c) ∧ j' + 4 * m ≤ 20 ∧ Cl k (j + j') L cs') ?_ ?_ (c - 1)
    ⟨[.cell k, .pub (.int c), .own (pLst ((List.range c).map fun i => (p2 i, (((List.range (p2 c)).filter fun p => on p i).map p2).sum))), .non, .non, .non, .non, .non, .non], cs⟩
    ⟨_, _, _, _, _, cs, 0, rfl, ?_, by simp; omega, fun q hq => ?_, by omega, hc⟩
  · obtain ⟨s', e, ps, x5, x6, x7, x8, cs', j', rfl, hl, hl6, hps, hjj, hcl⟩ := key
    have hlist : (List.range c).map (fun i => D.lst [.int (p2 i : Nat), .int ((((List.range (p2 c)).filter fun p => on p i).map p2).sum : Nat)]) = ((List.range c).map fun i => (p2 i, (((List.range (p2 c)).filter fun p => on p i).map p2).sum)).map fun q => D.lst [.int q.1, .int q.2] := by rw [List.map_map]; rfl
    rw [hlist] at elc
    generalize ((List.range c).map fun i => (p2 i, (((List.range (p2 c)).filter fun p => on p i).map p2).sum)) = L0 at *
    have hlen : ps = [] ∨ ∃ q, ps = [q] := by
      rcases hl with hl | ⟨_, hl⟩
      · match ps, hl with
        | [q], _ => exact .inr ⟨q, rfl⟩
      · exact .inl hl
    unfold pLst at e
    unfold bypBody opE at e
    rcases hlen with rfl | ⟨q, rfl⟩
    · obtain ⟨r, cs2, e2, hr, c2⟩ := take_ok hTake n k (j + j') L 2 cs' hcl (by omega) (by decide) (by decide)
      have hl2 : cs2.take cs.length = cs2 := List.take_of_length_le (by rw [c2.1, hc.1]; exact Nat.le_refl _)
      refine ⟨r, cs2, ?_, ?_, j' + 1, by omega, c2⟩
      · rw [runF_succ P (n + 1) iByParts _ cs _ hB rfl]
        unfold bodyR dByParts
        rw [show ((2 : Nat) : Int) = 2 from rfl] at e2
        simp -implicitDefEqProofs [elc, agSl, isNew, rtOf, e, locV, rd_brw, eqOp, callU, agsOf, agOf, e2, hl2]
      · exact Nat.lt_of_lt_of_le hr (Nat.pow_le_pow_right (n := 2) (by decide) (show 1 ≤ 2 ^ c from Nat.one_le_two_pow))
    · have hl2 : cs'.take cs.length = cs' := List.take_of_length_le (by rw [hcl.1, hc.1]; exact Nat.le_refl _)
      refine ⟨q.2, cs', ?_, hps q (by simp), j', by omega, hcl⟩
      rw [runF_succ P (n + 1) iByParts _ cs _ hB rfl]
      unfold bodyR dByParts
      have pl : plain 29 (.lst [.int (q.1 : Nat), .int (q.2 : Nat)]) = true := rfl
      simp -implicitDefEqProofs [elc, agSl, isNew, rtOf, e, locV, rd_brw, eqOp, ixOp, atI, ixN, hl2, pl]
  · rintro m s ⟨ps, x5, x6, x7, x8, cs', j', rfl, hl, hl6, hps, hjj, hcl⟩
    have hl : ps.length = m + 2 := by
      rcases hl with hl | ⟨h, _⟩
      · exact hl
      · cases h
    obtain ⟨ps', y5, y6, y7, y8, cs2, e, h1, h2, h3⟩ := byp_turn hTake hFull n k (j + j') L c hc6 ps (by omega) hl6 hps .non .non x5 x6 x7 x8 cs' hcl (by omega)
    refine ⟨_, whT_go ?_ e, ps', y5, y6, y7, y8, cs2, j' + 4, rfl, .inl (by omega), by omega, h2, by omega, h3⟩
    have : (1 : Int) < (ps.length : Int) := by omega
    simp -implicitDefEqProofs [locV, rd_brw, pLst, this]
  · rintro s ⟨ps, x5, x6, x7, x8, cs', j', rfl, hl, hl6, hps, hjj, hcl⟩
    refine whT_end ?_
    have : ¬ (1 : Int) < (ps.length : Int) := by
      rcases hl with hl | ⟨_, hl⟩
      · omega
      · rw [hl]; simp
    simp -implicitDefEqProofs [locV, rd_brw, pLst, this]
  · rw [List.length_map, List.length_range]
    rcases Nat.eq_zero_or_pos c with h | h
    · subst h; exact .inr ⟨rfl, rfl⟩
    · exact .inl (by omega)
  · obtain ⟨i, _, rfl⟩ := List.mem_map.mp hq
    exact asc_sum ((List.pairwise_lt_range).filter _) fun p hp => List.mem_range.mp (List.mem_filter.mp hp).1
end KL
end SKLF
section SKLG
set_option autoImplicit false
set_option linter.all false
set_option maxRecDepth 100000
set_option maxHeartbeats 4000000
open Py
open PySem (CmpOp Operator UnaryOp)
namespace KL
variable {P : Prog}
/-! ### _law_drawn, way by way -/
/-- a return of a table -/
def RetT (c k j L b : Nat) (o : Out Fl) : Prop := ∃ (f : Nat) (env : List Sl) (cs : List (List D)), o = .ok (.ret (.d (.int (f : Nat)))) ⟨env, cs⟩ ∧ f < TB c ∧ ∃ j', j' ≤ b ∧ Cl k (j + j') L cs
abbrev dA (iTake : Nat) : List T := [.asg (.nm 3) (.con (.int 0)), .for_ (.nm 4) (.range [.bin .LShift (.con (.int 1)) (.loc 1)]) [.asg (.nm 3) (.bin .BitOr (.loc 3) (.bin .LShift (.call iTake [.loc 0, .con (.int 2)]) (.loc 4)))], .ret (some (.loc 3))]
theorem sl_lt {r p c : Nat} (hr : r < 2) (hp : p < 2 ^ c) : sl r p < TB c := by
  unfold sl
  have := p2_lt hp
  unfold p2 at this
  rcases Nat.lt_succ_iff_lt_or_eq.mp hr with h | h
  · have : r = 0 := by omega
    subst this
    rw [Nat.zero_mul]; exact Nat.two_pow_pos _
  · subst h; rw [Nat.one_mul]; exact this
theorem drawnA {iTake : Nat} (hTake : P.fn iTake = some dTake) (n k j L c : Nat) (hc6 : c ≤ 6) (w : Nat) (cs : List (List D)) (hc : Cl k j L cs) (hj : j < 2 ^ 30) :
    RetT c k j L 100 (exTs whileL P (runF P (n + 2)) (dA iTake) ⟨[.cell k, .pub (.int c), .pub (.int (w : Nat)), .non, .non, .non, .non, .non, .non, .non, .non, .non, .non], cs⟩) := by
  have h1 := p2_le6 hc6
  have h2 : c ≤ 100000 := by omega
  have key := for_range (P := P) (run := runF P (n + 2)) (lp := whileL) (i := 4) (e := .bin .LShift (.con (.int 1)) (.loc 1)) (b := [.asg (.nm 3) (.bin .BitOr (.loc 3) (.bin .LShift (.call iTake [.loc 0, .con (.int 2)]) (.loc 4)))])
    (s0 := ⟨[.cell k, .pub (.int c), .pub (.int (w : Nat)), .pub (.int 0), .non, .non, .non, .non, .non, .non, .non, .non, .non], cs⟩) (s := ⟨[.cell k, .pub (.int c), .pub (.int (w : Nat)), .pub (.int 0), .non, .non, .non, .non, .non, .non, .non, .non, .non], cs⟩) (c := p2 c)
    (fun m u => ∃ (f : Nat) (x4 : Sl) (cs' : List (List D)), u = ⟨[.cell k, .pub (.int c), .pub (.int (w : Nat)), .pub (.int (f : Nat)), x4, .non, .non, .non, .non, .non, .non, .non, .non], cs'⟩ ∧ f < TB c ∧ Cl k (j + m) L cs') (by omega) (by simp -implicitDefEqProofs [agSl, locV, rd_brw, ixOp, atI, ixN, rtOf, isNew, callU, agsOf, agOf, kPl, place, lcB, itD, itemsOf, brwOf, toI, enI, ziI, isTy, eqOp, -bo_shl, -bo_shr, -bo_and, -bo_or, -bo_xor, nShl1, nShl, nShr, nAnd, nAnd1, nOr, nXor, isOwnL, onI, h2]) ⟨0, _, cs, rfl, Nat.two_pow_pos _, hc⟩ ?_
  · obtain ⟨s', e, f, x4, cs', rfl, hf, hcl⟩ := key
    exact ⟨f, _, cs', by unfold dA; simp -implicitDefEqProofs [locV, e]; rfl, hf, p2 c, by omega, hcl⟩
  · rintro p u hp ⟨f, x4, cs', rfl, hf, hcl⟩
    obtain ⟨r, cs2, e1, hr, c2⟩ := take_ok hTake (n + 1) k (j + p) L 2 cs' hcl (by omega) (by decide) (by decide)
    rw [show ((2 : Nat) : Int) = 2 from rfl] at e1
    have hp2 : p ≤ 100000 := by omega
    have hr2 : r < 18446744073709551616 := by omega
    exact ⟨⟨[.cell k, .pub (.int c), .pub (.int (w : Nat)), .pub (.int ((f ||| sl r p : Nat) : Int)), .pub (.int (p : Nat)), .non, .non, .non, .non, .non, .non, .non, .non], cs2⟩, .inl (by simp -implicitDefEqProofs [locV, callU, agsOf, agOf, e1, -bo_shl, -bo_shr, -bo_and, -bo_or, -bo_xor, nShl1, nShl, nShr, nAnd, nAnd1, nOr, nXor, isOwnL, onI, hp2, hr2]), _, _, _, rfl, or_lt hf (sl_lt hr hp), c2⟩
abbrev dB (iTake iMixed : Nat) : List T := [.ret (some (.bi .sum [.lc (.bin .LShift (.con (.int 1)) (.loc 4)) (.nm 4) (.seq (.bi .sorted [.sl (.call iMixed [.loc 0, .bin .LShift (.con (.int 1)) (.loc 1)]) none (some (.call iTake [.loc 0, .con (.int 5)]))])) [] [4]]))]
theorem cut_take {α : Type} (xs : List α) (r : Nat) : cut xs none (some (r : Int)) = xs.take r := by
  unfold cut sIx
  have : ¬ ((r : Int) < 0) := by omega
  simp [this]
theorem le_nodup_lt : ∀ {l : List Nat}, l.Pairwise (· ≤ ·) → l.Nodup → l.Pairwise (· < ·)
  | [], _, _ => .nil
  | x :: r, h, d => by
    obtain ⟨h1, h2⟩ := List.pairwise_cons.mp h
    obtain ⟨d1, d2⟩ := List.nodup_cons.mp d
    refine List.pairwise_cons.mpr ⟨fun y hy => ?_, le_nodup_lt h2 d2⟩
    have a := h1 y hy
    have b : x ≠ y := fun z => d1 (z ▸ hy)
    omega
theorem drawnB {iTake iMixed : Nat} (hTake : P.fn iTake = some dTake) (hM : P.fn iMixed = some (dMixed iTake)) (n k j L c : Nat) (hc6 : c ≤ 6) (w : Nat) (cs : List (List D)) (hc : Cl k j L cs) (hj : j < 2 ^ 28) :
    RetT c k j L 100 (exTs whileL P (runF P (n + 2)) (dB iTake iMixed) ⟨[.cell k, .pub (.int c), .pub (.int (w : Nat)), .non, .non, .non, .non, .non, .non, .non, .non, .non, .non], cs⟩) := by
  have h1 := p2_le6 hc6
  have h2 : c ≤ 100000 := by omega
  obtain ⟨l, cs1, e1, hp, c1⟩ := mixed_ok hTake hM n k j L (p2 c) cs hc (by omega) (by omega)
  obtain ⟨r, cs2, e2, hr, c2⟩ := take_ok hTake (n + 1) k (j + p2 c) L 5 cs1 c1 (by omega) (by decide) (by decide)
  rw [show ((5 : Nat) : Int) = 5 from rfl] at e2
  obtain ⟨l', e3, hp3, hs3⟩ := bi_sorted_nat (l.take r)
  have hmem : ∀ p ∈ l', p < 2 ^ c := fun p h => by
    have := hp.mem_iff.mp (List.mem_of_mem_take (hp3.mem_iff.mp h))
    exact List.mem_range.mp this
  have hnd : l'.Nodup := hp3.nodup_iff.mpr ((hp.nodup_iff.mpr List.nodup_range).sublist (List.take_sublist _ _))
  have hlen : l'.length ≤ 64 := by
    rw [hp3.length_eq, List.length_take, hp.length_eq, List.length_range]; omega
  have ecut : cut (l.map fun (p : Nat) => D.int p) none (some (r : Int)) = (l.map fun (p : Nat) => D.int p).take r := cut_take _ _
  rw [List.map_take] at e3
  have hl2 : cs2.take cs.length = cs2 := List.take_of_length_le (by rw [c2.1, hc.1]; exact Nat.le_refl _)
  have elc := lc1s (P := P) (run := runF P (n + 2)) (i := 4) (elt := .bin .LShift (.con (.int 1)) (.loc 4)) (it := .seq (.bi .sorted [.sl (.call iMixed [.loc 0, .bin .LShift (.con (.int 1)) (.loc 1)]) none (some (.call iTake [.loc 0, .con (.int 5)]))])) (ifs := [])
    (s0 := ⟨[.cell k, .pub (.int c), .pub (.int (w : Nat)), .non, .non, .non, .non, .non, .non, .non, .non, .non, .non], cs⟩) (s := ⟨[.cell k, .pub (.int c), .pub (.int (w : Nat)), .non, .non, .non, .non, .non, .non, .non, .non, .non, .non], cs2⟩) (fun (p : Nat) => D.int p) l' (fun p => some (.int (p2 p : Nat)))
    (by simp -implicitDefEqProofs [locV, -bo_shl, -bo_shr, -bo_and, -bo_or, -bo_xor, nShl1, nShl, nShr, nAnd, nAnd1, nOr, nXor, isOwnL, onI, h2, callU, agsOf, agOf, e1, e2, slOp, ecut, e3, itD, itemsOf, brwOf]) (.inl rfl) (by omega) (fun p hp => by
      have hp2 : p ≤ 100000 := by have h := hmem p hp; have : 2 ^ c ≤ 64 := h1; omega
      simp -implicitDefEqProofs [agSl, locV, rd_brw, ixOp, atI, ixN, rtOf, isNew, callU, agsOf, agOf, kPl, place, lcB, itD, itemsOf, brwOf, toI, enI, ziI, isTy, eqOp, -bo_shl, -bo_shr, -bo_and, -bo_or, -bo_xor, nShl1, nShl, nShr, nAnd, nAnd1, nOr, nXor, isOwnL, onI, hp2])
  rw [fmSome] at elc
  exact ⟨(l'.map p2).sum, _, cs2, by unfold dB; simp -implicitDefEqProofs [elc, sum_p2, -bi_sum_l]; rfl, asc_sum (le_nodup_lt hs3 hnd) hmem, p2 c + 1, by omega, c2⟩
abbrev dC (iTake iClosedUp : Nat) : List T := [.asg (.nm 5) (.lc (.call iTake [.loc 0, .bin .LShift (.con (.int 1)) (.loc 1)]) (.nm 6) (.range [.bin .Add (.con (.int 1)) (.call iTake [.loc 0, .con (.int 5)])]) [] [6]), .ret (some (.call iClosedUp [.loc 1, .bi .sum [.lc (.bin .LShift (.con (.int 1)) (.loc 4)) (.nm 4) (.seq (.bi .sortedSet [.loc 5])) [] [4]]]))]
theorem drawnC {iTake iClosedUp : Nat} (hTake : P.fn iTake = some dTake) (hC : P.fn iClosedUp = some dClosedUp) (n k j L c : Nat) (hc6 : c ≤ 6) (w : Nat) (cs : List (List D)) (hc : Cl k j L cs) (hj : j < 2 ^ 28) :
    RetT c k j L 100 (exTs whileL P (runF P (n + 2)) (dC iTake iClosedUp) ⟨[.cell k, .pub (.int c), .pub (.int (w : Nat)), .non, .non, .non, .non, .non, .non, .non, .non, .non, .non], cs⟩) := by
  have h1 := p2_le6 hc6
  have h2 : c ≤ 100000 := by omega
  obtain ⟨r, cs1, e1, hr, c1⟩ := take_ok hTake (n + 1) k j L 5 cs hc (by omega) (by decide) (by decide)
  rw [show ((5 : Nat) : Int) = 5 from rfl] at e1
  have eadd : (1 : Int) + (r : Int) = ((1 + r : Nat) : Int) := by omega
  have hlc := lc1cells (P := P) (run := runF P (n + 2)) (elt := .call iTake [.loc 0, .bin .LShift (.con (.int 1)) (.loc 1)]) (it := .range [.bin .Add (.con (.int 1)) (.call iTake [.loc 0, .con (.int 5)])]) (ifs := []) (i := 6) (s0 := ⟨[.cell k, .pub (.int c), .pub (.int (w : Nat)), .non, .non, .non, .non, .non, .non, .non, .non, .non, .non], cs⟩) (s := ⟨[.cell k, .pub (.int c), .pub (.int (w : Nat)), .non, .non, .non, .non, .non, .non, .non, .non, .non, .non], cs1⟩) (xs := rangeD 0 (1 + r))
    (fun m acc cs' => Cl k (j + 1 + m) L cs' ∧ ∃ z : List Nat, z.length = m ∧ (∀ p ∈ z, p < p2 c) ∧ acc = z.map fun (p : Nat) => D.int p) (by simp -implicitDefEqProofs [locV, callU, agsOf, agOf, e1, eadd, Py.rangeN (1 + r) (by omega), -Int.natCast_add]) (.inl rfl) (by rw [rg_len]; omega) ⟨c1, [], rfl, fun p hp => (by cases hp), rfl⟩ ?_
  · obtain ⟨ys, cs2, e2, hcl, z, hz, hzp, rfl⟩ := hlc
    rw [rg_len] at hcl hz
    obtain ⟨l', e3, hm3, hs3⟩ := bi_sortedSet_nat z (by omega)
    have hmem : ∀ p ∈ l', p < 2 ^ c := fun p h => hzp p ((hm3 p).mp h)
    have hlen : l'.length ≤ 64 := by
      have := asc_len hs3 hmem
      exact Nat.le_trans this h1
    have elc := lc1s (P := P) (run := runF P (n + 2)) (i := 4) (elt := .bin .LShift (.con (.int 1)) (.loc 4)) (it := .seq (.bi .sortedSet [.loc 5])) (ifs := [])
      (s0 := ⟨[.cell k, .pub (.int c), .pub (.int (w : Nat)), .non, .non, .own (.lst (z.map fun (p : Nat) => D.int p)), .non, .non, .non, .non, .non, .non, .non], cs2⟩) (s := ⟨[.cell k, .pub (.int c), .pub (.int (w : Nat)), .non, .non, .own (.lst (z.map fun (p : Nat) => D.int p)), .non, .non, .non, .non, .non, .non, .non], cs2⟩) (fun (p : Nat) => D.int p) l' (fun p => some (.int (p2 p : Nat)))
      (by simp -implicitDefEqProofs [locV, rd_brw, e3, itD, itemsOf, brwOf]) (.inl rfl) (by omega) (fun p hp => by
        have hp2 : p ≤ 100000 := by have h := hmem p hp; have : 2 ^ c ≤ 64 := h1; omega
        simp -implicitDefEqProofs [agSl, locV, rd_brw, ixOp, atI, ixN, rtOf, isNew, callU, agsOf, agOf, kPl, place, lcB, itD, itemsOf, brwOf, toI, enI, ziI, isTy, eqOp, -bo_shl, -bo_shr, -bo_and, -bo_or, -bo_xor, nShl1, nShl, nShr, nAnd, nAnd1, nOr, nXor, isOwnL, onI, hp2])
    rw [fmSome] at elc
    obtain ⟨f, e4, hf⟩ := closed_ok hC (n + 1) c (l'.map p2).sum hc6 (asc_sum hs3 hmem) cs2
    exact ⟨f, _, cs2, by unfold dC; simp -implicitDefEqProofs [e2, elc, sum_p2, -bi_sum_l, locV, callU, agsOf, agOf, e4]; rfl, hf, 1 + (1 + r), by omega, by rw [show j + (1 + (1 + r)) = j + 1 + (1 + r) by omega]; exact hcl⟩
  · intro m x acc cs2 hx ⟨hcl, z, hz, hzp, hacc⟩
    obtain ⟨hm, rfl⟩ := rg_mem hx
    obtain ⟨q, cs3, e2, hq, c3⟩ := take_ok hTake (n + 1) k (j + 1 + m) L (p2 c) cs2 hcl (by omega) (Nat.one_le_two_pow) (by omega)
    refine ⟨some (.int (q : Nat)), cs3, by simp -implicitDefEqProofs [lcB, locV, callU, agsOf, agOf, -bo_shl, -bo_shr, -bo_and, -bo_or, -bo_xor, nShl1, nShl, nShr, nAnd, nAnd1, nOr, nXor, isOwnL, onI, h2, e2], c3, z ++ [q], by simp [hz], fun p hp => ?_, by simp [hacc]⟩
    rcases List.mem_append.mp hp with hp | hp
    · exact hzp p hp
    · rw [List.mem_singleton.mp hp]; exact hq
end KL
end SKLG
section SKLH
set_option autoImplicit false
set_option linter.all false
set_option maxRecDepth 100000
set_option maxHeartbeats 4000000
open Py
open PySem (CmpOp Operator UnaryOp)
namespace KL
variable {P : Prog}
abbrev dD (iTake iByWeights : Nat) : List T := [.asg (.nm 7) (.lc (.bin .Sub (.call iTake [.loc 0, .con (.int 11)]) (.con (.int 4))) (.nm 8) (.range [.loc 1]) [] [8]), .ret (some (.call iByWeights [.loc 1, .loc 7, .bin .Sub (.call iTake [.loc 0, .con (.int 12)]) (.con (.int 3))]))]
theorem drawnD {iTake iByWeights : Nat} (hTake : P.fn iTake = some dTake) (hB : P.fn iByWeights = some dByWeights) (n k j L c : Nat) (hc6 : c ≤ 6) (w : Nat) (cs : List (List D)) (hc : Cl k j L cs) (hj : j < 2 ^ 28) :
    RetT c k j L 100 (exTs whileL P (runF P (n + 2)) (dD iTake iByWeights) ⟨[.cell k, .pub (.int c), .pub (.int (w : Nat)), .non, .non, .non, .non, .non, .non, .non, .non, .non, .non], cs⟩) := by
  have hlc := lc1cells (P := P) (run := runF P (n + 2)) (elt := .bin .Sub (.call iTake [.loc 0, .con (.int 11)]) (.con (.int 4))) (it := .range [.loc 1]) (ifs := []) (i := 8) (s0 := ⟨[.cell k, .pub (.int c), .pub (.int (w : Nat)), .non, .non, .non, .non, .non, .non, .non, .non, .non, .non], cs⟩) (s := ⟨[.cell k, .pub (.int c), .pub (.int (w : Nat)), .non, .non, .non, .non, .non, .non, .non, .non, .non, .non], cs⟩) (xs := rangeD 0 c)
    (fun m acc cs' => Cl k (j + m) L cs' ∧ ∃ z : List Int, z.length = m ∧ acc = z.map .int) (by simp -implicitDefEqProofs [agSl, locV, rd_brw, ixOp, atI, ixN, rtOf, isNew, callU, agsOf, agOf, kPl, place, lcB, itD, itemsOf, brwOf, toI, enI, ziI, isTy, eqOp, Py.rangeN c (by omega)]) (.inl rfl) (by rw [rg_len]; omega) ⟨hc, [], rfl, rfl⟩ ?_
  · obtain ⟨ys, cs2, e2, hcl, z, hz, rfl⟩ := hlc
    rw [rg_len] at hcl hz
    obtain ⟨r, cs3, e3, hr, c3⟩ := take_ok hTake (n + 1) k (j + c) L 12 cs2 hcl (by omega) (by decide) (by decide)
    rw [show ((12 : Nat) : Int) = 12 from rfl] at e3
    obtain ⟨f, e4, hf⟩ := byw_ok hB (n + 1) c z ((r : Int) - 3) hc6 hz cs3
    exact ⟨f, _, cs3, by unfold dD; simp -implicitDefEqProofs [e2, locV, callU, agsOf, agOf, rd_brw, e3, e4]; rfl, hf, c + 1, by omega, c3⟩
  · intro m x acc cs2 hx ⟨hcl, z, hz, hacc⟩
    obtain ⟨hm, rfl⟩ := rg_mem hx
    obtain ⟨q, cs3, e2, hq, c3⟩ := take_ok hTake (n + 1) k (j + m) L 11 cs2 hcl (by omega) (by decide) (by decide)
    rw [show ((11 : Nat) : Int) = 11 from rfl] at e2
    exact ⟨some (.int ((q : Int) - 4)), cs3, by simp -implicitDefEqProofs [lcB, locV, callU, agsOf, agOf, e2], c3, z ++ [(q : Int) - 4], by simp [hz], by simp [hacc]⟩
abbrev dE (iTake iWeight iByTerms : Nat) : List T := [.asg (.nm 9) (.lc (.loc 10) (.nm 10) (.range [.bin .LShift (.con (.int 1)) (.loc 1)]) [.and (.cmp .Lt (.call iWeight [.loc 10]) (.con (.int 3))) (.cmp .Eq (.call iTake [.loc 0, .con (.int 3)]) (.con (.int 0)))] [10]), .ret (some (.call iByTerms [.loc 1, .loc 9]))]
theorem drawnE {iTake iWeight iByTerms : Nat} (hTake : P.fn iTake = some dTake) (hW : P.fn iWeight = some dWeight) (hB : P.fn iByTerms = some dByTerms) (n k j L c : Nat) (hc6 : c ≤ 6) (w : Nat) (cs : List (List D)) (hc : Cl k j L cs) (hj : j < 2 ^ 28) :
    RetT c k j L 100 (exTs whileL P (runF P (n + 2)) (dE iTake iWeight iByTerms) ⟨[.cell k, .pub (.int c), .pub (.int (w : Nat)), .non, .non, .non, .non, .non, .non, .non, .non, .non, .non], cs⟩) := by
  have h1 := p2_le6 hc6
  have h2 : c ≤ 100000 := by omega
  have hlc := lc1cells (P := P) (run := runF P (n + 2)) (elt := .loc 10) (it := .range [.bin .LShift (.con (.int 1)) (.loc 1)]) (ifs := [.and (.cmp .Lt (.call iWeight [.loc 10]) (.con (.int 3))) (.cmp .Eq (.call iTake [.loc 0, .con (.int 3)]) (.con (.int 0)))]) (i := 10) (s0 := ⟨[.cell k, .pub (.int c), .pub (.int (w : Nat)), .non, .non, .non, .non, .non, .non, .non, .non, .non, .non], cs⟩) (s := ⟨[.cell k, .pub (.int c), .pub (.int (w : Nat)), .non, .non, .non, .non, .non, .non, .non, .non, .non, .non], cs⟩) (xs := rangeD 0 (p2 c))
    (fun m acc cs' => (∃ j', j' ≤ m ∧ Cl k (j + j') L cs') ∧ ∃ z : List Nat, z.length ≤ m ∧ acc = z.map fun (p : Nat) => D.int p) (by simp -implicitDefEqProofs [agSl, locV, rd_brw, ixOp, atI, ixN, rtOf, isNew, callU, agsOf, agOf, kPl, place, lcB, itD, itemsOf, brwOf, toI, enI, ziI, isTy, eqOp, -bo_shl, -bo_shr, -bo_and, -bo_or, -bo_xor, nShl1, nShl, nShr, nAnd, nAnd1, nOr, nXor, isOwnL, onI, h2, Py.rangeN (p2 c) (by omega)]) (.inl rfl) (by rw [rg_len]; omega) ⟨⟨0, by omega, hc⟩, [], by simp, rfl⟩ ?_
  · obtain ⟨ys, cs2, e2, ⟨j', hj', hcl⟩, z, hz, rfl⟩ := hlc
    rw [rg_len] at hz hj'
    obtain ⟨f, e4, hf⟩ := byt_ok hB (n + 1) c z hc6 (by omega) cs2
    exact ⟨f, _, cs2, by unfold dE; simp -implicitDefEqProofs [e2, locV, callU, agsOf, agOf, rd_brw, e4]; rfl, hf, j', by omega, hcl⟩
  · rintro m x acc cs2 hx ⟨⟨j', hj', hcl⟩, z, hz, hacc⟩
    obtain ⟨hm, rfl⟩ := rg_mem hx
    have ew := weight_ok hW (n + 1) m cs2
    by_cases hw3 : wt m < 3
    · obtain ⟨q, cs3, e2, hq, c3⟩ := take_ok hTake (n + 1) k (j + j') L 3 cs2 hcl (by omega) (by decide) (by decide)
      rw [show ((3 : Nat) : Int) = 3 from rfl] at e2
      have hw' : (wt m : Int) < 3 := by omega
      by_cases hq0 : q = 0
      · subst hq0
        exact ⟨some (.int (m : Nat)), cs3, by simp -implicitDefEqProofs [lcB, locV, callU, agsOf, agOf, ew, e2, hw', eqOp], ⟨j' + 1, by omega, c3⟩, z ++ [m], by simp; omega, by simp [hacc]⟩
      · have : ((q : Int) == 0) = false := by simpa using hq0
        exact ⟨none, cs3, by simp -implicitDefEqProofs [lcB, locV, callU, agsOf, agOf, ew, e2, hw', eqOp, this], ⟨j' + 1, by omega, c3⟩, z, by omega, by simp [hacc]⟩
    · have hw' : ¬ (wt m : Int) < 3 := by omega
      exact ⟨none, cs2, by simp -implicitDefEqProofs [lcB, locV, callU, agsOf, agOf, ew, hw'], ⟨j', by omega, hcl⟩, z, by omega, by simp [hacc]⟩
theorem drawnF {iTake iFull iByParts : Nat} (hTake : P.fn iTake = some dTake) (hFull : P.fn iFull = some dFull) (hB : P.fn iByParts = some (dByParts iTake iFull)) (n k j L c : Nat) (hc6 : c ≤ 6) (w : Nat) (cs : List (List D)) (hc : Cl k j L cs) (hj : j < 2 ^ 28) :
    RetT c k j L 100 (exTs whileL P (runF P (n + 2)) [.ret (some (.call iByParts [.loc 0, .loc 1]))] ⟨[.cell k, .pub (.int c), .pub (.int (w : Nat)), .non, .non, .non, .non, .non, .non, .non, .non, .non, .non], cs⟩) := by
  obtain ⟨f, cs', e, hf, j', hj', hcl⟩ := byp_ok hTake hFull hB n k j L c hc6 cs hc (by omega)
  exact ⟨f, _, cs', by simp -implicitDefEqProofs [locV, callU, agsOf, agOf, e]; rfl, hf, j', by omega, hcl⟩
theorem wt_all : (List.range 7).all (fun c => (List.range (2 ^ c)).all fun p => decide (wt p ≤ c)) = true := by decide +kernel
theorem wt_le {c p : Nat} (hc : c ≤ 6) (hp : p < 2 ^ c) : wt p ≤ c := by
  have h := List.all_eq_true.mp (List.all_eq_true.mp wt_all c (List.mem_range.mpr (by omega))) p (List.mem_range.mpr hp)
  exact of_decide_eq_true h
abbrev dG (iTake iWeight : Nat) : List T := [.asg (.nm 11) (.lc (.call iTake [.loc 0, .con (.int 2)]) (.nm 6) (.range [.bin .Add (.loc 1) (.con (.int 1))]) [] [6]), .ret (some (.bi .sum [.lc (.bin .LShift (.con (.int 1)) (.loc 4)) (.nm 4) (.range [.bin .LShift (.con (.int 1)) (.loc 1)]) [.cmp .Eq (.ix (.loc 11) (.call iWeight [.loc 4])) (.con (.int 1))] [4]]))]
theorem drawnG {iTake iWeight : Nat} (hTake : P.fn iTake = some dTake) (hW : P.fn iWeight = some dWeight) (n k j L c : Nat) (hc6 : c ≤ 6) (w : Nat) (cs : List (List D)) (hc : Cl k j L cs) (hj : j < 2 ^ 28) :
    RetT c k j L 100 (exTs whileL P (runF P (n + 2)) (dG iTake iWeight) ⟨[.cell k, .pub (.int c), .pub (.int (w : Nat)), .non, .non, .non, .non, .non, .non, .non, .non, .non, .non], cs⟩) := by
  have h1 := p2_le6 hc6
  have h2 : c ≤ 100000 := by omega
  have eadd : (c : Int) + 1 = ((c + 1 : Nat) : Int) := by omega
  have hlc := lc1cells (P := P) (run := runF P (n + 2)) (elt := .call iTake [.loc 0, .con (.int 2)]) (it := .range [.bin .Add (.loc 1) (.con (.int 1))]) (ifs := []) (i := 6) (s0 := ⟨[.cell k, .pub (.int c), .pub (.int (w : Nat)), .non, .non, .non, .non, .non, .non, .non, .non, .non, .non], cs⟩) (s := ⟨[.cell k, .pub (.int c), .pub (.int (w : Nat)), .non, .non, .non, .non, .non, .non, .non, .non, .non, .non], cs⟩) (xs := rangeD 0 (c + 1))
    (fun m acc cs' => Cl k (j + m) L cs' ∧ ∃ z : List Nat, z.length = m ∧ acc = z.map fun (p : Nat) => D.int p) (by simp -implicitDefEqProofs [agSl, locV, rd_brw, ixOp, atI, ixN, rtOf, isNew, callU, agsOf, agOf, kPl, place, lcB, itD, itemsOf, brwOf, toI, enI, ziI, isTy, eqOp, eadd, Py.rangeN (c + 1) (by omega), -Int.natCast_add]) (.inl rfl) (by rw [rg_len]; omega) ⟨hc, [], rfl, rfl⟩ ?_
  · obtain ⟨ys, cs2, e2, hcl, z, hz, rfl⟩ := hlc
    rw [rg_len] at hcl hz
    have elc := lcR (P := P) (run := runF P (n + 2)) (i := 4) (elt := .bin .LShift (.con (.int 1)) (.loc 4)) (it := .range [.bin .LShift (.con (.int 1)) (.loc 1)]) (ifs := [.cmp .Eq (.ix (.loc 11) (.call iWeight [.loc 4])) (.con (.int 1))]) (s := ⟨[.cell k, .pub (.int c), .pub (.int (w : Nat)), .non, .non, .non, .non, .non, .non, .non, .non, .own (.lst (z.map fun (p : Nat) => D.int p)), .non], cs2⟩) (p2 c) (fun p => if decide (z[wt p]? = some 1) = true then some (.int (p2 p : Nat)) else none)
      (by simp -implicitDefEqProofs [agSl, locV, rd_brw, ixOp, atI, ixN, rtOf, isNew, callU, agsOf, agOf, kPl, place, lcB, itD, itemsOf, brwOf, toI, enI, ziI, isTy, eqOp, -bo_shl, -bo_shr, -bo_and, -bo_or, -bo_xor, nShl1, nShl, nShr, nAnd, nAnd1, nOr, nXor, isOwnL, onI, h2, Py.rangeN (p2 c) (by omega)]) (.inl rfl) (by omega) (fun p hp => by
        have hp2 : p ≤ 100000 := by omega
        have ew := weight_ok hW (n + 1) p cs2
        have hwc := wt_le hc6 hp
        have hlt : wt p < z.length := by omega
        have ei : ixOp (.lst (z.map fun (p : Nat) => D.int p)) (.int (wt p : Nat)) = some (.int (z[wt p] : Nat)) := by rw [ixOp_l]; simp [hlt]
        have eg : z[wt p]? = some z[wt p] := List.getElem?_eq_getElem hlt
        rw [eg]
        generalize z[wt p] = v at *
        by_cases hv : v = 1
        · subst hv; simp -implicitDefEqProofs [lcB, locV, callU, agsOf, agOf, rd_brw, ew, ei, eqOp, -bo_shl, -bo_shr, -bo_and, -bo_or, -bo_xor, nShl1, nShl, nShr, nAnd, nAnd1, nOr, nXor, isOwnL, onI, hp2]
        · have : ((v : Int) == 1) = false := by
            have : ¬ (v : Int) = 1 := by omega
            simpa using this
          have hv' : decide (some v = some 1) = false := by simpa using hv
          simp -implicitDefEqProofs [lcB, locV, callU, agsOf, agOf, rd_brw, ew, ei, eqOp, this, hv, hv'])
    rw [fmIf] at elc
    exact ⟨_, _, cs2, by unfold dG; simp -implicitDefEqProofs [e2, elc, sum_p2, -bi_sum_l]; rfl, asc_sum (c := c) (l := (List.range (p2 c)).filter fun p => decide (z[wt p]? = some 1)) ((List.pairwise_lt_range).filter _) (fun p hp => List.mem_range.mp (List.mem_filter.mp hp).1), c + 1, by omega, hcl⟩
  · intro m x acc cs2 hx ⟨hcl, z, hz, hacc⟩
    obtain ⟨hm, rfl⟩ := rg_mem hx
    obtain ⟨q, cs3, e2, hq, c3⟩ := take_ok hTake (n + 1) k (j + m) L 2 cs2 hcl (by omega) (by decide) (by decide)
    rw [show ((2 : Nat) : Int) = 2 from rfl] at e2
    exact ⟨some (.int (q : Nat)), cs3, by simp -implicitDefEqProofs [lcB, locV, callU, agsOf, agOf, e2], c3, z ++ [q], by simp [hz], by simp [hacc]⟩
end KL
end SKLH
section SKLI
set_option autoImplicit false
set_option linter.all false
set_option maxRecDepth 100000
set_option maxHeartbeats 4000000
open Py
open PySem (CmpOp Operator UnaryOp)
namespace KL
variable {P : Prog}
abbrev dHin : List T := [.asg (.nm 3) (.bin .BitOr (.loc 3) (.bin .LShift (.con (.int 1)) (.loc 4)))]
abbrev dHloop (iTake iInside : Nat) : List T := [.for_ (.nm 4) (.seq (.call iInside [.ix (.loc 12) (.call iTake [.loc 0, .bi .len [.loc 12]])])) dHin]
abbrev dH (iTake iCubes iInside : Nat) : List T := [.par [3, 12] [.con (.int 0), .call iCubes [.loc 1]], .for_ (.nm 6) (.range [.bin .Add (.con (.int 1)) (.call iTake [.loc 0, .con (.int 4)])]) (dHloop iTake iInside), .ret (some (.loc 3))]
def x12 (b : Bool) (zs : List (List Nat)) : Sl := if b then .own (sLst zs) else .pub (sLst zs)
theorem drawnH1 {iTake iInside : Nat} (hTake : P.fn iTake = some dTake) (hI : P.fn iInside = some dInside) (n k j L c : Nat) (hc6 : c ≤ 6) (w f : Nat) (x4 x6 : Sl) (b : Bool) (zs : List (List Nat)) (hz : CubesOk c zs) (hf : f < TB c) (cs : List (List D)) (hc : Cl k j L cs) (hj : j < 2 ^ 30) :
    ∃ (f' : Nat) (x4' : Sl) (cs' : List (List D)), exTs whileL P (runF P (n + 2)) (dHloop iTake iInside) ⟨[.cell k, .pub (.int c), .pub (.int (w : Nat)), .pub (.int (f : Nat)), x4, .non, x6, .non, .non, .non, .non, .non, x12 b zs], cs⟩ = .ok .nx ⟨[.cell k, .pub (.int c), .pub (.int (w : Nat)), .pub (.int (f' : Nat)), x4', .non, x6, .non, .non, .non, .non, .non, x12 b zs], cs'⟩ ∧ f' < TB c ∧ Cl k (j + 1) L cs' := by
  have h1 := p2_le6 hc6
  have hzl : zs.length ≤ 729 := by rw [hz.1]; exact Nat.le_trans (Nat.pow_le_pow_right (by decide) hc6) (by decide)
  have hzp : 1 ≤ zs.length := by rw [hz.1]; exact Nat.pow_pos (by decide)
  obtain ⟨r, cs1, e1, hr, c1⟩ := take_ok hTake (n + 1) k j L zs.length cs hc (by omega) hzp (by omega)
  have hzr := (hz.2 zs[r] (List.getElem_mem hr)).1
  obtain ⟨l, e2, hl, hl64⟩ := inside_ok hI (n + 1) zs[r] (by omega) cs1
  rw [hzr] at hl
  have ei : ixOp (sLst zs) (.int (r : Int)) = some (.str zs[r]) := by
    unfold sLst
    rw [ixOp_l]; simp [hr]
  have ev : evE P (runF P (n + 2)) (.call iInside [.ix (.loc 12) (.call iTake [.loc 0, .bi .len [.loc 12]])]) ⟨[.cell k, .pub (.int c), .pub (.int (w : Nat)), .pub (.int (f : Nat)), x4, .non, x6, .non, .non, .non, .non, .non, x12 b zs], cs⟩ = .ok (.own (nLst l)) ⟨[.cell k, .pub (.int c), .pub (.int (w : Nat)), .pub (.int (f : Nat)), x4, .non, x6, .non, .non, .non, .non, .non, x12 b zs], cs1⟩ := by
    have el : biOp .len [sLst zs] = some (.d (.int (zs.length : Nat))) := by unfold sLst; simp
    unfold x12
    generalize sLst zs = Z at ei el ⊢
    cases b
    · simp -implicitDefEqProofs [locV, callU, agsOf, agOf, e1, ei, e2, el]
    · simp -implicitDefEqProofs [locV, rd_brw, callU, agsOf, agOf, e1, ei, e2, el]
  have key := for_new (P := P) (run := runF P (n + 2)) (lp := whileL) (i := 4) (e := .call iInside [.ix (.loc 12) (.call iTake [.loc 0, .bi .len [.loc 12]])]) (b := dHin) (xs := l.map fun (p : Nat) => D.int p) (s0 := ⟨[.cell k, .pub (.int c), .pub (.int (w : Nat)), .pub (.int (f : Nat)), x4, .non, x6, .non, .non, .non, .non, .non, x12 b zs], cs⟩) (s := ⟨[.cell k, .pub (.int c), .pub (.int (w : Nat)), .pub (.int (f : Nat)), x4, .non, x6, .non, .non, .non, .non, .non, x12 b zs], cs1⟩)
    (fun m u => ∃ (f' : Nat) (x4' : Sl), u = ⟨[.cell k, .pub (.int c), .pub (.int (w : Nat)), .pub (.int (f' : Nat)), x4', .non, x6, .non, .non, .non, .non, .non, x12 b zs], cs1⟩ ∧ f' < TB c) (.inl ev) ⟨f, x4, rfl, hf⟩ ?_
  · obtain ⟨s', e, f', x4', rfl, hf'⟩ := key
    exact ⟨f', x4', cs1, by unfold dHloop; rw [s_cons, e, bind_ok, k_nx, s_nil], hf', c1⟩
  · rintro m hm u ⟨f', x4', rfl, hf'⟩
    have hm' : m < l.length := by simpa using hm
    have hp := hl l[m] (List.getElem_mem hm')
    have hp2 : l[m] ≤ 100000 := by have : 2 ^ c ≤ 64 := h1; omega
    rw [List.getElem_map]
    generalize l[m] = p at *
    exact ⟨⟨[.cell k, .pub (.int c), .pub (.int (w : Nat)), .pub (.int ((f' ||| p2 p : Nat) : Int)), .pub (.int (p : Nat)), .non, x6, .non, .non, .non, .non, .non, x12 b zs], cs1⟩, .inl (by unfold dHin; simp -implicitDefEqProofs [locV, -bo_shl, -bo_shr, -bo_and, -bo_or, -bo_xor, nShl1, nShl, nShr, nAnd, nAnd1, nOr, nXor, isOwnL, onI, hp2]), _, _, rfl, or_lt hf' (p2_lt hp)⟩
theorem drawnH {iTake iCubes iInside : Nat} (hTake : P.fn iTake = some dTake) (hC : P.fn iCubes = some dCubes) (hI : P.fn iInside = some dInside) (n k j L c : Nat) (hc6 : c ≤ 6) (w : Nat) (cs : List (List D)) (hc : Cl k j L cs) (hj : j < 2 ^ 28) :
    RetT c k j L 100 (exTs whileL P (runF P (n + 2)) (dH iTake iCubes iInside) ⟨[.cell k, .pub (.int c), .pub (.int (w : Nat)), .non, .non, .non, .non, .non, .non, .non, .non, .non, .non], cs⟩) := by
  obtain ⟨zs, rt, e0, hrt, hz⟩ := cubes_ok hC (n + 1) c hc6 cs
  obtain ⟨b, ep⟩ : ∃ b : Bool, exT whileL P (runF P (n + 2)) (.par [3, 12] [.con (.int 0), .call iCubes [.loc 1]]) ⟨[.cell k, .pub (.int c), .pub (.int (w : Nat)), .non, .non, .non, .non, .non, .non, .non, .non, .non, .non], cs⟩ = .ok .nx ⟨[.cell k, .pub (.int c), .pub (.int (w : Nat)), .pub (.int 0), .non, .non, .non, .non, .non, .non, .non, .non, x12 b zs], cs⟩ := by
    rcases hrt with rfl | rfl
    · exact ⟨true, by simp -implicitDefEqProofs [locV, callU, agsOf, agOf, e0, parGo, tgR, tgD, x12]⟩
    · exact ⟨false, by simp -implicitDefEqProofs [locV, callU, agsOf, agOf, e0, parGo, tgR, tgD, x12]⟩
  obtain ⟨r, cs1, e1, hr, c1⟩ := take_ok hTake (n + 1) k j L 4 cs hc (by omega) (by decide) (by decide)
  rw [show ((4 : Nat) : Int) = 4 from rfl] at e1
  have eadd : (1 : Int) + (r : Int) = ((1 + r : Nat) : Int) := by omega
  have key := for_range (P := P) (run := runF P (n + 2)) (lp := whileL) (i := 6) (e := .bin .Add (.con (.int 1)) (.call iTake [.loc 0, .con (.int 4)])) (b := dHloop iTake iInside)
    (s0 := ⟨[.cell k, .pub (.int c), .pub (.int (w : Nat)), .pub (.int 0), .non, .non, .non, .non, .non, .non, .non, .non, x12 b zs], cs⟩) (s := ⟨[.cell k, .pub (.int c), .pub (.int (w : Nat)), .pub (.int 0), .non, .non, .non, .non, .non, .non, .non, .non, x12 b zs], cs1⟩) (c := 1 + r)
    (fun m u => ∃ (f : Nat) (x4 x6 : Sl) (cs' : List (List D)), u = ⟨[.cell k, .pub (.int c), .pub (.int (w : Nat)), .pub (.int (f : Nat)), x4, .non, x6, .non, .non, .non, .non, .non, x12 b zs], cs'⟩ ∧ f < TB c ∧ Cl k (j + 1 + m) L cs') (by omega) (by simp -implicitDefEqProofs [locV, callU, agsOf, agOf, e1, eadd, -Int.natCast_add]) ⟨0, _, _, cs1, rfl, Nat.two_pow_pos _, c1⟩ ?_
  · obtain ⟨s', e, f, x4, x6, cs', rfl, hf, hcl⟩ := key
    exact ⟨f, _, cs', by unfold dH; rw [s_cons, ep, bind_ok, k_nx, s_cons, e, bind_ok, k_nx]; simp -implicitDefEqProofs [locV]; rfl, hf, 1 + (1 + r), by omega, by rw [show j + (1 + (1 + r)) = j + 1 + (1 + r) by omega]; exact hcl⟩
  · rintro m u hm ⟨f, x4, x6, cs', rfl, hf, hcl⟩
    obtain ⟨f', x4', cs2, e, hf', c2⟩ := drawnH1 hTake hI n k (j + 1 + m) L c hc6 w f x4 (.pub (.int (m : Nat))) b zs hz hf cs' hcl (by omega)
    exact ⟨_, .inl e, f', x4', _, cs2, rfl, hf', c2⟩
/-! ### _law_drawn -/
structure DrawnH (P : Prog) (iTake iMixed iClosedUp iByWeights iWeight iByTerms iByParts iCubes iInside iFull iDrawn : Nat) : Prop where
  take : P.fn iTake = some dTake
  mixed : P.fn iMixed = some (dMixed iTake)
  closed : P.fn iClosedUp = some dClosedUp
  byw : P.fn iByWeights = some dByWeights
  weight : P.fn iWeight = some dWeight
  byt : P.fn iByTerms = some dByTerms
  full : P.fn iFull = some dFull
  byp : P.fn iByParts = some (dByParts iTake iFull)
  cubes : P.fn iCubes = some dCubes
  inside : P.fn iInside = some dInside
  drawn : P.fn iDrawn = some (dDrawn iTake iMixed iClosedUp iByWeights iWeight iByTerms iByParts iCubes iInside)
theorem drawn_ok {iTake iMixed iClosedUp iByWeights iWeight iByTerms iByParts iCubes iInside iFull iDrawn : Nat} (h : DrawnH P iTake iMixed iClosedUp iByWeights iWeight iByTerms iByParts iCubes iInside iFull iDrawn) (n k j L c : Nat) (hc6 : c ≤ 6) (cs : List (List D)) (hc : Cl k j L cs) (hj : j < 2 ^ 27) :
    ∃ (f : Nat) (cs' : List (List D)), runF P (n + 3) iDrawn [.cell k, .d (.int c)] cs = .ok (.d (.int (f : Nat))) cs' ∧ f < TB c ∧ ∃ j', j' ≤ 101 ∧ Cl k (j + j') L cs' := by
  obtain ⟨w, cs1, e1, hw, c1⟩ := take_ok h.take (n + 1) k j L 10 cs hc (by omega) (by decide) (by decide)
  rw [show ((10 : Nat) : Int) = 10 from rfl] at e1
  have fin : ∀ o : Out Fl, RetT c k (j + 1) L 100 o → (∀ f env cs2, o = .ok (.ret (.d (.int (f : Nat)))) ⟨env, cs2⟩ → runF P (n + 3) iDrawn [.cell k, .d (.int c)] cs = .ok (.d (.int (f : Nat))) (cs2.take cs.length)) → ∃ (f : Nat) (cs' : List (List D)), runF P (n + 3) iDrawn [.cell k, .d (.int c)] cs = .ok (.d (.int (f : Nat))) cs' ∧ f < TB c ∧ ∃ j', j' ≤ 101 ∧ Cl k (j + j') L cs' := by
    rintro o ⟨f, env, cs2, e, hf, j', hj', hcl⟩ run
    have hl2 : cs2.take cs.length = cs2 := List.take_of_length_le (by rw [hcl.1, hc.1]; exact Nat.le_refl _)
    have := run f env cs2 e
    rw [hl2] at this
    exact ⟨f, cs2, this, hf, 1 + j', by omega, by rw [show j + (1 + j') = j + 1 + j' by omega]; exact hcl⟩
  have hw' : w = 0 ∨ w = 1 ∨ w = 2 ∨ w = 3 ∨ w = 4 ∨ w = 5 ∨ w = 6 ∨ w = 7 ∨ w = 8 ∨ w = 9 := by omega
  have e0 : exT whileL P (runF P (n + 2)) (.asg (.nm 2) (.call iTake [.loc 0, .con (.int 10)])) ⟨[.cell k, .pub (.int c), .non, .non, .non, .non, .non, .non, .non, .non, .non, .non, .non], cs⟩ = .ok .nx ⟨[.cell k, .pub (.int c), .pub (.int (w : Nat)), .non, .non, .non, .non, .non, .non, .non, .non, .non, .non], cs1⟩ := by
    simp -implicitDefEqProofs [locV, callU, agsOf, agOf, e1]
  have run : ∀ f env cs2, exTs whileL P (runF P (n + 2)) (dDrawn iTake iMixed iClosedUp iByWeights iWeight iByTerms iByParts iCubes iInside).body ⟨[.cell k, .pub (.int c), .non, .non, .non, .non, .non, .non, .non, .non, .non, .non, .non], cs⟩ = .ok (.ret (.d (.int (f : Nat)))) ⟨env, cs2⟩ → runF P (n + 3) iDrawn [.cell k, .d (.int c)] cs = .ok (.d (.int (f : Nat))) (cs2.take cs.length) := by
    intro f env cs2 e
    rw [runF_succ P (n + 2) iDrawn [.cell k, .d (.int c)] cs _ h.drawn rfl]
    unfold bodyR
    rw [show (⟨([.cell k, .d (.int c)] : List Ag).map agSl ++ List.replicate ((dDrawn iTake iMixed iClosedUp iByWeights iWeight iByTerms iByParts iCubes iInside).nv - (dDrawn iTake iMixed iClosedUp iByWeights iWeight iByTerms iByParts iCubes iInside).np) .non, cs⟩ : S) = ⟨[.cell k, .pub (.int c), .non, .non, .non, .non, .non, .non, .non, .non, .non, .non, .non], cs⟩ from rfl, e]
    rfl
  rcases hw' with rfl | rfl | rfl | rfl | rfl | rfl | rfl | rfl | rfl | rfl
  · refine fin _ (drawnA h.take n k (j + 1) L c hc6 0 cs1 c1 (by omega)) fun f env cs2 e => run f env cs2 ?_
    unfold dDrawn
    rw [ss_step e0]
    exact ite_take (by simp -implicitDefEqProofs [locV, eqOp]) e
  · refine fin _ (drawnA h.take n k (j + 1) L c hc6 1 cs1 c1 (by omega)) fun f env cs2 e => run f env cs2 ?_
    unfold dDrawn
    rw [ss_step e0]
    exact ite_take (by simp -implicitDefEqProofs [locV, eqOp]) e
  · refine fin _ (drawnB h.take h.mixed n k (j + 1) L c hc6 2 cs1 c1 (by omega)) fun f env cs2 e => run f env cs2 ?_
    unfold dDrawn
    rw [ss_step e0, ite_skip (by simp -implicitDefEqProofs [locV, eqOp])]
    exact ite_take (by simp -implicitDefEqProofs [locV, eqOp]) e
  · refine fin _ (drawnC h.take h.closed n k (j + 1) L c hc6 3 cs1 c1 (by omega)) fun f env cs2 e => run f env cs2 ?_
    unfold dDrawn
    rw [ss_step e0, ite_skip (by simp -implicitDefEqProofs [locV, eqOp]), ite_skip (by simp -implicitDefEqProofs [locV, eqOp])]
    exact ite_take (by simp -implicitDefEqProofs [locV, eqOp]) e
  · refine fin _ (drawnC h.take h.closed n k (j + 1) L c hc6 4 cs1 c1 (by omega)) fun f env cs2 e => run f env cs2 ?_
    unfold dDrawn
    rw [ss_step e0, ite_skip (by simp -implicitDefEqProofs [locV, eqOp]), ite_skip (by simp -implicitDefEqProofs [locV, eqOp])]
    exact ite_take (by simp -implicitDefEqProofs [locV, eqOp]) e
  · refine fin _ (drawnD h.take h.byw n k (j + 1) L c hc6 5 cs1 c1 (by omega)) fun f env cs2 e => run f env cs2 ?_
    unfold dDrawn
    rw [ss_step e0, ite_skip (by simp -implicitDefEqProofs [locV, eqOp]), ite_skip (by simp -implicitDefEqProofs [locV, eqOp]), ite_skip (by simp -implicitDefEqProofs [locV, eqOp])]
    exact ite_take (by simp -implicitDefEqProofs [locV, eqOp]) e
  · refine fin _ (drawnE h.take h.weight h.byt n k (j + 1) L c hc6 6 cs1 c1 (by omega)) fun f env cs2 e => run f env cs2 ?_
    unfold dDrawn
    rw [ss_step e0, ite_skip (by simp -implicitDefEqProofs [locV, eqOp]), ite_skip (by simp -implicitDefEqProofs [locV, eqOp]), ite_skip (by simp -implicitDefEqProofs [locV, eqOp]), ite_skip (by simp -implicitDefEqProofs [locV, eqOp])]
    exact ite_take (by simp -implicitDefEqProofs [locV, eqOp]) e
  · refine fin _ (drawnF h.take h.full h.byp n k (j + 1) L c hc6 7 cs1 c1 (by omega)) fun f env cs2 e => run f env cs2 ?_
    unfold dDrawn
    rw [ss_step e0, ite_skip (by simp -implicitDefEqProofs [locV, eqOp]), ite_skip (by simp -implicitDefEqProofs [locV, eqOp]), ite_skip (by simp -implicitDefEqProofs [locV, eqOp]), ite_skip (by simp -implicitDefEqProofs [locV, eqOp]), ite_skip (by simp -implicitDefEqProofs [locV, eqOp])]
    exact ite_take (by simp -implicitDefEqProofs [locV, eqOp]) e
  · refine fin _ (drawnG h.take h.weight n k (j + 1) L c hc6 8 cs1 c1 (by omega)) fun f env cs2 e => run f env cs2 ?_
    unfold dDrawn
    rw [ss_step e0, ite_skip (by simp -implicitDefEqProofs [locV, eqOp]), ite_skip (by simp -implicitDefEqProofs [locV, eqOp]), ite_skip (by simp -implicitDefEqProofs [locV, eqOp]), ite_skip (by simp -implicitDefEqProofs [locV, eqOp]), ite_skip (by simp -implicitDefEqProofs [locV, eqOp]), ite_skip (by simp -implicitDefEqProofs [locV, eqOp])]
    exact ite_take (by simp -implicitDefEqProofs [locV, eqOp]) e
  · refine fin _ (drawnH h.take h.cubes h.inside n k (j + 1) L c hc6 9 cs1 c1 (by omega)) fun f env cs2 e => run f env cs2 ?_
    unfold dDrawn
    rw [ss_step e0, ite_skip (by simp -implicitDefEqProofs [locV, eqOp]), ite_skip (by simp -implicitDefEqProofs [locV, eqOp]), ite_skip (by simp -implicitDefEqProofs [locV, eqOp]), ite_skip (by simp -implicitDefEqProofs [locV, eqOp]), ite_skip (by simp -implicitDefEqProofs [locV, eqOp]), ite_skip (by simp -implicitDefEqProofs [locV, eqOp]), ite_skip (by simp -implicitDefEqProofs [locV, eqOp])]
    exact e
end KL
end SKLI
section SKLJ
set_option autoImplicit false
set_option linter.all false
set_option maxRecDepth 100000
set_option maxHeartbeats 4000000
open Py
open PySem (CmpOp Operator UnaryOp)
namespace KL
variable {P : Prog}
/-! ### sets of numbers as sums of powers -/
theorem lt64 {c p : Nat} (hc : c ≤ 6) (hp : p < 2 ^ c) : p < 64 := Nat.lt_of_lt_of_le hp (Nat.pow_le_pow_right (n := 2) (by decide) hc)
theorem or_split : ∀ (n a b : Nat), a < 2 ^ n → b < 2 ^ n → a ||| b = (a ^^^ b) + (a &&& b)
  | 0, a, b, ha, hb => by
    have : a = 0 := by simpa using ha
    have : b = 0 := by simpa using hb
    subst_vars; rfl
  | n + 1, a, b, ha, hb => by
    have ih := or_split n (a / 2) (b / 2) (by rw [Nat.pow_succ] at ha; omega) (by rw [Nat.pow_succ] at hb; omega)
    have h1 : (a ||| b) / 2 = a / 2 ||| b / 2 := Nat.or_div_two
    have h2 : (a ^^^ b) / 2 = a / 2 ^^^ b / 2 := Nat.xor_div_two
    have h3 : (a &&& b) / 2 = a / 2 &&& b / 2 := Nat.and_div_two
    have m1 : (a ||| b) % 2 = (a ^^^ b) % 2 + (a &&& b) % 2 := by
      have e : ∀ x : Nat, x % 2 = (x.testBit 0).toNat := fun x => by
        rw [Nat.testBit_zero]
        have : x % 2 < 2 := Nat.mod_lt _ (by decide)
        by_cases h : x % 2 = 1
        · simp [h]
        · have : x % 2 = 0 := by omega
          simp [this]
      rw [e, e, e, Nat.testBit_or, Nat.testBit_xor, Nat.testBit_and]
      cases a.testBit 0 <;> cases b.testBit 0 <;> rfl
    omega
theorem xr_all (a b : Nat) : xr a b = a ^^^ b := by
  obtain ⟨n, ha, hb⟩ : ∃ n, a < 2 ^ n ∧ b < 2 ^ n := ⟨a + b, Nat.lt_of_lt_of_le Nat.lt_two_pow_self (Nat.pow_le_pow_right (by decide) (Nat.le_add_right _ _)), Nat.lt_of_lt_of_le Nat.lt_two_pow_self (Nat.pow_le_pow_right (by decide) (Nat.le_add_left _ _))⟩
  unfold xr
  rw [or_split n a b ha hb]
  omega
theorem xr_eq {a b : Nat} (ha : a < 64) (hb : b < 64) : xr a b = a ^^^ b := xr_all a b
theorem p2_bit (i j : Nat) : (p2 i).testBit j = decide (i = j) := by unfold p2; rw [Nat.testBit_two_pow]
theorem sum_bit_d : ∀ {l : List Nat}, l.Pairwise (· > ·) → ∀ i, ((l.map p2).sum).testBit i = decide (i ∈ l)
  | [], _, i => by simp
  | x :: r, h, i => by
    obtain ⟨h1, h2⟩ := List.pairwise_cons.mp h
    have ih := sum_bit_d h2 i
    have hs := desc_sum r x h2 fun p hp => h1 p hp
    rw [List.map_cons, List.sum_cons]
    show (2 ^ x + (r.map p2).sum).testBit i = _
    rcases Nat.lt_trichotomy i x with hi | hi | hi
    · rw [Nat.testBit_two_pow_add_gt hi, ih]
      have : i ≠ x := by omega
      simp [this]
    · subst hi
      rw [Nat.testBit_two_pow_add_eq, ih]
      have : i ∉ r := fun m => by have := h1 i m; omega
      simp [this]
    · have hlt : 2 ^ x + (r.map p2).sum < 2 ^ i := Nat.lt_of_lt_of_le (by rw [Nat.pow_succ]; omega) (Nat.pow_le_pow_right (n := 2) (by decide) (show x + 1 ≤ i from hi))
      rw [Nat.testBit_lt_two_pow hlt]
      have : i ≠ x := by omega
      have : i ∉ r := fun m => by have := h1 i m; omega
      simp [*]
theorem sum_bit {l : List Nat} (h : l.Pairwise (· < ·)) (i : Nat) : ((l.map p2).sum).testBit i = decide (i ∈ l) := by
  have := sum_bit_d (l := l.reverse) (List.pairwise_reverse.mpr h) i
  rw [List.map_reverse, List.sum_reverse] at this
  rw [this]
  simp
end KL
end SKLJ
section SK19A
set_option autoImplicit false
set_option linter.all false
set_option maxRecDepth 100000
set_option maxHeartbeats 4000000
open Py
open PySem (CmpOp Operator UnaryOp)
namespace K19
open KL
/-! ### the points of a change -/
def stp (t v b p : Nat) : Bool := (m2 (sr p v) == 0) && ((m2 (sr t p) == b) && !(m2 (sr t (p ||| p2 v)) == b))
def steps (c t v b : Nat) : List Nat := (List.range (p2 c)).filter (stp t v b)
abbrev F (c t : Nat) : D := fnD 4 0 1 c t
theorem castEq (a b : Nat) : (((a : Nat) : Int) == ((b : Nat) : Int)) = (a == b) := by
  rw [Bool.eq_iff_iff]; simp; omega
theorem castEq0 (a : Nat) : (((a : Nat) : Int) == 0) = (a == 0) := castEq a 0
theorem lk0 (a b : D) : ([(0, a), (1, b)] : List (Nat × D)).lookup 0 = some a := rfl
theorem lk1 (a b : D) : ([(0, a), (1, b)] : List (Nat × D)).lookup 1 = some b := rfl
def firstD (l : List Nat) : D := match l with
  | [] => .non
  | p :: _ => .int (p : Nat)
theorem first_ok (n c t v b : Nat) (hc : c ≤ 6) (hv : v < c) (cs : List (List D)) :
    runF P (n + 1) 14 [.d (F c t), .d (.int v), .d (.int b)] cs = .ok (.d (firstD (steps c t v b))) cs := by
  have h1 := p2_le6 hc
  have h2 : c ≤ 100000 := by omega
  have h3 : v ≤ 100000 := by omega
  have key := for_find (P := P) (run := runF P n) (lp := whileL) (i := 3) (e := .bin .LShift (.con (.int 1)) (.fld (.loc 0) 0)) (b := [.ite (.and (.cmp .Eq (.bin .BitAnd (.bin .RShift (.loc 3) (.loc 1)) (.con (.int 1))) (.con (.int 0))) (.cmp .Eq (.bin .BitAnd (.bin .RShift (.fld (.loc 0) 1) (.loc 3)) (.con (.int 1))) (.loc 2))) [.ite (.cmp .NotEq (.bin .BitAnd (.bin .RShift (.fld (.loc 0) 1) (.bin .BitOr (.loc 3) (.bin .LShift (.con (.int 1)) (.loc 1)))) (.con (.int 1))) (.loc 2)) [.ret (some (.loc 3))] []] []])
    (s0 := ⟨[.pub (F c t), .pub (.int v), .pub (.int b), .non], cs⟩) (s := ⟨[.pub (F c t), .pub (.int v), .pub (.int b), .non], cs⟩) (c := p2 c)
    (fun u => ∃ x3, u = ⟨[.pub (F c t), .pub (.int v), .pub (.int b), x3], cs⟩) (stp t v b) (fun m => .d (.int (m : Nat))) (by omega) (by simp -implicitDefEqProofs [locV, F, fnD, lk0, lk1, -bo_shl, -bo_shr, -bo_and, -bo_or, -bo_xor, nShl1, nShl, nShr, nAnd, nAnd1, nOr, nXor, isOwnL, onI, h2]) ⟨_, rfl⟩ ?_ ?_
  · have key : (∃ m s', (steps c t v b).head? = some m ∧ _ ∧ _) ∨ (steps c t v b = [] ∧ _) := key
    rw [runF_succ P n 14 _ cs f14 rfl rfl]
    unfold bodyR f14
    rcases key with ⟨m, s', hh, e, x3, rfl⟩ | ⟨hh, s', e, x3, rfl⟩
    · have : firstD (steps c t v b) = .int (m : Nat) := by
        cases hs : steps c t v b with
        | nil => rw [hs] at hh; cases hh
        | cons p r => rw [hs] at hh; cases hh; rfl
      rw [this]
      simp -implicitDefEqProofs [agSl, isNew, rtOf, e]
    · rw [hh]
      simp -implicitDefEqProofs [agSl, isNew, rtOf, e, firstD]
  · rintro m u hm ⟨x3, rfl⟩ hp
    refine ⟨⟨[.pub (F c t), .pub (.int v), .pub (.int b), .pub (.int (m : Nat))], cs⟩, .inl ?_, _, rfl⟩
    unfold stp at hp
    cases a1 : m2 (sr m v) == 0 with
    | false => simp -implicitDefEqProofs [locV, F, fnD, lk0, lk1, -bo_shl, -bo_shr, -bo_and, -bo_or, -bo_xor, nShl1, nShl, nShr, nAnd, nAnd1, nOr, nXor, isOwnL, onI, eqOp, castEq, castEq0, a1]
    | true =>
      rw [a1, Bool.true_and] at hp
      cases a2 : m2 (sr t m) == b with
      | false => simp -implicitDefEqProofs [locV, F, fnD, lk0, lk1, -bo_shl, -bo_shr, -bo_and, -bo_or, -bo_xor, nShl1, nShl, nShr, nAnd, nAnd1, nOr, nXor, isOwnL, onI, eqOp, castEq, castEq0, a1, a2]
      | true =>
        rw [a2, Bool.true_and] at hp
        have a3 : (m2 (sr t (m ||| p2 v)) == b) = true := by simpa using hp
        simp -implicitDefEqProofs [locV, F, fnD, lk0, lk1, -bo_shl, -bo_shr, -bo_and, -bo_or, -bo_xor, nShl1, nShl, nShr, nAnd, nAnd1, nOr, nXor, isOwnL, onI, eqOp, castEq, castEq0, a1, a2, a3, h3]
  · rintro m u hm ⟨x3, rfl⟩ hp
    refine ⟨⟨[.pub (F c t), .pub (.int v), .pub (.int b), .pub (.int (m : Nat))], cs⟩, ?_, _, rfl⟩
    unfold stp at hp
    rw [Bool.and_eq_true, Bool.and_eq_true] at hp
    obtain ⟨a1, a2, a3⟩ := hp
    have a3 : (m2 (sr t (m ||| p2 v)) == b) = false := by simpa using a3
    simp -implicitDefEqProofs [locV, F, fnD, lk0, lk1, -bo_shl, -bo_shr, -bo_and, -bo_or, -bo_xor, nShl1, nShl, nShr, nAnd, nAnd1, nOr, nXor, isOwnL, onI, eqOp, castEq, castEq0, a1, a2, a3, h3]
theorem steps_ok (n c t v b : Nat) (hc : c ≤ 6) (hv : v < c) (cs : List (List D)) :
    runF P (n + 1) 38 [.d (.int c), .d (.int t), .d (.int v), .d (.int b)] cs = .ok (.own (nLst (steps c t v b))) cs := by
  have h1 := p2_le6 hc
  have h2 : c ≤ 100000 := by omega
  have h3 : v ≤ 100000 := by omega
  have key := for_range (P := P) (run := runF P n) (lp := whileL) (i := 5) (e := .bin .LShift (.con (.int 1)) (.loc 0)) (b := [.ite (.and (.cmp .Eq (.bin .BitAnd (.bin .RShift (.loc 5) (.loc 2)) (.con (.int 1))) (.con (.int 0))) (.and (.cmp .Eq (.bin .BitAnd (.bin .RShift (.loc 1) (.loc 5)) (.con (.int 1))) (.loc 3)) (.cmp .NotEq (.bin .BitAnd (.bin .RShift (.loc 1) (.bin .BitOr (.loc 5) (.bin .LShift (.con (.int 1)) (.loc 2)))) (.con (.int 1))) (.loc 3)))) [.app 4 (.loc 5)] []])
    (s0 := ⟨[.pub (.int c), .pub (.int t), .pub (.int v), .pub (.int b), .own (.lst []), .non], cs⟩) (s := ⟨[.pub (.int c), .pub (.int t), .pub (.int v), .pub (.int b), .own (.lst []), .non], cs⟩) (c := p2 c)
    (fun m u => ∃ x5, u = ⟨[.pub (.int c), .pub (.int t), .pub (.int v), .pub (.int b), .own (nLst ((List.range m).filter (stp t v b))), x5], cs⟩) (by omega) (by simp -implicitDefEqProofs [locV, -bo_shl, -bo_shr, -bo_and, -bo_or, -bo_xor, nShl1, nShl, nShr, nAnd, nAnd1, nOr, nXor, isOwnL, onI, h2]) ⟨_, rfl⟩ ?_
  · obtain ⟨s', e, x5, rfl⟩ := key
    rw [runF_succ P n 38 _ cs f38 rfl rfl]
    unfold bodyR f38
    simp -implicitDefEqProofs [agSl, isNew, rtOf, e, locV]
    rfl
  · rintro m u hm ⟨x5, rfl⟩
    have hlen : ((List.range m).filter (stp t v b)).length < 100000 := by
      have := List.length_filter_le (stp t v b) (List.range m)
      rw [List.length_range] at this
      omega
    have ext : (List.range (m + 1)).filter (stp t v b) = (List.range m).filter (stp t v b) ++ (if stp t v b m then [m] else []) := by
      rw [List.range_succ, List.filter_append]
      cases h : stp t v b m <;> simp [List.filter_cons, h]
    refine ⟨⟨[.pub (.int c), .pub (.int t), .pub (.int v), .pub (.int b), .own (nLst ((List.range (m + 1)).filter (stp t v b))), .pub (.int (m : Nat))], cs⟩, .inl ?_, _, rfl⟩
    rw [ext]
    unfold stp
    unfold stp at hlen
    cases a1 : m2 (sr m v) == 0 with
    | false => simp -implicitDefEqProofs [locV, -bo_shl, -bo_shr, -bo_and, -bo_or, -bo_xor, nShl1, nShl, nShr, nAnd, nAnd1, nOr, nXor, isOwnL, onI, eqOp, castEq, castEq0, a1]
    | true =>
      cases a2 : m2 (sr t m) == b with
      | false => simp -implicitDefEqProofs [locV, -bo_shl, -bo_shr, -bo_and, -bo_or, -bo_xor, nShl1, nShl, nShr, nAnd, nAnd1, nOr, nXor, isOwnL, onI, eqOp, castEq, castEq0, a1, a2]
      | true =>
        cases a3 : m2 (sr t (m ||| p2 v)) == b with
        | true => simp -implicitDefEqProofs [locV, -bo_shl, -bo_shr, -bo_and, -bo_or, -bo_xor, nShl1, nShl, nShr, nAnd, nAnd1, nOr, nXor, isOwnL, onI, eqOp, castEq, castEq0, a1, a2, a3, h3]
        | false => simp -implicitDefEqProofs [locV, -bo_shl, -bo_shr, -bo_and, -bo_or, -bo_xor, nShl1, nShl, nShr, nAnd, nAnd1, nOr, nXor, isOwnL, onI, eqOp, castEq, castEq0, a1, a2, a3, h3, nLst, hlen]
end K19
end SK19A
section SK19B
set_option autoImplicit false
set_option linter.all false
set_option maxRecDepth 100000
set_option maxHeartbeats 4000000
open Py
open PySem (CmpOp Operator UnaryOp)
namespace K19
open KL
/-! ### mixed_variable, monotone_flips -/
def has (c t v b : Nat) : Bool := !(steps c t v b).isEmpty
def mixP (c t v : Nat) : Bool := has c t v 0 && has c t v 1
def mixL (c t : Nat) : List Nat := (List.range c).filter (mixP c t)
def dueL (c t : Nat) : List Nat := (List.range c).filter fun v => has c t v 1
def mixD (c t : Nat) : D := match mixL c t with
  | [] => .non
  | v :: _ => .tup [.int (v : Nat), firstD (steps c t v 0), firstD (steps c t v 1)]
theorem noRef_first (n : Nat) (l : List Nat) : noRef n (firstD l) = true := by cases l <;> simp [firstD]
theorem mixed_ok (n c t : Nat) (hc : c ≤ 6) (cs : List (List D)) : runF P (n + 2) 16 [.d (F c t)] cs = .ok (.d (mixD c t)) cs := by
  have key := for_find (P := P) (run := runF P (n + 1)) (lp := whileL) (i := 1) (e := .fld (.loc 0) 0) (b := [.par [2, 3] [.call 14 [.loc 0, .loc 1, .con (.int 0)], .call 14 [.loc 0, .loc 1, .con (.int 1)]], .ite (.and (.isN true (.loc 2)) (.isN true (.loc 3))) [.ret (some (.tup [.loc 1, .loc 2, .loc 3]))] []])
    (s0 := ⟨[.pub (F c t), .non, .non, .non], cs⟩) (s := ⟨[.pub (F c t), .non, .non, .non], cs⟩) (c := c)
    (fun u => ∃ x1 x2 x3, u = ⟨[.pub (F c t), x1, x2, x3], cs⟩) (mixP c t) (fun v => .d (.tup [.int (v : Nat), firstD (steps c t v 0), firstD (steps c t v 1)])) (by omega) (by simp -implicitDefEqProofs [locV, F, fnD, lk0]) ⟨_, _, _, rfl⟩ ?_ ?_
  · have key : (∃ m s', (mixL c t).head? = some m ∧ _ ∧ _) ∨ (mixL c t = [] ∧ _) := key
    rw [runF_succ P (n + 1) 16 _ cs f16 rfl rfl]
    unfold bodyR f16
    rcases key with ⟨m, s', hh, e, x1, x2, x3, rfl⟩ | ⟨hh, s', e, x1, x2, x3, rfl⟩
    · have : mixD c t = .tup [.int (m : Nat), firstD (steps c t m 0), firstD (steps c t m 1)] := by
        unfold mixD
        cases hs : mixL c t with
        | nil => rw [hs] at hh; cases hh
        | cons p r => rw [hs] at hh; cases hh; rfl
      rw [this]
      simp -implicitDefEqProofs [agSl, isNew, rtOf, e]
    · have : mixD c t = .non := by unfold mixD; rw [hh]
      rw [this]
      simp -implicitDefEqProofs [agSl, isNew, rtOf, e]
  · rintro v u hv ⟨x1, x2, x3, rfl⟩ hp
    have e0 := first_ok n c t v 0 hc hv cs
    have e1 := first_ok n c t v 1 hc hv cs
    rw [show ((0 : Nat) : Int) = 0 from rfl] at e0
    rw [show ((1 : Nat) : Int) = 1 from rfl] at e1
    refine ⟨⟨[.pub (F c t), .pub (.int (v : Nat)), .pub (firstD (steps c t v 0)), .pub (firstD (steps c t v 1))], cs⟩, .inl ?_, _, _, _, rfl⟩
    unfold mixP has at hp
    generalize steps c t v 0 = l0 at *
    generalize steps c t v 1 = l1 at *
    generalize F c t = f at *
    cases l0 with
    | nil =>
      unfold firstD at e0
      simp -implicitDefEqProofs [locV, callU, agsOf, agOf, e0, e1, parGo, tgR, tgD, firstD, noRef_first]
    | cons p r =>
      cases l1 with
      | nil =>
        unfold firstD at e0 e1
        simp -implicitDefEqProofs [locV, callU, agsOf, agOf, e0, e1, parGo, tgR, tgD, firstD]
      | cons p' r' => cases hp
  · rintro v u hv ⟨x1, x2, x3, rfl⟩ hp
    have e0 := first_ok n c t v 0 hc hv cs
    have e1 := first_ok n c t v 1 hc hv cs
    rw [show ((0 : Nat) : Int) = 0 from rfl] at e0
    rw [show ((1 : Nat) : Int) = 1 from rfl] at e1
    refine ⟨⟨[.pub (F c t), .pub (.int (v : Nat)), .pub (firstD (steps c t v 0)), .pub (firstD (steps c t v 1))], cs⟩, ?_, _, _, _, rfl⟩
    unfold mixP has at hp
    generalize steps c t v 0 = l0 at *
    generalize steps c t v 1 = l1 at *
    generalize F c t = f at *
    cases l0 with
    | nil => cases hp
    | cons p r =>
      cases l1 with
      | nil => cases hp
      | cons p' r' =>
        unfold firstD at e0 e1
        simp -implicitDefEqProofs [locV, callU, agsOf, agOf, e0, e1, parGo, tgR, tgD, firstD, esc]
theorem mixD_non (c t : Nat) : (match mixD c t with
    | .non => true
    | _ => false) = (mixL c t).isEmpty := by
  unfold mixD
  cases mixL c t <;> rfl
theorem flips_ok (n c t : Nat) (hc : c ≤ 6) (cs : List (List D)) : runF P (n + 3) 15 [.d (F c t)] cs = .ok (.d (if (mixL c t).isEmpty then .tup ((dueL c t).map fun (v : Nat) => D.int v) else .non)) cs := by
  have e := mixed_ok n c t hc cs
  have elc := lcR (P := P) (run := runF P (n + 2)) (i := 1) (elt := .loc 1) (it := .range [.fld (.loc 0) 0]) (ifs := [.isN true (.call 14 [.loc 0, .loc 1, .con (.int 1)])]) (s := ⟨[.pub (F c t), .non], cs⟩) c (fun v => if has c t v 1 = true then some (.int (v : Nat)) else none)
    (by simp -implicitDefEqProofs [agSl, locV, rd_brw, ixOp, atI, ixN, rtOf, isNew, callU, agsOf, agOf, kPl, place, lcB, itD, itemsOf, brwOf, toI, enI, ziI, isTy, eqOp, F, fnD, lk0, Py.rangeN c (by omega)]) (.inl rfl) (by omega) (fun v hv => by
      have e1 := first_ok (n + 1) c t v 1 hc hv cs
      rw [show ((1 : Nat) : Int) = 1 from rfl] at e1
      unfold has
      generalize steps c t v 1 = l1 at *
      generalize F c t = f at *
      cases l1 with
      | nil =>
        unfold firstD at e1
        simp -implicitDefEqProofs [lcB, locV, callU, agsOf, agOf, e1]
      | cons p r =>
        unfold firstD at e1
        simp -implicitDefEqProofs [lcB, locV, callU, agsOf, agOf, e1])
  rw [fmIf] at elc
  rw [runF_succ P (n + 2) 15 _ cs f15 rfl rfl]
  unfold bodyR f15
  unfold mixD at e
  cases hm : mixL c t with
  | nil =>
    rw [hm] at e
    unfold dueL
    generalize F c t = f at *
    simp -implicitDefEqProofs [agSl, isNew, rtOf, locV, callU, agsOf, agOf, e, elc]
  | cons v r =>
    rw [hm] at e
    generalize F c t = f at *
    simp -implicitDefEqProofs [agSl, isNew, rtOf, locV, callU, agsOf, agOf, e]
end K19
end SK19B
section SK19C
set_option autoImplicit false
set_option linter.all false
set_option maxRecDepth 100000
set_option maxHeartbeats 4000000
open Py
open PySem (CmpOp Operator UnaryOp)
namespace K19
open KL
theorem hTake : P.fn 19 = some dTake := rfl
theorem hDrawn : DrawnH P 19 24 27 28 23 29 30 25 26 21 31 := ⟨rfl, rfl, rfl, rfl, rfl, rfl, rfl, rfl, rfl, rfl, rfl⟩
/-! ### _law_size -/
theorem size_ok (n k j L : Nat) (cs : List (List D)) (hc : Cl k j L cs) (hj : j < 2 ^ 26) : ∃ (c : Nat) (cs' : List (List D)), runF P (n + 2) 32 [.cell k] cs = .ok (.d (.int c)) cs' ∧ c ≤ 6 ∧ Cl k (j + 2) L cs' := by
  obtain ⟨q, cs1, e1, hq, c1⟩ := take_ok hTake n k j L 2 cs hc (by omega) (by decide) (by decide)
  obtain ⟨r, cs2, e2, hr, c2⟩ := take_ok hTake n k (j + 1) L 8 cs1 c1 (by omega) (by decide) (by decide)
  have hl : cs2.take cs.length = cs2 := List.take_of_length_le (by rw [c2.1, hc.1]; exact Nat.le_refl _)
  obtain ⟨c, hc6, ec⟩ := tab_ok [3, 4, 2, 3, 4, 1, 0, 5 + q] 6 (by
    intro x hx
    simp only [List.mem_cons, List.not_mem_nil, or_false] at hx
    omega) r hr
  refine ⟨c, cs2, ?_, hc6, c2⟩
  have ec : ixOp (.lst [.int 3, .int 4, .int 2, .int 3, .int 4, .int 1, .int 0, .int ((5 + q : Nat) : Int)]) (.int (r : Int)) = some (.int c) := ec
  rw [show ((2 : Nat) : Int) = 2 from rfl] at e1
  rw [show ((8 : Nat) : Int) = 8 from rfl] at e2
  have eadd : (5 : Int) + (q : Int) = ((5 + q : Nat) : Int) := by omega
  rw [runF_succ P (n + 1) 32 _ cs f32 rfl rfl]
  unfold bodyR f32
  simp -implicitDefEqProofs [agSl, locV, callU, agsOf, agOf, rtOf, isNew, e1, e2, eadd, -Int.natCast_add, hl, ec]
/-! ### _law_monotone -/
theorem mono_ok (n k j L c : Nat) (hc6 : c ≤ 6) (cs : List (List D)) (hc : Cl k j L cs) (hj : j < 2 ^ 26) :
    ∃ (f : Nat) (cs' : List (List D)), runF P (n + 2) 34 [.cell k, .d (.int c)] cs = .ok (.d (.int (f : Nat))) cs' ∧ f < TB c ∧ ∃ j', j' ≤ 5 ∧ Cl k (j + j') L cs' := by
  have h1 := p2_le6 hc6
  have h2 : c ≤ 100000 := by omega
  obtain ⟨r, cs1, e1, hr, c1⟩ := take_ok hTake n k j L 5 cs hc (by omega) (by decide) (by decide)
  rw [show ((5 : Nat) : Int) = 5 from rfl] at e1
  have hlc := lc1cells (P := P) (run := runF P (n + 1)) (elt := .call 19 [.loc 0, .bin .LShift (.con (.int 1)) (.loc 1)]) (it := .range [.call 19 [.loc 0, .con (.int 5)]]) (ifs := []) (i := 3) (s0 := ⟨[.cell k, .pub (.int c), .non, .non, .non], cs⟩) (s := ⟨[.cell k, .pub (.int c), .non, .non, .non], cs1⟩) (xs := rangeD 0 r)
    (fun m acc cs' => Cl k (j + 1 + m) L cs' ∧ ∃ z : List Nat, z.length = m ∧ (∀ p ∈ z, p < p2 c) ∧ acc = z.map fun (p : Nat) => D.int p) (by simp -implicitDefEqProofs [locV, callU, agsOf, agOf, e1, Py.rangeN r (by omega)]) (.inl rfl) (by rw [rg_len]; omega) ⟨c1, [], rfl, fun p hp => (by cases hp), rfl⟩ ?_
  · obtain ⟨ys, cs2, e2, hcl, z, hz, hzp, rfl⟩ := hlc
    rw [rg_len] at hcl hz
    obtain ⟨l', e3, hm3, hs3⟩ := bi_sortedSet_nat z (by omega)
    have hmem : ∀ p ∈ l', p < 2 ^ c := fun p h => hzp p ((hm3 p).mp h)
    have hlen : l'.length ≤ 64 := Nat.le_trans (asc_len hs3 hmem) h1
    have elc := lc1s (P := P) (run := runF P (n + 1)) (i := 4) (elt := .bin .LShift (.con (.int 1)) (.loc 4)) (it := .seq (.bi .sortedSet [.loc 2])) (ifs := [])
      (s0 := ⟨[.cell k, .pub (.int c), .own (.lst (z.map fun (p : Nat) => D.int p)), .non, .non], cs2⟩) (s := ⟨[.cell k, .pub (.int c), .own (.lst (z.map fun (p : Nat) => D.int p)), .non, .non], cs2⟩) (fun (p : Nat) => D.int p) l' (fun p => some (.int (p2 p : Nat)))
      (by simp -implicitDefEqProofs [locV, rd_brw, e3, itD, itemsOf, brwOf]) (.inl rfl) (by omega) (fun p hp => by
        have hp2 : p ≤ 100000 := by have h := hmem p hp; have : 2 ^ c ≤ 64 := h1; omega
        simp -implicitDefEqProofs [agSl, locV, rd_brw, ixOp, atI, ixN, rtOf, isNew, callU, agsOf, agOf, kPl, place, lcB, itD, itemsOf, brwOf, toI, enI, ziI, isTy, eqOp, -bo_shl, -bo_shr, -bo_and, -bo_or, -bo_xor, nShl1, nShl, nShr, nAnd, nAnd1, nOr, nXor, isOwnL, onI, hp2])
    rw [fmSome] at elc
    obtain ⟨f, e4, hf⟩ := closed_ok hDrawn.closed n c (l'.map p2).sum hc6 (asc_sum hs3 hmem) cs2
    have hl : cs2.take cs.length = cs2 := List.take_of_length_le (by rw [hcl.1, hc.1]; exact Nat.le_refl _)
    refine ⟨f, cs2, ?_, hf, 1 + r, by omega, by rw [show j + (1 + r) = j + 1 + r by omega]; exact hcl⟩
    rw [runF_succ P (n + 1) 34 _ cs f34 rfl rfl]
    unfold bodyR f34
    simp -implicitDefEqProofs [agSl, isNew, rtOf, e2, elc, sum_p2, -bi_sum_l, locV, callU, agsOf, agOf, e4, hl]
  · intro m x acc cs2 hx ⟨hcl, z, hz, hzp, hacc⟩
    obtain ⟨hm, rfl⟩ := rg_mem hx
    obtain ⟨q, cs3, e2, hq, c3⟩ := take_ok hTake n k (j + 1 + m) L (p2 c) cs2 hcl (by omega) (Nat.one_le_two_pow) (by omega)
    refine ⟨some (.int (q : Nat)), cs3, by simp -implicitDefEqProofs [lcB, locV, callU, agsOf, agOf, -bo_shl, -bo_shr, -bo_and, -bo_or, -bo_xor, nShl1, nShl, nShr, nAnd, nAnd1, nOr, nXor, isOwnL, onI, h2, e2], c3, z ++ [q], by simp [hz], fun p hp => ?_, by simp [hacc]⟩
    rcases List.mem_append.mp hp with hp | hp
    · exact hzp p hp
    · rw [List.mem_singleton.mp hp]; exact hq
/-! ### _law_switched -/
def swL (c t m : Nat) : List Nat := (List.range (p2 c)).filter fun p => on t (xr p m)
def sw (c t m : Nat) : Nat := ((swL c t m).map p2).sum
theorem sw_lt (c t m : Nat) : sw c t m < TB c := asc_sum ((List.pairwise_lt_range).filter _) fun p hp => List.mem_range.mp (List.mem_filter.mp hp).1
theorem sw_ok (n c t m : Nat) (hc6 : c ≤ 6) (cs : List (List D)) : runF P (n + 1) 35 [.d (.int c), .d (.int t), .d (.int m)] cs = .ok (.d (.int (sw c t m : Nat))) cs := by
  have h1 := p2_le6 hc6
  have h2 : c ≤ 100000 := by omega
  have elc := lcR (P := P) (run := runF P n) (i := 3) (elt := .bin .LShift (.con (.int 1)) (.loc 3)) (it := .range [.bin .LShift (.con (.int 1)) (.loc 0)]) (ifs := [.bin .BitAnd (.bin .RShift (.loc 1) (.bin .BitXor (.loc 3) (.loc 2))) (.con (.int 1))]) (s := ⟨[.pub (.int c), .pub (.int t), .pub (.int m), .non], cs⟩) (p2 c) (fun p => if on t (xr p m) = true then some (.int (p2 p : Nat)) else none)
    (by simp -implicitDefEqProofs [agSl, locV, rd_brw, ixOp, atI, ixN, rtOf, isNew, callU, agsOf, agOf, kPl, place, lcB, itD, itemsOf, brwOf, toI, enI, ziI, isTy, eqOp, -bo_shl, -bo_shr, -bo_and, -bo_or, -bo_xor, nShl1, nShl, nShr, nAnd, nAnd1, nOr, nXor, isOwnL, onI, h2, Py.rangeN (p2 c) (by omega)]) (.inl rfl) (by omega) (fun p hp => by
      have hp2 : p ≤ 100000 := by omega
      simp -implicitDefEqProofs [agSl, locV, rd_brw, ixOp, atI, ixN, rtOf, isNew, callU, agsOf, agOf, kPl, place, lcB, itD, itemsOf, brwOf, toI, enI, ziI, isTy, eqOp, -bo_shl, -bo_shr, -bo_and, -bo_or, -bo_xor, nShl1, nShl, nShr, nAnd, nAnd1, nOr, nXor, isOwnL, onI]
      cases h : on t (xr p m) <;> simp -implicitDefEqProofs [locV, -bo_shl, -bo_shr, -bo_and, -bo_or, -bo_xor, nShl1, nShl, nShr, nAnd, nAnd1, nOr, nXor, isOwnL, onI, hp2])
  rw [fmIf] at elc
  rw [runF_succ P n 35 _ cs f35 rfl rfl]
  unfold bodyR f35 sw swL
  simp -implicitDefEqProofs [agSl, isNew, rtOf, elc, sum_p2, -bi_sum_l]
end K19
end SK19C
section SK19D
set_option autoImplicit false
set_option linter.all false
set_option maxRecDepth 100000
set_option maxHeartbeats 4000000
open Py
open PySem (CmpOp Operator UnaryOp)
namespace K19
open KL
/-! ### _law_threshold -/
theorem sum_bd (a b : Int) (ha : a ≤ 0) (hb : 0 ≤ b) (m : Nat) : ∀ l : List Int, l.length ≤ m → (∀ x ∈ l, a ≤ x ∧ x ≤ b) → a * m ≤ l.sum ∧ l.sum ≤ b * m := by
  intro l
  induction l generalizing m with
  | nil => intro _ _; exact ⟨by simp; exact Int.mul_nonpos_of_nonpos_of_nonneg ha (by omega), by simp; exact Int.mul_nonneg hb (by omega)⟩
  | cons x r ih =>
    intro hl h
    obtain ⟨m', rfl⟩ : ∃ m', m = m' + 1 := ⟨m - 1, by simp at hl; omega⟩
    obtain ⟨h1, h2⟩ := ih m' (by simpa using hl) fun y hy => h y (List.mem_cons_of_mem _ hy)
    have hx := h x List.mem_cons_self
    simp only [List.sum_cons]
    have e1 : a * ((m' + 1 : Nat) : Int) = a * m' + a := by rw [Int.natCast_succ, Int.mul_add, Int.mul_one]
    have e2 : b * ((m' + 1 : Nat) : Int) = b * m' + b := by rw [Int.natCast_succ, Int.mul_add, Int.mul_one]
    omega
theorem thr_ok (n k j L c : Nat) (hc6 : c ≤ 6) (cs : List (List D)) (hc : Cl k j L cs) (hj : j < 2 ^ 26) :
    ∃ (f : Nat) (x : D) (cs' : List (List D)), runF P (n + 2) 37 [.cell k, .d (.int c)] cs = .ok (.own (.lst [.int (f : Nat), x])) cs' ∧ f < TB c ∧ Cl k (j + (c + 1)) L cs' := by
  have hlc := lc1cells (P := P) (run := runF P (n + 1)) (elt := .bin .Sub (.call 19 [.loc 0, .con (.int 9)]) (.con (.int 4))) (it := .range [.loc 1]) (ifs := []) (i := 3) (s0 := ⟨[.cell k, .pub (.int c), .non, .non, .non, .non, .non, .non], cs⟩) (s := ⟨[.cell k, .pub (.int c), .non, .non, .non, .non, .non, .non], cs⟩) (xs := rangeD 0 c)
    (fun m acc cs' => Cl k (j + m) L cs' ∧ ∃ z : List Int, z.length = m ∧ (∀ x ∈ z, -4 ≤ x ∧ x ≤ 4) ∧ acc = z.map .int) (by simp -implicitDefEqProofs [agSl, locV, rd_brw, ixOp, atI, ixN, rtOf, isNew, callU, agsOf, agOf, kPl, place, lcB, itD, itemsOf, brwOf, toI, enI, ziI, isTy, eqOp, Py.rangeN c (by omega)]) (.inl rfl) (by rw [rg_len]; omega) ⟨hc, [], rfl, fun _ h => (by cases h), rfl⟩ ?_
  · obtain ⟨ys, cs2, e2, hcl, z, hz, hzb, rfl⟩ := hlc
    rw [rg_len] at hcl hz
    have lo := lc1own (P := P) (run := runF P (n + 1)) (i := 6) (j := 2) (elt := .loc 6) (ifs := [.cmp .Lt (.loc 6) (.con (.int 0))]) (s := ⟨[.cell k, .pub (.int c), .own (.lst (z.map .int)), .non, .non, .non, .non, .non], cs2⟩) (fun x : Int => D.int x) z (fun x => if decide (x < 0) = true then some (.int x) else none) rfl (by decide) (.inl rfl) (by omega) (fun x hx => by
      cases h : decide (x < 0) <;> simp -implicitDefEqProofs [lcB, locV, h])
    have hi := lc1own (P := P) (run := runF P (n + 1)) (i := 6) (j := 2) (elt := .loc 6) (ifs := [.cmp .Gt (.loc 6) (.con (.int 0))]) (s := ⟨[.cell k, .pub (.int c), .own (.lst (z.map .int)), .non, .non, .non, .non, .non], cs2⟩) (fun x : Int => D.int x) z (fun x => if decide (0 < x) = true then some (.int x) else none) rfl (by decide) (.inl rfl) (by omega) (fun x hx => by
      cases h : decide (0 < x) <;> simp -implicitDefEqProofs [lcB, locV, h])
    rw [fmIf] at lo hi
    have blo := sum_bd (-4) 0 (by decide) (by decide) 6 (z.filter fun x => decide (x < 0)) (Nat.le_trans (List.length_filter_le _ _) (by omega)) fun x hx => by
      obtain ⟨h1, h2⟩ := List.mem_filter.mp hx
      have := hzb x h1
      have h2 := of_decide_eq_true h2
      omega
    have bhi := sum_bd 0 4 (by decide) (by decide) 6 (z.filter fun x => decide (0 < x)) (Nat.le_trans (List.length_filter_le _ _) (by omega)) fun x hx => by
      obtain ⟨h1, h2⟩ := List.mem_filter.mp hx
      have := hzb x h1
      have h2 := of_decide_eq_true h2
      omega
    have tlo := toI_int (z.filter fun x => decide (x < 0))
    have thi := toI_int (z.filter fun x => decide (0 < x))
    have ep : exT whileL P (runF P (n + 1)) (.par [4, 5] [.bi .sum [.lc (.loc 6) (.nm 6) (.seq (.loc 2)) [.cmp .Lt (.loc 6) (.con (.int 0))] [6]], .bi .sum [.lc (.loc 6) (.nm 6) (.seq (.loc 2)) [.cmp .Gt (.loc 6) (.con (.int 0))] [6]]]) ⟨[.cell k, .pub (.int c), .own (.lst (z.map .int)), .non, .non, .non, .non, .non], cs2⟩ = .ok .nx ⟨[.cell k, .pub (.int c), .own (.lst (z.map .int)), .non, .pub (.int (z.filter fun x => decide (x < 0)).sum), .pub (.int (z.filter fun x => decide (0 < x)).sum), .non, .non], cs2⟩ := by
      simp -implicitDefEqProofs [lo, hi, tlo, thi, parGo, tgR, tgD]
    clear lo hi tlo thi
    generalize (z.filter fun x => decide (x < 0)).sum = slo at *
    generalize (z.filter fun x => decide (0 < x)).sum = shi at *
    obtain ⟨m, hm⟩ : ∃ m : Nat, shi - slo + 4 = (m : Int) := ⟨(shi - slo + 4).toNat, by omega⟩
    obtain ⟨r, cs3, e3, hr, c3⟩ := take_ok hTake n k (j + c) L m cs2 hcl (by omega) (by omega) (by omega)
    obtain ⟨f, e4, hf⟩ := byw_ok hDrawn.byw n c z (slo - 1 + r) hc6 hz cs3
    have hl : cs3.take cs.length = cs3 := List.take_of_length_le (by rw [c3.1, hc.1]; exact Nat.le_refl _)
    refine ⟨f, .tup [.tup (z.map .int), .int (slo - 1 + r)], cs3, ?_, hf, c3⟩
    rw [runF_succ P (n + 1) 37 _ cs f37 rfl rfl]
    unfold bodyR f37
    simp -implicitDefEqProofs [agSl, isNew, rtOf, e2, ep, locV, callU, agsOf, agOf, rd_brw, hm, e3, e4, hl]
  · intro m x acc cs2 hx ⟨hcl, z, hz, hzb, hacc⟩
    obtain ⟨hm, rfl⟩ := rg_mem hx
    obtain ⟨q, cs3, e2, hq, c3⟩ := take_ok hTake n k (j + m) L 9 cs2 hcl (by omega) (by decide) (by decide)
    rw [show ((9 : Nat) : Int) = 9 from rfl] at e2
    refine ⟨some (.int ((q : Int) - 4)), cs3, by simp -implicitDefEqProofs [lcB, locV, callU, agsOf, agOf, e2], c3, z ++ [(q : Int) - 4], by simp [hz], fun y hy => ?_, by simp [hacc]⟩
    rcases List.mem_append.mp hy with hy | hy
    · exact hzb y hy
    · rw [List.mem_singleton.mp hy]; omega
/-! ### _law_table -/
theorem table_ok (n k j L c : Nat) (hc6 : c ≤ 6) (cs : List (List D)) (hc : Cl k j L cs) (hj : j < 2 ^ 24) :
    ∃ (f : Nat) (cs' : List (List D)), runF P (n + 4) 39 [.cell k, .d (.int c)] cs = .ok (.d (.int (f : Nat))) cs' ∧ f < TB c ∧ ∃ j', j' ≤ 120 ∧ Cl k (j + j') L cs' := by
  have h1 := p2_le6 hc6
  have h2 : c ≤ 100000 := by omega
  obtain ⟨w, cs1, e1, hw, c1⟩ := take_ok hTake (n + 2) k j L 6 cs hc (by omega) (by decide) (by decide)
  rw [show ((6 : Nat) : Int) = 6 from rfl] at e1
  have e0 : exT whileL P (runF P (n + 3)) (.asg (.nm 2) (.call 19 [.loc 0, .con (.int 6)])) ⟨[.cell k, .pub (.int c), .non, .non], cs⟩ = .ok .nx ⟨[.cell k, .pub (.int c), .pub (.int (w : Nat)), .non], cs1⟩ := by
    simp -implicitDefEqProofs [locV, callU, agsOf, agOf, e1]
  have fin : ∀ (o : Nat) (env : List Sl) (cs2 : List (List D)), exTs whileL P (runF P (n + 3)) f39.body ⟨[.cell k, .pub (.int c), .non, .non], cs⟩ = .ok (.ret (.d (.int (o : Nat)))) ⟨env, cs2⟩ → (∃ j', j' ≤ 119 ∧ Cl k (j + 1 + j') L cs2) → o < TB c →
      ∃ (f : Nat) (cs' : List (List D)), runF P (n + 4) 39 [.cell k, .d (.int c)] cs = .ok (.d (.int (f : Nat))) cs' ∧ f < TB c ∧ ∃ j', j' ≤ 120 ∧ Cl k (j + j') L cs' := by
    rintro o env cs2 e ⟨j', hj', hcl⟩ ho
    have hl2 : cs2.take cs.length = cs2 := List.take_of_length_le (by rw [hcl.1, hc.1]; exact Nat.le_refl _)
    refine ⟨o, cs2, ?_, ho, 1 + j', by omega, by rw [show j + (1 + j') = j + 1 + j' by omega]; exact hcl⟩
    rw [runF_succ P (n + 3) 39 _ cs f39 rfl rfl]
    unfold bodyR
    rw [show (⟨([.cell k, .d (.int c)] : List Ag).map agSl ++ List.replicate (f39.nv - f39.np) .non, cs⟩ : S) = ⟨[.cell k, .pub (.int c), .non, .non], cs⟩ from rfl, e]
    show RO.ok _ (cs2.take cs.length) = _
    rw [hl2]
  by_cases hw3 : w < 3
  · have cw : (w : Int) < 3 := by omega
    obtain ⟨f, cs2, e2, hf, j2, hj2, c2⟩ := mono_ok (n + 1) k (j + 1) L c hc6 cs1 c1 (by omega)
    obtain ⟨q, cs3, e3, hq, c3⟩ := take_ok hTake (n + 2) k (j + 1 + j2) L (p2 c) cs2 c2 (by omega) (Nat.one_le_two_pow) (by omega)
    have e4 := sw_ok (n + 2) c f q hc6 cs3
    have st := sw_lt c f q
    generalize sw c f q = t at *
    by_cases hw2 : w = 2
    · subst hw2
      obtain ⟨q2, cs4, e5, hq2, c4⟩ := take_ok hTake (n + 2) k (j + 1 + j2 + 1) L (p2 c) cs3 c3 (by omega) (Nat.one_le_two_pow) (by omega)
      have hq3 : q2 ≤ 100000 := by omega
      refine fin (xr t (p2 q2)) [.cell k, .pub (.int c), .pub (.int 2), .pub (.int (t : Nat))] cs4 ?_ ⟨j2 + 1 + 1, by omega, by rw [show j + 1 + (j2 + 1 + 1) = j + 1 + j2 + 1 + 1 by omega]; exact c4⟩ (xr_lt st (p2_lt hq2))
      unfold f39
      rw [ss_step e0]
      refine ite_take (by simp -implicitDefEqProofs [locV]) ?_
      simp -implicitDefEqProofs [locV, callU, agsOf, agOf, -bo_shl, -bo_shr, -bo_and, -bo_or, -bo_xor, nShl1, nShl, nShr, nAnd, nAnd1, nOr, nXor, isOwnL, onI, h2, e2, e3, e4, eqOp, e5, hq3]
    · have cw2 : ((w : Int) == 2) = false := by
        have : ¬ (w : Int) = 2 := by omega
        simpa using this
      have x0 := nXor t 0
      have ex : xr t 0 = t := by unfold xr; simp
      rw [ex] at x0
      refine fin t [.cell k, .pub (.int c), .pub (.int (w : Nat)), .pub (.int (t : Nat))] cs3 ?_ ⟨j2 + 1, by omega, by rw [show j + 1 + (j2 + 1) = j + 1 + j2 + 1 by omega]; exact c3⟩ st
      unfold f39
      rw [ss_step e0]
      refine ite_take (by simp -implicitDefEqProofs [locV, cw]) ?_
      have x0' : binop .BitXor (.int (t : Nat)) (.int 0) = some (.d (.int (t : Nat))) := x0
      simp -implicitDefEqProofs [locV, callU, agsOf, agOf, -bo_shl, -bo_shr, -bo_and, -bo_or, -bo_xor, nShl1, nShl, nShr, nAnd, nAnd1, nOr, nXor, isOwnL, onI, h2, e2, e3, e4, eqOp, cw2, x0']
  · have cw : ¬ (w : Int) < 3 := by omega
    by_cases hw2 : w = 3
    · subst hw2
      obtain ⟨f, x, cs2, e2, hf, c2⟩ := thr_ok (n + 1) k (j + 1) L c hc6 cs1 c1 (by omega)
      refine fin f [.cell k, .pub (.int c), .pub (.int 3), .non] cs2 ?_ ⟨c + 1, by omega, c2⟩ hf
      unfold f39
      rw [ss_step e0, ite_skip (by simp -implicitDefEqProofs [locV])]
      refine ite_take (by simp -implicitDefEqProofs [locV, eqOp]) ?_
      simp -implicitDefEqProofs [locV, callU, agsOf, agOf, e2, ixOp, atI, ixN]
    · have cw2 : ((w : Int) == 3) = false := by
        have : ¬ (w : Int) = 3 := by omega
        simpa using this
      by_cases hw4 : w = 4
      · subst hw4
        obtain ⟨f, cs2, e2, hf, j2, hj2, c2⟩ := byp_ok hTake hDrawn.full hDrawn.byp (n + 1) k (j + 1) L c hc6 cs1 c1 (by omega)
        refine fin f [.cell k, .pub (.int c), .pub (.int 4), .non] cs2 ?_ ⟨j2, by omega, c2⟩ hf
        unfold f39
        rw [ss_step e0, ite_skip (by simp -implicitDefEqProofs [locV]), ite_skip (by simp -implicitDefEqProofs [locV, eqOp])]
        simp -implicitDefEqProofs [locV, callU, agsOf, agOf, e2, eqOp]
      · have cw4 : ((w : Int) == 4) = false := by
          have : ¬ (w : Int) = 4 := by omega
          simpa using this
        obtain ⟨f, cs2, e2, hf, j2, hj2, c2⟩ := drawn_ok hDrawn n k (j + 1) L c hc6 cs1 c1 (by omega)
        refine fin f [.cell k, .pub (.int c), .pub (.int (w : Nat)), .non] cs2 ?_ ⟨j2, by omega, c2⟩ hf
        unfold f39
        rw [ss_step e0, ite_skip (by simp -implicitDefEqProofs [locV, cw]), ite_skip (by simp -implicitDefEqProofs [locV, eqOp, cw2])]
        simp -implicitDefEqProofs [locV, callU, agsOf, agOf, e2, eqOp, cw4]
end K19
end SK19D
section SK19E
set_option autoImplicit false
set_option linter.all false
set_option maxRecDepth 100000
set_option maxHeartbeats 4000000
open Py
open PySem (CmpOp Operator UnaryOp)
namespace K19
open KL
/-! ### _law_falls: none -/
theorem falls_ok (n c t : Nat) (hc6 : c ≤ 6) (hm : ∀ p, p < 2 ^ c → m2 (sr t p) = 1 → ∀ i, i < c → m2 (sr p i) = 0 → m2 (sr t (p ||| p2 i)) = 1) (cs : List (List D)) : runF P (n + 2) 33 [.d (.int c), .d (.int t)] cs = .ok (.own (.lst [])) cs := by
  have h1 := p2_le6 hc6
  have e1 := points_ok (P := P) (iPoints := 22) rfl n c t 1 hc6 cs
  rw [show ((1 : Nat) : Int) = 1 from rfl] at e1
  have key := for_new (P := P) (run := runF P (n + 1)) (lp := whileL) (i := 3) (e := .call 22 [.loc 0, .loc 1, .con (.int 1)]) (b := [.ext 2 (.lc (.tup [.loc 3, .bin .BitOr (.loc 3) (.bin .LShift (.con (.int 1)) (.loc 4))]) (.nm 4) (.range [.loc 0]) [.and (.cmp .Eq (.bin .BitAnd (.bin .RShift (.loc 3) (.loc 4)) (.con (.int 1))) (.con (.int 0))) (.cmp .Eq (.bin .BitAnd (.bin .RShift (.loc 1) (.bin .BitOr (.loc 3) (.bin .LShift (.con (.int 1)) (.loc 4)))) (.con (.int 1))) (.con (.int 0)))] [4])])
    (xs := ((List.range (p2 c)).filter fun p => m2 (sr t p) == 1).map fun (p : Nat) => D.int p) (s0 := ⟨[.pub (.int c), .pub (.int t), .own (.lst []), .non, .non], cs⟩) (s := ⟨[.pub (.int c), .pub (.int t), .own (.lst []), .non, .non], cs⟩)
    (fun m u => ∃ x3, u = ⟨[.pub (.int c), .pub (.int t), .own (.lst []), x3, .non], cs⟩) (.inl (by simp -implicitDefEqProofs [locV, callU, agsOf, agOf, e1])) ⟨_, rfl⟩ ?_
  · obtain ⟨s', e, x3, rfl⟩ := key
    rw [runF_succ P (n + 1) 33 _ cs f33 rfl rfl]
    unfold bodyR f33
    simp -implicitDefEqProofs [agSl, isNew, rtOf, e, locV]
  · rintro m hm' u ⟨x3, rfl⟩
    have hm'' : m < ((List.range (p2 c)).filter fun p => m2 (sr t p) == 1).length := by simpa using hm'
    have hmem := List.getElem_mem hm''
    obtain ⟨hp, hon⟩ := List.mem_filter.mp hmem
    have hp := List.mem_range.mp hp
    rw [List.getElem_map]
    generalize ((List.range (p2 c)).filter fun p => m2 (sr t p) == 1)[m] = p at *
    have hon : m2 (sr t p) = 1 := by simpa using hon
    have elc := lcR (P := P) (run := runF P (n + 1)) (i := 4) (elt := .tup [.loc 3, .bin .BitOr (.loc 3) (.bin .LShift (.con (.int 1)) (.loc 4))]) (it := .range [.loc 0]) (ifs := [.and (.cmp .Eq (.bin .BitAnd (.bin .RShift (.loc 3) (.loc 4)) (.con (.int 1))) (.con (.int 0))) (.cmp .Eq (.bin .BitAnd (.bin .RShift (.loc 1) (.bin .BitOr (.loc 3) (.bin .LShift (.con (.int 1)) (.loc 4)))) (.con (.int 1))) (.con (.int 0)))])
      (s := ⟨[.pub (.int c), .pub (.int t), .own (.lst []), .pub (.int (p : Nat)), .non], cs⟩) c (fun _ => none) (by simp -implicitDefEqProofs [agSl, locV, rd_brw, ixOp, atI, ixN, rtOf, isNew, callU, agsOf, agOf, kPl, place, lcB, itD, itemsOf, brwOf, toI, enI, ziI, isTy, eqOp, Py.rangeN c (by omega)]) (.inl rfl) (by omega) (fun i hi => by
        have hi2 : i ≤ 100000 := by omega
        have hh := hm p hp hon i hi
        cases a1 : m2 (sr p i) == 0 with
        | false => simp -implicitDefEqProofs [lcB, locV, -bo_shl, -bo_shr, -bo_and, -bo_or, -bo_xor, nShl1, nShl, nShr, nAnd, nAnd1, nOr, nXor, isOwnL, onI, eqOp, castEq, castEq0, a1]
        | true =>
          have a2 : (m2 (sr t (p ||| p2 i)) == 0) = false := by rw [hh (by simpa using a1)]; rfl
          simp -implicitDefEqProofs [lcB, locV, -bo_shl, -bo_shr, -bo_and, -bo_or, -bo_xor, nShl1, nShl, nShr, nAnd, nAnd1, nOr, nXor, isOwnL, onI, eqOp, castEq, castEq0, a1, a2, hi2])
    rw [fmNone] at elc
    exact ⟨⟨[.pub (.int c), .pub (.int t), .own (.lst []), .pub (.int (p : Nat)), .non], cs⟩, .inl (by simp -implicitDefEqProofs [elc, isOwnL, kExt]), _, rfl⟩
/-! ### without a mixed variable nothing falls behind the exchange -/
theorem stp_bit (t v b p : Nat) : stp t v b p = (!p.testBit v && ((t.testBit p).toNat == b && !((t.testBit (p ||| p2 v)).toNat == b))) := by
  unfold stp
  rw [m2_0, m2_eq, m2_eq]
theorem no_falls (c t : Nat) (hc6 : c ≤ 6) (h : mixL c t = []) : ∀ p, p < 2 ^ c → m2 (sr (sw c t ((dueL c t).map p2).sum) p) = 1 → ∀ i, i < c → m2 (sr p i) = 0 → m2 (sr (sw c t ((dueL c t).map p2).sum) (p ||| p2 i)) = 1 := by
  have dsort : (dueL c t).Pairwise (· < ·) := (List.pairwise_lt_range).filter _
  have dlt : ∀ v ∈ dueL c t, v < c := fun v hv => List.mem_range.mp (List.mem_filter.mp hv).1
  have mb : ∀ i, (((dueL c t).map p2).sum).testBit i = decide (i ∈ dueL c t) := fun i => sum_bit dsort i
  have mlt : ((dueL c t).map p2).sum < 2 ^ c := by
    have := desc_sum (dueL c t).reverse c (List.pairwise_reverse.mpr dsort) fun p hp => dlt p (List.mem_reverse.mp hp)
    rwa [List.map_reverse, List.sum_reverse] at this
  generalize hM : ((dueL c t).map p2).sum = M at *
  have M64 := lt64 hc6 mlt
  have swb : ∀ p, (sw c t M).testBit p = (decide (p < 2 ^ c) && t.testBit (p ^^^ M)) := fun p => by
    have := sum_bit (l := swL c t M) ((List.pairwise_lt_range).filter _) p
    unfold sw
    rw [this]
    unfold swL
    by_cases hp : p < 2 ^ c
    · have : xr p M = p ^^^ M := xr_eq (lt64 hc6 hp) M64
      have hp' : p < p2 c := hp
      simp [List.mem_filter, List.mem_range, on_bit, this, hp, hp']
    · have hp' : ¬ p < p2 c := hp
      simp [List.mem_filter, List.mem_range, hp, hp']
  intro p hp h1 i hi h0
  have hq : p ||| p2 i < 2 ^ c := pt_lt hp hi
  rw [m2_eq] at h1 h0 ⊢
  rw [swb] at h1 ⊢
  have pb : p.testBit i = false := by cases q : p.testBit i <;> simp [q] at h0 ⊢
  simp only [hp, hq, decide_true, Bool.true_and] at h1 ⊢
  have t1 : t.testBit (p ^^^ M) = true := by cases q : t.testBit (p ^^^ M) <;> simp [q] at h1 ⊢
  cases t2 : t.testBit ((p ||| p2 i) ^^^ M) with
  | true => rfl
  | false =>
    exfalso
    have nomix : mixP c t i = false := by
      have : ∀ v ∈ List.range c, mixP c t v = false := by simpa [mixL, List.filter_eq_nil_iff] using h
      exact this i (List.mem_range.mpr hi)
    have bitOr : ∀ j, (p ||| p2 i).testBit j = (p.testBit j || decide (i = j)) := fun j => by rw [Nat.testBit_or, p2_bit]
    have hasOf : ∀ b q, q < 2 ^ c → stp t i b q = true → has c t i b = true := fun b q hq hs => by
      unfold has steps
      cases e : (List.range (p2 c)).filter (stp t i b) with
      | nil =>
        have hq' : q < p2 c := hq
        exact absurd (List.mem_filter.mpr ⟨List.mem_range.mpr hq', hs⟩) (by rw [e]; exact List.not_mem_nil)
      | cons => rfl
    by_cases hd : i ∈ dueL c t
    · have hM1 : M.testBit i = true := by rw [mb]; simpa using hd
      have qlt : (p ||| p2 i) ^^^ M < 2 ^ c := Nat.xor_lt_two_pow hq mlt
      have qb : ((p ||| p2 i) ^^^ M).testBit i = false := by rw [Nat.testBit_xor, bitOr, pb, hM1]; simp
      have qo : ((p ||| p2 i) ^^^ M) ||| p2 i = p ^^^ M := Nat.eq_of_testBit_eq fun j => by
        rw [Nat.testBit_or, Nat.testBit_xor, Nat.testBit_xor, bitOr, p2_bit]
        by_cases e : i = j
        · subst e; rw [pb, hM1]; simp
        · simp [e]
      have s0 : has c t i 0 = true := hasOf 0 _ qlt (by rw [stp_bit, qb, qo, t2, t1]; rfl)
      have s1 : has c t i 1 = true := (List.mem_filter.mp hd).2
      unfold mixP at nomix
      rw [s0, s1] at nomix
      cases nomix
    · have hM0 : M.testBit i = false := by rw [mb]; simpa using hd
      have qlt : p ^^^ M < 2 ^ c := Nat.xor_lt_two_pow hp mlt
      have qb : (p ^^^ M).testBit i = false := by rw [Nat.testBit_xor, pb, hM0]; rfl
      have qo : (p ^^^ M) ||| p2 i = (p ||| p2 i) ^^^ M := Nat.eq_of_testBit_eq fun j => by
        rw [Nat.testBit_or, Nat.testBit_xor, Nat.testBit_xor, bitOr, p2_bit]
        by_cases e : i = j
        · subst e; rw [pb, hM0]; simp
        · simp [e]
      have s1 : has c t i 1 = true := hasOf 1 _ qlt (by rw [stp_bit, qb, qo, t2, t1]; rfl)
      exact hd (List.mem_filter.mpr ⟨List.mem_range.mpr hi, s1⟩)
/-! ### _law_mixed_right -/
theorem isint_ok (n : Nat) (i : Int) (cs : List (List D)) : runF P (n + 1) 36 [.d (.int i)] cs = .ok (.d (.bl true)) cs := isInt_ok (P := P) (iIsInteger := 36) rfl n i cs
theorem inN (p : Nat) (l : List Nat) : inOp (.int (p : Int)) (nLst l) = some (decide (p ∈ l)) := by
  unfold nLst inOp
  have hf : (l.map fun (p : Nat) => D.int p).all flat = true := by rw [List.all_map]; exact List.all_eq_true.mpr fun _ _ => rfl
  have : ((l.map fun (p : Nat) => D.int p).any fun z => eqD z (.int (p : Int))) = decide (p ∈ l) := by
    rw [List.any_map]
    have : ((fun z => eqD z (.int (p : Int))) ∘ fun (p : Nat) => D.int p) = fun q => q == p := by funext q; simp [Function.comp, castEq]
    rw [this, Bool.eq_iff_iff]; simp
  simp only [hf, flat, Bool.and_self, Bool.true_or, if_true, this]
theorem mr_ok (n c v u d : Nat) (hv : v < c) (us ds : List (List Nat)) (hu : us.length = c) (hd : ds.length = c) (h1 : u ∈ us[v]'(by omega)) (h2 : d ∈ ds[v]'(by omega)) (cs : List (List D)) :
    runF P (n + 2) 40 [.d (.tup [.int (v : Nat), .int (u : Nat), .int (d : Nat)]), .d (.lst (us.map nLst)), .d (.lst (ds.map nLst))] cs = .ok (.d (.bl true)) cs := by
  have elc := lc1 (P := P) (run := runF P (n + 1)) (i := 3) (elt := .loc 3) (it := .seq (.loc 0)) (ifs := [.un .Not (.call 36 [.loc 3])]) (s := ⟨[.pub (.tup [.int (v : Nat), .int (u : Nat), .int (d : Nat)]), .pub (.lst (us.map nLst)), .pub (.lst (ds.map nLst)), .non, .non, .non, .non], cs⟩) (fun (x : Nat) => D.int x) [v, u, d] (fun _ => none)
    (by simp -implicitDefEqProofs [agSl, locV, rd_brw, ixOp, atI, ixN, rtOf, isNew, callU, agsOf, agOf, kPl, place, lcB, itD, itemsOf, brwOf, toI, enI, ziI, isTy, eqOp]) (.inl rfl) (by simp) (fun x _ => by
      have := isint_ok n x cs
      simp -implicitDefEqProofs [lcB, locV, callU, agsOf, agOf, this])
  rw [fmNone] at elc
  have i1 : ixOp (.lst (us.map nLst)) (.int (v : Int)) = some (nLst (us[v]'(by omega))) := by rw [ixOp_l]; simp [hu, hv]
  have i2 : ixOp (.lst (ds.map nLst)) (.int (v : Int)) = some (nLst (ds[v]'(by omega))) := by rw [ixOp_l]; simp [hd, hv]
  have g1 := inN u (us[v]'(by omega))
  have g2 := inN d (ds[v]'(by omega))
  rw [decide_eq_true h1] at g1
  rw [decide_eq_true h2] at g2
  have hl : (us.map nLst).length = c := by simp [hu]
  have hvc : (v : Int) < (c : Int) := by omega
  generalize nLst (us[v]'(by omega)) = A at *
  generalize nLst (ds[v]'(by omega)) = B at *
  generalize us.map nLst = U at *
  generalize ds.map nLst = V at *
  rw [runF_succ P (n + 1) 40 _ cs f40 rfl rfl]
  unfold bodyR f40
  have hasg : exT whileL P (runF P (n + 1)) (.asg (.tup [.nm 4, .nm 5, .nm 6]) (.loc 0)) ⟨[.pub (.tup [.int (v : Nat), .int (u : Nat), .int (d : Nat)]), .pub (.lst U), .pub (.lst V), .non, .non, .non, .non], cs⟩ = .ok .nx ⟨[.pub (.tup [.int (v : Nat), .int (u : Nat), .int (d : Nat)]), .pub (.lst U), .pub (.lst V), .non, .pub (.int (v : Nat)), .pub (.int (u : Nat)), .pub (.int (d : Nat))], cs⟩ := by
    simp -implicitDefEqProofs [locV, kAsg, tgR, tgD, tgDs]
  simp -implicitDefEqProofs [agSl, isNew, rtOf, locV, isTy, eqOp, elc, hasg, hl, hvc, i1, i2, g1, g2]
end K19
end SK19E
section SK19F
set_option autoImplicit false
set_option linter.all false
set_option maxRecDepth 100000
set_option maxHeartbeats 4000000
open Py
open PySem (CmpOp Operator UnaryOp)
namespace K19
open KL
theorem mk_ok (n c t : Nat) (hc : c ≤ 6) (ht : t < TB c) (cs : List (List D)) : runF P (n + 4) 8 [.new 4, .d (.int c), .d (.int t)] cs = .ok (.d (F c t)) cs :=
  init_ok (P := P) (iIsInteger := 4) (iIsBetween := 5) (iCheckCount := 7) (iFullTable := 6) (iInit := 8) (fc := 0) (ft := 1) (r := .dead) (r2 := .dead) rfl rfl rfl rfl rfl (by decide) n 4 c t hc ht cs
def upsL (c t b : Nat) : List (List Nat) := (List.range c).map fun v => steps c t v b
theorem upsD (c t b : Nat) : ((List.range c).map fun v => nLst (steps c t v b)) = (upsL c t b).map nLst := by unfold upsL; rw [List.map_map]; rfl
theorem ups_len (c t b : Nat) : (upsL c t b).length = c := by simp [upsL]
theorem ups_get (c t b v : Nat) (hv : v < c) : (upsL c t b)[v]'(by rw [ups_len]; exact hv) = steps c t v b := by simp [upsL]
theorem ups_ix (c t b v : Nat) (hv : v < c) : ixOp (.lst ((upsL c t b).map nLst)) (.int (v : Int)) = some (nLst (steps c t v b)) := by
  rw [ixOp_l]
  simp [upsL, hv]
theorem nLst_ne (l : List Nat) : eqOp (nLst l) (.lst []) = some l.isEmpty := by
  unfold eqOp nLst
  simp
theorem nice_ints (m : Nat) (l : List Nat) : (l.map fun (v : Nat) => D.int v).all (nice m) = true := by
  rw [List.all_map]
  refine List.all_eq_true.mpr fun x _ => ?_
  cases m <;> rfl
theorem due_len (c t : Nat) : (dueL c t).length ≤ c := by
  have := List.length_filter_le (fun v => has c t v 1) (List.range c)
  rwa [List.length_range] at this
abbrev turn : List T := [.asg (.nm 9) (.mk 4 [.loc 1, .loc 2]), .asg (.nm 10) (.ite (.cmp .Eq (.loc 8) (.con (.int 0))) (.call 15 [.loc 9]) (.callK 15 [.loc 9] [.inl 0])), .asg (.nm 11) (.ite (.cmp .Eq (.loc 8) (.con (.int 1))) (.call 16 [.loc 9]) (.callK 16 [.loc 9] [.inl 0])),
  .ite (.cmp .NotEq (.loc 6) (.lst [])) [.ite (.or (.isN true (.loc 10)) (.or (.un .Not (.call 40 [.loc 11, .loc 3, .loc 4])) (.un .Not (.call 20 [.call 16 [.loc 9], .loc 11])))) [.ret (some (.con (.bl false)))] []] [.ite (.or (.un .Not (.call 20 [.loc 10, .loc 7])) (.isN true (.loc 11))) [.ret (some (.con (.bl false)))] []]]
theorem noRef_nLst (n : Nat) (l : List Nat) : noRef (n + 1) (.tup (l.map fun (v : Nat) => D.int v)) = true := by
  simp [noRef]
theorem turn_ok (n c t m : Nat) (hc : c ≤ 6) (ht : t < TB c) (x0 x5 x9 x10 x11 : Sl) (cs : List (List D)) : ∃ x9' x10' x11', exTs whileL P (runF P (n + 6)) turn
    ⟨[x0, .pub (.int c), .pub (.int t), .own (.lst ((upsL c t 0).map nLst)), .own (.lst ((upsL c t 1).map nLst)), x5, .own (nLst (mixL c t)), .pub (.tup ((dueL c t).map fun (v : Nat) => D.int v)), .pub (.int (m : Nat)), x9, x10, x11], cs⟩ =
    .ok .nx ⟨[x0, .pub (.int c), .pub (.int t), .own (.lst ((upsL c t 0).map nLst)), .own (.lst ((upsL c t 1).map nLst)), x5, .own (nLst (mixL c t)), .pub (.tup ((dueL c t).map fun (v : Nat) => D.int v)), .pub (.int (m : Nat)), x9', x10', x11'], cs⟩ := by
  have e1 := mk_ok (n + 2) c t hc ht cs
  have e2 := flips_ok (n + 3) c t hc cs
  have e3 := mixed_ok (n + 4) c t hc cs
  have hne := nLst_ne (mixL c t)
  have hs := same_ok (P := P) (iSame := 20) rfl 1
  cases hm : mixL c t with
  | nil =>
    have hmd : mixD c t = .non := by unfold mixD; rw [hm]
    have hsd := hs (.tup ((dueL c t).map fun (v : Nat) => D.int v)) (by
      have := due_len c t
      have h := nice_ints 0 (dueL c t)
      simp only [nice, List.length_map, h, Bool.and_true, decide_eq_true_eq]; omega) (n + 4) cs
    have nr := noRef_nLst 7 (dueL c t)
    rw [hm] at e2 hne
    rw [hmd] at e3
    simp only [List.isEmpty_nil, if_true] at e2 hne
    generalize F c t = f at *
    generalize (upsL c t 0).map nLst = U at *
    generalize (upsL c t 1).map nLst = V at *
    generalize (dueL c t).map (fun (v : Nat) => D.int v) = du at *
    refine ⟨.pub f, .pub (.tup du), .pub .non, ?_⟩
    have hinit : P.init 4 = some 8 := rfl
    by_cases h0 : (m : Int) = 0
    · have h1 : ¬ (m : Int) = 1 := by omega
      simp -implicitDefEqProofs [locV, mkU, hinit, callU, agsOf, agOf, e1, e2, e3, eqOp, h0, kPl, place, rd_brw, nLst, hsd]
    · by_cases h1 : (m : Int) = 1
      · simp -implicitDefEqProofs [locV, mkU, hinit, callU, agsOf, agOf, e1, e2, e3, eqOp, h1, kPl, place, rd_brw, nLst, hsd]
      · have g0 : ((m : Int) == 0) = false := by simpa using h0
        have g1 : ((m : Int) == 1) = false := by simpa using h1
        simp -implicitDefEqProofs [locV, mkU, hinit, callU, agsOf, agOf, e1, e2, e3, eqOp, g0, g1, kPl, place, rd_brw, nLst, hsd]
  | cons v r =>
    have hv := List.mem_filter.mp (show v ∈ (List.range c).filter (mixP c t) by rw [show (List.range c).filter (mixP c t) = mixL c t from rfl, hm]; exact List.mem_cons_self)
    have hvc := List.mem_range.mp hv.1
    have hp := hv.2
    unfold mixP has at hp
    obtain ⟨u, ru, hu⟩ : ∃ u ru, steps c t v 0 = u :: ru := by
      cases q : steps c t v 0 with
      | nil => rw [q] at hp; cases hp
      | cons u ru => exact ⟨u, ru, rfl⟩
    obtain ⟨d, rd, hd⟩ : ∃ d rd, steps c t v 1 = d :: rd := by
      cases q : steps c t v 1 with
      | nil => rw [q] at hp; simp at hp
      | cons d rd => exact ⟨d, rd, rfl⟩
    have hmd : mixD c t = .tup [.int (v : Nat), .int (u : Nat), .int (d : Nat)] := by unfold mixD; rw [hm]; simp only [hu, hd, firstD]
    have hsd := hs (.tup [.int (v : Nat), .int (u : Nat), .int (d : Nat)]) rfl (n + 4) cs
    have hmr := mr_ok (n + 4) c v u d hvc (upsL c t 0) (upsL c t 1) (ups_len c t 0) (ups_len c t 1) (by rw [ups_get c t 0 v hvc, hu]; exact List.mem_cons_self) (by rw [ups_get c t 1 v hvc, hd]; exact List.mem_cons_self) cs
    rw [hm] at e2 hne
    rw [hmd] at e3
    simp only [List.isEmpty_cons] at e2 hne
    generalize F c t = f at *
    generalize (upsL c t 0).map nLst = U at *
    generalize (upsL c t 1).map nLst = V at *
    generalize (dueL c t).map (fun (v : Nat) => D.int v) = du at *
    refine ⟨.pub f, .pub .non, .pub (.tup [.int (v : Nat), .int (u : Nat), .int (d : Nat)]), ?_⟩
    have hinit : P.init 4 = some 8 := rfl
    have hn : ((([v] : List Nat) ++ r).map fun (p : Nat) => D.int p) = D.int (v : Nat) :: r.map fun (p : Nat) => D.int p := rfl
    by_cases h0 : (m : Int) = 0
    · have h1 : ¬ (m : Int) = 1 := by omega
      simp -implicitDefEqProofs [locV, mkU, hinit, callU, agsOf, agOf, e1, e2, e3, eqOp, h0, kPl, place, rd_brw, nLst, hsd, hmr]
    · by_cases h1 : (m : Int) = 1
      · simp -implicitDefEqProofs [locV, mkU, hinit, callU, agsOf, agOf, e1, e2, e3, eqOp, h1, kPl, place, rd_brw, nLst, hsd, hmr]
      · have g0 : ((m : Int) == 0) = false := by simpa using h0
        have g1 : ((m : Int) == 1) = false := by simpa using h1
        simp -implicitDefEqProofs [locV, mkU, hinit, callU, agsOf, agOf, e1, e2, e3, eqOp, g0, g1, kPl, place, rd_brw, nLst, hsd, hmr]
end K19
end SK19F
section SK19G
set_option autoImplicit false
set_option linter.all false
set_option maxRecDepth 100000
set_option maxHeartbeats 4000000
open Py
open PySem (CmpOp Operator UnaryOp)
namespace K19
open KL
theorem upsList (n c t b : Nat) (hb : b < 2) (hc : c ≤ 6) (x0 x3 x4 x6 x7 x8 x9 x10 x11 : Sl) (cs : List (List D)) :
    evE P (runF P (n + 1)) (.lc (.call 38 [.loc 1, .loc 2, .loc 5, .con (.int (b : Nat))]) (.nm 5) (.range [.loc 1]) [] [5]) ⟨[x0, .pub (.int c), .pub (.int t), x3, x4, .non, x6, x7, x8, x9, x10, x11], cs⟩ =
    .ok (.own (.lst ((upsL c t b).map nLst))) ⟨[x0, .pub (.int c), .pub (.int t), x3, x4, .non, x6, x7, x8, x9, x10, x11], cs⟩ := by
  rw [lcR c (fun v => some (nLst (steps c t v b)))]
  · rw [fmSome, upsD]
  · simp -implicitDefEqProofs [locV, Py.rangeN c (by omega)]
  · exact .inl rfl
  · omega
  · intro v hv
    have e := steps_ok n c t v b hc hv cs
    simp -implicitDefEqProofs [lcB, locV, callU, agsOf, agOf, e]
theorem has_ne (c t v b : Nat) : (!(steps c t v b).isEmpty) = has c t v b := rfl
theorem right_ok (n k j L : Nat) (cs : List (List D)) (hc : Cl k j L cs) (hj : j < 2 ^ 20) :
    ∃ cs' : List (List D), runF P (n + 7) 41 [.cell k] cs = .ok (.d (.bl true)) cs' ∧ cs'.length = L := by
  obtain ⟨c, cs1, e1, hc6, c1⟩ := size_ok (n + 4) k j L cs hc (by omega)
  obtain ⟨t, cs2, e2, ht, j2, hj2, c2⟩ := table_ok (n + 2) k (j + 2) L c hc6 cs1 c1 (by omega)
  have hl2 : cs2.take cs.length = cs2 := List.take_of_length_le (by rw [c2.1, hc.1]; exact Nat.le_refl _)
  have h2 : c ≤ 100000 := by omega
  have u0 := upsList (n + 5) c t 0 (by decide) hc6 (.cell k) .non .non .non .non .non .non .non .non cs2
  have u1 := upsList (n + 5) c t 1 (by decide) hc6 (.cell k) .non .non .non .non .non .non .non .non cs2
  rw [show ((0 : Nat) : Int) = 0 from rfl] at u0
  rw [show ((1 : Nat) : Int) = 1 from rfl] at u1
  have s6 : evE P (runF P (n + 6)) (.lc (.loc 5) (.nm 5) (.range [.loc 1]) [.and (.cmp .NotEq (.ix (.loc 3) (.loc 5)) (.lst [])) (.cmp .NotEq (.ix (.loc 4) (.loc 5)) (.lst []))] [5]) ⟨[.cell k, .pub (.int c), .pub (.int t), .own (.lst ((upsL c t 0).map nLst)), .own (.lst ((upsL c t 1).map nLst)), .non, .non, .non, .non, .non, .non, .non], cs2⟩ =
      .ok (.own (nLst (mixL c t))) ⟨[.cell k, .pub (.int c), .pub (.int t), .own (.lst ((upsL c t 0).map nLst)), .own (.lst ((upsL c t 1).map nLst)), .non, .non, .non, .non, .non, .non, .non], cs2⟩ := by
    rw [lcR c (fun v => if mixP c t v = true then some (.int v) else none)]
    · rw [fmIf]; rfl
    · simp -implicitDefEqProofs [locV, Py.rangeN c (by omega)]
    · exact .inl rfl
    · omega
    · intro v hv
      have i0 := ups_ix c t 0 v hv
      have i1 := ups_ix c t 1 v hv
      have n0 := nLst_ne (steps c t v 0)
      have n1 := nLst_ne (steps c t v 1)
      unfold mixP
      rw [← has_ne, ← has_ne]
      generalize (upsL c t 0).map nLst = U at *
      generalize (upsL c t 1).map nLst = V at *
      cases h0 : (steps c t v 0).isEmpty <;> cases h1 : (steps c t v 1).isEmpty <;> rw [h0] at n0 <;> rw [h1] at n1 <;> simp -implicitDefEqProofs [lcB, locV, rd_brw, i0, i1, n0, n1]
  have s7 : evE P (runF P (n + 6)) (.lc (.loc 5) (.nm 5) (.range [.loc 1]) [.cmp .NotEq (.ix (.loc 4) (.loc 5)) (.lst [])] [5]) ⟨[.cell k, .pub (.int c), .pub (.int t), .own (.lst ((upsL c t 0).map nLst)), .own (.lst ((upsL c t 1).map nLst)), .non, .own (nLst (mixL c t)), .non, .non, .non, .non, .non], cs2⟩ =
      .ok (.own (.lst ((dueL c t).map fun (v : Nat) => D.int v))) ⟨[.cell k, .pub (.int c), .pub (.int t), .own (.lst ((upsL c t 0).map nLst)), .own (.lst ((upsL c t 1).map nLst)), .non, .own (nLst (mixL c t)), .non, .non, .non, .non, .non], cs2⟩ := by
    rw [lcR c (fun v => if has c t v 1 = true then some (.int v) else none)]
    · rw [fmIf]; rfl
    · simp -implicitDefEqProofs [locV, Py.rangeN c (by omega)]
    · exact .inl rfl
    · omega
    · intro v hv
      have i1 := ups_ix c t 1 v hv
      have n1 := nLst_ne (steps c t v 1)
      rw [← has_ne]
      generalize (upsL c t 0).map nLst = U at *
      generalize (upsL c t 1).map nLst = V at *
      cases h1 : (steps c t v 1).isEmpty <;> rw [h1] at n1 <;> simp -implicitDefEqProofs [lcB, locV, rd_brw, i1, n1]
  have key := for_range (P := P) (run := runF P (n + 6)) (lp := whileL) (i := 8) (e := .con (.int 2)) (b := turn)
    (s0 := ⟨[.cell k, .pub (.int c), .pub (.int t), .own (.lst ((upsL c t 0).map nLst)), .own (.lst ((upsL c t 1).map nLst)), .non, .own (nLst (mixL c t)), .pub (.tup ((dueL c t).map fun (v : Nat) => D.int v)), .non, .non, .non, .non], cs2⟩)
    (s := ⟨[.cell k, .pub (.int c), .pub (.int t), .own (.lst ((upsL c t 0).map nLst)), .own (.lst ((upsL c t 1).map nLst)), .non, .own (nLst (mixL c t)), .pub (.tup ((dueL c t).map fun (v : Nat) => D.int v)), .non, .non, .non, .non], cs2⟩) (c := 2)
    (fun m u => ∃ x8 x9 x10 x11, u = ⟨[.cell k, .pub (.int c), .pub (.int t), .own (.lst ((upsL c t 0).map nLst)), .own (.lst ((upsL c t 1).map nLst)), .non, .own (nLst (mixL c t)), .pub (.tup ((dueL c t).map fun (v : Nat) => D.int v)), x8, x9, x10, x11], cs2⟩) (by decide) (by simp -implicitDefEqProofs []) ⟨_, _, _, _, rfl⟩ ?_
  · obtain ⟨s', e, x8, x9, x10, x11, rfl⟩ := key
    refine ⟨cs2, ?_, c2.1⟩
    have hsum := lc1 (P := P) (run := runF P (n + 6)) (i := 5) (elt := .bin .LShift (.con (.int 1)) (.loc 5)) (it := .seq (.loc 7)) (ifs := []) (s := ⟨[.cell k, .pub (.int c), .pub (.int t), .own (.lst ((upsL c t 0).map nLst)), .own (.lst ((upsL c t 1).map nLst)), .non, .own (nLst (mixL c t)), .pub (.tup ((dueL c t).map fun (v : Nat) => D.int v)), x8, x9, x10, x11], cs2⟩) (fun (v : Nat) => D.int v) (dueL c t) (fun v => some (.int (p2 v : Nat)))
      (by simp -implicitDefEqProofs [agSl, locV, rd_brw, ixOp, atI, ixN, rtOf, isNew, callU, agsOf, agOf, kPl, place, lcB, itD, itemsOf, brwOf, toI, enI, ziI, isTy, eqOp]) (.inl rfl) (by have := due_len c t; omega) (fun v hv => by
        have hv2 : v < c := List.mem_range.mp (List.mem_filter.mp hv).1
        have hv3 : v ≤ 100000 := by omega
        simp -implicitDefEqProofs [lcB, locV, -bo_shl, -bo_shr, -bo_and, -bo_or, -bo_xor, nShl1, nShl, nShr, nAnd, nAnd1, nOr, nXor, isOwnL, onI, hv3])
    rw [fmSome] at hsum
    have hne := nLst_ne (mixL c t)
    have e5 := sw_ok (n + 5) c t ((dueL c t).map p2).sum hc6 cs2
    rw [runF_succ P (n + 6) 41 _ cs f41 rfl rfl]
    unfold bodyR f41
    cases hm : mixL c t with
    | nil =>
      have e6 := falls_ok (n + 4) c (sw c t ((dueL c t).map p2).sum) hc6 (no_falls c t hc6 hm) cs2
      have hne2 : eqOp (nLst (mixL c t)) (.lst []) = some true := by rw [hne, hm]; rfl
      have heq : eqOp (.lst []) (.lst []) = some true := rfl
      generalize nLst (mixL c t) = M at *
      simp -implicitDefEqProofs [agSl, isNew, rtOf, locV, callU, agsOf, agOf, e1, e2, u0, u1, s6, s7, parGo, tgR, e, rd_brw, hne2, heq, hsum, sum_p2, -bi_sum_l, e5, e6, hl2]
    | cons v r =>
      have hne2 : eqOp (nLst (mixL c t)) (.lst []) = some false := by rw [hne, hm]; rfl
      generalize nLst (mixL c t) = M at *
      simp -implicitDefEqProofs [agSl, isNew, rtOf, locV, callU, agsOf, agOf, e1, e2, u0, u1, s6, s7, parGo, tgR, e, rd_brw, hne2, hl2]
  · rintro m u hm ⟨x8, x9, x10, x11, rfl⟩
    obtain ⟨x9', x10', x11', e⟩ := turn_ok n c t m hc6 ht (.cell k) .non x9 x10 x11 cs2
    exact ⟨_, .inl e, _, _, _, _, rfl⟩
theorem law_run0 (n : Nat) (ns : List Int) (hn : ns.length ≤ 63) : ∃ cs, runF P (n + 8) 42 [.d (.lst (ns.map .int))] [] = .ok (.d (.bl true)) cs := by
  obtain ⟨N, hN, eN⟩ : ∃ N : Nat, N ≤ 8 ∧ (if (if (ns.length : Int) < 8 then (ns.length : Int) else 8) > 4 then (if (ns.length : Int) < 8 then (ns.length : Int) else 8) else 4) = (N : Int) := by
    refine ⟨if (if ns.length < 8 then ns.length else 8) > 4 then (if ns.length < 8 then ns.length else 8) else 4, ?_, ?_⟩
    · split <;> split <;> omega
    · split <;> split <;> split <;> split <;> omega
  have key := for_range (P := P) (run := runF P (n + 7)) (lp := whileL) (i := 1) (e := .bi .max2 [.con (.int 4), .bi .min2 [.con (.int 8), .bi .len [.loc 0]]]) (b := [.iteB 41 (.call 18 [.call 17 [.loc 0, .loc 1]]) [] [.ret (some (.con (.bl false)))]])
    (s0 := ⟨[.pub (.lst (ns.map .int)), .non], []⟩) (s := ⟨[.pub (.lst (ns.map .int)), .non], []⟩) (c := N)
    (fun m u => ∃ x1 cs, u = ⟨[.pub (.lst (ns.map .int)), x1], cs⟩) (by omega) (by simp -implicitDefEqProofs [locV]; simpa using eN) ⟨_, _, rfl⟩ ?_
  · obtain ⟨s', e, x1, cs1, rfl⟩ := key
    refine ⟨[], ?_⟩
    rw [runF_succ P (n + 7) 42 _ [] f42 rfl rfl]
    unfold bodyR f42
    simp -implicitDefEqProofs [agSl, isNew, e, rtOf]
  · rintro m u hm ⟨x1, cs1, rfl⟩
    obtain ⟨i, e1⟩ := cell_ok (P := P) (iCell := 17) rfl (n + 6) ns m (by omega) cs1
    obtain ⟨b, e2, hb, hbf⟩ := box_ok (P := P) (iBox := 18) rfl (n + 6) i cs1
    have c0 : Cl cs1.length 0 (cs1.length + 1) (cs1 ++ [b]) := ⟨by simp, b, by simp, hb⟩
    obtain ⟨cs2, e3, _⟩ := right_ok n cs1.length 0 (cs1.length + 1) (cs1 ++ [b]) c0 (by decide)
    refine ⟨⟨[.pub (.lst (ns.map .int)), .pub (.int (m : Nat))], cs2⟩, .inl ?_, _, _, rfl⟩
    simp -implicitDefEqProofs [locV, callU, agsOf, agOf, e1, e2, kB, eq_true (List.all_eq_true.mp hbf), e3]
end K19
end SK19G
section SEnd
set_option maxRecDepth 100000
set_option maxHeartbeats 0
set_option linter.all false
set_option Elab.async false
open PySem L2 Py
namespace K19
theorem law_run : ∀ ns : List Int, ns.length ≤ 63 → ∃ cs, runF l.P 16 42 [.d (.lst (ns.map .int))] [] = .ok (.d (.bl true)) cs := fun ns hn => law_run0 8 ns hn
end K19
namespace K19
theorem allOk : l.fl.all l.okF = true := by decide +kernel
theorem allOkI : l.cls.all l.okI = true := by decide +kernel
theorem allOkM : l.mts.all l.okM = true := by decide +kernel
theorem fldOk : ∀ f, f < 3 → ∀ g, (l.tb.L.fld g == l.tb.L.fld f) = (g == f) := fld_inj (L := fldL) (by decide +kernel)
theorem lOk : l.Ok where
  fns := fun f h => by simpa [l, tb] using h
  okF := fun f h => List.all_eq_true.mp allOk f h
  ini := fun c f e => by
    have e : P.init c = some f := e
    simp only [P] at e
    show (c, f) ∈ l.cls
    split at e <;> first | (cases e; done) | (cases e; simp [l])
  okI := fun p h => List.all_eq_true.mp allOkI p h
  init2 := fun _ => rfl
  fld := fun f h => ⟨by have h := of_decide_eq_true h; simp [l]; omega, fldOk f (of_decide_eq_true h)⟩
  con := fun g h => h
  con2 := fun g d e => by
    have e : P.con g = some d := e
    simp only [P] at e
    show (g, d) ∈ l.cons
    split at e <;> first | (cases e; done) | (cases e; simp [l])
  mts := fun c m f e => by
    have e : P.meth c m = some f := e
    simp only [P] at e
    show (c, m, f) ∈ l.mts
    first
      | (cases e; done)
      | (split at e <;> first | (cases e; done) | (cases e; simp [l]))
  okM := fun p h => List.all_eq_true.mp allOkM p h
  mtn := fun m np h => by
    have h : tb.mt m = some np := h
    simp only [tb] at h
    first
      | (cases h; done)
      | (split at h <;> first | (cases h; done) | skip
         all_goals
           cases h
           refine ⟨fun c f e => ?_, fld_ne (L := fldL) (by decide +kernel)⟩
           have e : P.meth c _ = some f := e
           simp only [P] at e
           split at e <;> first | (cases e; done) | skip
           all_goals first | (cases e; exact ⟨rfl, rfl, by decide +kernel⟩) | (rename_i h1 h2; cases h2; done) | (rename_i h1 h2; cases h1; done))
abbrev R : PySem.W.OpenRow := PySem.W.OpenLaw.row PySem.Challenge.rw_truthbench_k19_unate_functions
def Hk : PySem.W.Hook := hookE 5 l.fa l.defs l.bf
def ob (s : PySem.W.SharedT) : Bool × He.AlD := obsEG 5 l.fa l.defs l.bf (HandSHeadRun.getT s)
theorem ob_eq (s : PySem.W.SharedT) : ob s = Hk.obs s.abs := obsEG_eq (HandSHeadRun.getT_eq s)
def names : List Str := ([("_wall" : Str), ("__name__" : Str), ("FunctionError" : Str), ("InvalidCount" : Str), ("InvalidPoint" : Str), ("InvalidTable" : Str), ("MOST_VARIABLES" : Str), ("is_integer" : Str), ("is_between" : Str), ("full_table" : Str), ("check_count" : Str), ("Function" : Str), ("first_change" : Str), ("monotone_flips" : Str), ("mixed_variable" : Str), ("_law_cell" : Str), ("_law_box" : Str), ("_law_take" : Str), ("_law_same" : Str), ("_law_full" : Str), ("_law_points" : Str), ("_law_weight" : Str), ("_law_mixed" : Str), ("_law_cubes" : Str), ("_law_inside" : Str), ("_law_closed_up" : Str), ("_law_by_weights" : Str), ("_law_by_terms" : Str), ("_law_by_parts" : Str), ("_law_drawn" : Str)] : List Str) ++ ([("_law_size" : Str), ("_law_falls" : Str), ("_law_monotone" : Str), ("_law_switched" : Str), ("_law_is_int" : Str), ("_law_threshold" : Str), ("_law_steps" : Str), ("_law_table" : Str), ("_law_mixed_right" : Str), ("_law_right" : Str)] : List Str)
theorem head_run (w : World) : HandSHeadRun.RunEq R (PySem.W.view R.prog [44]) Hk ob 4000 names w := by
  intro os
  kernel_rfl
theorem ends : PySem.W.WalkO (PySem.W.view R.prog [44]) names (PySem.W.XL (PySem.W.view R.prog [44]) []) Hk.says R.toRowW (HandSHeadRun.topDef R.prog 44) [] (fun f vs => PySem.call f vs) :=
  law_end (r := PySem.Challenge.rw_truthbench_k19_unate_functions) lOk (n := 16) (f := 42) (x := ("script" : Str)) rfl (by decide +kernel) (by kernel_rfl) (by decide) (by decide) rfl rfl law_run
end K19
open PySem PySem.W PySem.Calls PyProof.Rows
theorem PySem.Challenge.cw_truthbench_k19_unate_functions_holds : PySem.Challenge.rw_truthbench_k19_unate_functions.Holds := by
  w_on; o_law
  refine HandSHeadRun.head_any (r := OpenLaw.row PySem.Challenge.rw_truthbench_k19_unate_functions) (q := view (OpenLaw.row PySem.Challenge.rw_truthbench_k19_unate_functions).prog [44]) (H := K19.Hk) (ob := K19.ob) (M := 4000) (loose := K19.names) (d := HandSHeadRun.topDef (OpenLaw.row PySem.Challenge.rw_truthbench_k19_unate_functions).prog 44) (kwd := []) K19.ob_eq
    (by kernel_rfl) (fun s => by kernel_rfl) K19.head_run (by kernel_rfl) (by kernel_rfl) (by kernel_rfl) (by rfl) (by first | assumption | decide +kernel) (by decide +kernel) ⟨rfl, rfl, rfl, rfl, rfl, by decide +kernel⟩ ?hw ?hc
  case hw => w_witness2
  case hc => exact K19.ends
end SEnd
