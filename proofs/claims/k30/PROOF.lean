import PyProof.Rows.All
import Wide.All
import OpenK.AllK
import Wide.FinOn
import HandS.ForMost
import HandS.Exc
import HandS.TryOnly
import HandS.TryMany
import HandS.ExcInit
import HandS.ExcSuper
import HandS.CallSlots
import HandS.Zip
import HandS.Rev
import HandS.Conv
import HandS.IsInst
import HandS.Flow
import HandS.Style
import HandS.SortInts
import HandS.OwnEq
import HandS.Deep
import HandS.TupAny
import HandS.Walk
import HandS.WordsExc
import HandS.HeadEnd
import HandS.HeadHook4
import HandS.Head2
import KE.KTupSum
import HandS.TupMul
import HandS.Wide
import HandS.TupLe
import HandS.HeadWalk
import HandS.SetFor
import KE.GoesEnum
import KE.KExcSuper
import HandS.Nested
import PySem.Challenge.RW_codewhole_k30_whole_parts_of_a_whole
/-! The small language: data, syntax, evaluator. -/
set_option linter.all false
namespace CW

/-- data, as trees -/
inductive D where
  | non | bl (b : Bool) | int (i : Int) | str (s : String)
  | lst (l : List D) | tup (l : List D)
  | ins (c : String) (ns : List String) (vs : List D)
  | scr (l : List Int)
  deriving Inhabited

/-- a raised error: its class, what it was made with -/
structure Exn where
  cls : String
  arg : D

/-- how a call ends: the value or the error, the arguments as they stand behind it -/
inductive Rs where
  | ret (d : D) (outs : List D) | exc (x : Exn) (outs : List D) | no

/-- a slot of a def: free, frozen data, an owned list or instance (true: lent by the caller), one that is locked -/
inductive Sl where
  | un | va (d : D) | ow (b : Bool) (d : D) | lk (b : Bool) (d : D)

abbrev Env := List Sl

inductive Ev (α : Type) where
  | ok (a : α) (r : Env) | ex (x : Exn) (r : Env) | no

@[simp] def Ev.bind {α β : Type} : Ev α → (α → Env → Ev β) → Ev β
  | .ok a r, f => f a r
  | .ex x r, _ => .ex x r
  | .no, _ => .no

inductive Out where
  | nx (r : Env) | rt (d : D) (r : Env) | bk (r : Env) | ct (r : Env) | ex (x : Exn) (r : Env) | no

inductive P1 where
  | neg | notv | isN | notN | len | list | tuple | int | sum | sorted | any | all | max | min | abs | revs
  deriving DecidableEq

inductive P2 where
  | add | cat | sub | mul | rep | fdiv | mod | pow | eq | ne | lt | le | gt | ge | inn | nin | ix | max2 | min2 | isb | nisb | band | bxor
  deriving DecidableEq

/-- methods of lists that only look -/
inductive LM where
  | index | count
  deriving DecidableEq

inductive Ty where
  | int | bool | str | list | tuple | own (c : String)
  deriving DecidableEq

inductive Tg where
  | nm (i : Nat) | tp2 (a b : Tg) | tp3 (a b c : Tg)

mutual
inductive E where
  | var (i : Nat) | frz (i : Nat)
  | int (i : Int) | str (s : String) | bl (b : Bool) | non
  | cst (x : String) (i : Int)
  | op1 (p : P1) (a : E)
  | op2 (p : P2) (a b : E)
  | chain (p q : P2) (a b c : E)
  | bop (conj : Bool) (es : Es)
  | ite (c : T) (a b : E)
  | tup (es : Es) | lst (es : Es)
  | sl (nw : Bool) (a : E) (lo hi : Eo)
  | fld (cs : List String) (a : E) (f : String)
  | call (f : String) (ms : List Bool) (nw : Bool) (es : Es)
  | make (c : String) (ms : List Bool) (es : Es)
  | meth (cs : List String) (m : String) (ms : List Bool) (nw : Bool) (a : E) (es : Es)
  | lm (m : LM) (a b : E)
  | eqo (c : String) (ne : Bool) (a b : E)
  | isi (a : E) (t : Ty)
  | pop (i : Nat) | popAt (i : Nat) (a : E)
  | lrng (tp : Bool) (a b : E)
  | lc (elt : E) (g : Tg) (own : List Nat) (it : It) (cs : Ts)
inductive Es where
  | nil | cons (e : E) (es : Es)
inductive Eo where
  | none | some (e : E)
inductive T where
  | tr (e : E)
  | cmp (p : P2) (a b : E)
  | cmpN (ne : Bool) (a : E)
  | chain (p q : P2) (a b c : E)
  | not (t : T)
  | bop (conj : Bool) (ts : Ts)
  | eqo (c : String) (a b : E)
inductive Ts where
  | nil | cons (t : T) (ts : Ts)
inductive It where
  | seq (e : E) | live (i : Nat)
  | rng1 (a : E) | rng2 (a b : E) | rng3 (a b : E) (c : Int)
  | enum (e : E) | zip (a b : E) | rev (e : E)
end

mutual
inductive S where
  | set (i : Nat) (e : E) | setN (i : Nat) (e : E)
  | par (i j : Nat) (a b : E)
  | unp (g : Tg) (e : E)
  | setix (i : Nat) (k v : E)
  | swap (i : Nat) (k1 k2 v1 v2 : E)
  | setf (i : Nat) (cs : List String) (f : String) (e : E)
  | app (i : Nat) (e : E) | ext (i : Nat) (e : E) | ins0 (i : Nat) (e : E) | rvs (i : Nat)
  | exp (e : E)
  | ret (e : E) | retN (e : E) | ret0
  | ifs (c : T) (a b : Ss)
  | whl (c : T) (a : Ss)
  | for_ (g : Tg) (it : It) (a : Ss)
  | rse (c : String) (e : E)
  | try_ (i : Nat) (a : Ss) (hs : Hs)
  | pass | brk | cnt
inductive Ss where
  | nil | cons (s : S) (ss : Ss)
inductive Hs where
  | nil | cons (c : String) (e : E) (hs : Hs)
end

/-! ### data -/
def SZ : Nat := 16777216

/- data that equality takes, at most so deep -/
mutual
def dOk : Nat → D → Bool
  | _, .non => true | _, .bl _ => true | _, .int _ => true
  | _, .str _ => true
  | 0, .lst _ => false
  | n + 1, .lst l => dsOk n l
  | 0, .tup _ => false
  | n + 1, .tup l => dsOk n l
  | _, .ins _ _ _ => false
  | _, .scr _ => false
def dsOk : Nat → List D → Bool
  | _, [] => true
  | n, d :: ds => dOk n d && dsOk n ds
end

mutual
def deq : D → D → Bool
  | .non, .non => true
  | .bl a, .bl b => a == b
  | .bl a, .int j => (if a then 1 else 0) == j
  | .int i, .bl b => i == (if b then 1 else 0)
  | .int i, .int j => i == j
  | .str a, .str b => a == b
  | .lst a, .lst b => deqs a b
  | .tup a, .tup b => deqs a b
  | _, _ => false
def deqs : List D → List D → Bool
  | [], [] => true
  | x :: xs, y :: ys => deq x y && deqs xs ys
  | _, _ => false
end

def tru : D → Option Bool
  | .non => some false
  | .bl b => some b
  | .int i => some (i != 0)
  | .lst l => some (!l.isEmpty)
  | .tup l => some (!l.isEmpty)
  | _ => none

def isT : Ty → D → Option Bool
  | .int, .int _ => some true
  | .int, .bl _ => some true
  | .bool, .bl _ => some true
  | .str, .str _ => some true
  | .list, .lst _ => some true
  | .tuple, .tup _ => some true
  | .own c, .ins c' _ _ => if c == c' then some true else none
  | .own _, _ => none
  | _, .ins _ _ _ => none
  | _, .scr _ => none
  | _, _ => some false

def allInt : List D → Option (List Int)
  | [] => some []
  | .int i :: r => (allInt r).map (i :: ·)
  | _ => none
def allBl : List D → Option (List Bool)
  | [] => some []
  | .bl b :: r => (allBl r).map (b :: ·)
  | _ => none

def insI (x : Int) : List Int → List Int
  | [] => [x]
  | y :: r => if x ≤ y then x :: y :: r else y :: insI x r
def isort : List Int → List Int
  | [] => []
  | x :: r => insI x (isort r)

def maxL : List Int → Option Int
  | [] => none
  | x :: r => some (r.foldl (fun a b => if b > a then b else a) x)
def minL : List Int → Option Int
  | [] => none
  | x :: r => some (r.foldl (fun a b => if b < a then b else a) x)

/-- the place of an index -/
def ixAt (n : Nat) (i : Int) : Option Nat :=
  if 0 ≤ i then (if i < n then some i.toNat else none) else if -(n : Int) ≤ i then some (i + n).toNat else none

def seqOf : D → Option (List D)
  | .lst l => some l
  | .tup l => some l
  | _ => none

def sem1 : P1 → D → Option D
  | .neg, .int i => some (.int (-i))
  | .notv, d => (tru d).map fun b => .bl (!b)
  | .isN, .non => some (.bl true)
  | .isN, .scr _ => none
  | .isN, _ => some (.bl false)
  | .notN, .non => some (.bl false)
  | .notN, .scr _ => none
  | .notN, _ => some (.bl true)
  | .len, .lst l => some (.int l.length)
  | .len, .tup l => some (.int l.length)
  | .len, .scr l => some (.int l.length)
  | .list, .lst l => some (.lst l)
  | .list, .tup l => some (.lst l)
  | .tuple, .lst l => some (.tup l)
  | .tuple, .tup l => some (.tup l)
  | .int, .int i => some (.int i)
  | .int, .bl b => some (.int (if b then 1 else 0))
  | .sum, .lst l => (allInt l).map fun ns => .int ns.sum
  | .sum, .tup l => (allInt l).map fun ns => .int ns.sum
  | .sorted, .lst l => (allInt l).map fun ns => .lst ((isort ns).map .int)
  | .any, .lst l => (allBl l).map fun bs => .bl (bs.any id)
  | .all, .lst l => (allBl l).map fun bs => .bl (bs.all id)
  | .max, .lst l => (allInt l).bind fun ns => (maxL ns).map .int
  | .min, .lst l => (allInt l).bind fun ns => (minL ns).map .int
  | .abs, .int i => some (.int (if i < 0 then -i else i))
  | .revs, .lst l => some (.lst l.reverse)
  | _, _ => none

def B64 : Int := 18446744073709551616
def smallI (i : Int) : Bool := decide (-B64 < i) && decide (i < B64)

def sem2 : P2 → D → D → Option D
  | .add, .int i, .int j => some (.int (i + j))
  | .add, .lst a, .lst b => if a.length + b.length ≤ SZ then some (.lst (a ++ b)) else none
  | .cat, .lst a, .lst b => if a.length + b.length ≤ SZ then some (.lst (a ++ b)) else none
  | .add, .tup a, .tup b => if a.length + b.length ≤ SZ then some (.tup (a ++ b)) else none
  | .sub, .int i, .int j => some (.int (i - j))
  | .mul, .int i, .int j => if smallI i || smallI j || decide (i.natAbs.log2 + j.natAbs.log2 < 1000000) then some (.int (i * j)) else none
  | .mul, .tup a, .int k => if !a.isEmpty && decide (2 ≤ k) && decide (k ≤ 1000) && decide (a.length ≤ 1000) then some (.tup (List.replicate k.toNat a).flatten) else none
  | .rep, .lst a, .int k => if decide (-(2 ^ 63) ≤ k) && decide (k < 2 ^ 63) && decide (a.length * k.toNat ≤ SZ) then some (.lst (List.replicate k.toNat a).flatten) else none
  | .fdiv, .int i, .int j => if (decide (j ≠ 0) && decide (j.natAbs < 1073741824)) || (decide (0 < j) && decide (j.natAbs.log2 < 9000)) then some (.int (i.fdiv j)) else none
  | .mod, .int i, .int j => if j ≠ 0 then some (.int (i.fmod j)) else none
  | .pow, .int i, .int j => if decide (0 ≤ j) && decide (j ≤ 1000000) && decide (i.natAbs < 18446744073709551616) then some (.int (i ^ j.toNat)) else none
  | .eq, a, b => if dOk 40 a && dOk 40 b then some (.bl (deq a b)) else none
  | .ne, a, b => if dOk 40 a && dOk 40 b then some (.bl (!deq a b)) else none
  | .lt, .int i, .int j => some (.bl (decide (i < j)))
  | .le, .int i, .int j => some (.bl (decide (i ≤ j)))
  | .gt, .int i, .int j => some (.bl (decide (j < i)))
  | .ge, .int i, .int j => some (.bl (decide (j ≤ i)))
  | .inn, d, .lst l => if dOk 40 d && dsOk 40 l then some (.bl (l.any fun z => deq z d)) else none
  | .nin, d, .lst l => if dOk 40 d && dsOk 40 l then some (.bl (!l.any fun z => deq z d)) else none
  | .inn, d, .tup l => if dOk 40 d && dsOk 40 l then some (.bl (l.any fun z => deq z d)) else none
  | .nin, d, .tup l => if dOk 40 d && dsOk 40 l then some (.bl (!l.any fun z => deq z d)) else none
  | .ix, .lst l, .int i => (ixAt l.length i).bind fun k => l[k]?
  | .ix, .tup l, .int i => (ixAt l.length i).bind fun k => l[k]?
  | .ix, .scr l, .int i => ((ixAt l.length i).bind fun k => l[k]?).map .int
  | .max2, .int i, .int j => some (.int (if j > i then j else i))
  | .min2, .int i, .int j => some (.int (if j < i then j else i))
  | .isb, .bl a, .bl b => some (.bl (a == b))
  | .nisb, .bl a, .bl b => some (.bl (!(a == b)))
  | .band, .int i, .int j => if decide (0 ≤ i) && decide (0 ≤ j) then some (.int ((i.toNat &&& j.toNat : Nat) : Int)) else none
  | .bxor, .int i, .int j => if decide (0 ≤ i) && decide (0 ≤ j) then some (.int (((i.toNat ||| j.toNat : Nat) : Int) - ((i.toNat &&& j.toNat : Nat) : Int))) else none
  | _, _, _ => none

def semLm : LM → D → D → Option D
  | .index, .lst l, d => if dOk 40 d && dsOk 40 l then (l.findIdx? fun z => deq z d).map fun j => .int (j : Nat) else none
  | .count, .lst l, .int k => (allInt l).map fun ns => .int (ns.count k : Nat)
  | _, _, _ => none
def isLstD : Option D → Bool
  | some (.lst _) => true
  | _ => false

/-- Python's bound of a slice -/
def cutIx (n d : Nat) : Option Int → Nat
  | none => d
  | some v => if v < 0 then (v + (n : Int)).toNat else min v.toNat n
def cutL (l : List D) (lo hi : Option Int) : List D :=
  (l.drop (cutIx l.length 0 lo)).take (cutIx l.length l.length hi - cutIx l.length 0 lo)
def semSl : Bool → D → Option Int → Option Int → Option D
  | _, .lst l, lo, hi => some (.lst (cutL l lo hi))
  | false, .tup l, lo, hi => some (.tup (cutL l lo hi))
  | _, _, _, _ => none

def fldOf : String → List String → List D → Option D
  | f, g :: ns, v :: vs => if f == g then some v else fldOf f ns vs
  | _, _, _ => none

/-! ### slots -/
def get : Env → Nat → Sl
  | [], _ => .un
  | s :: _, 0 => s
  | _ :: r, n + 1 => get r n
def put : Env → Nat → Sl → Env
  | [], _, _ => []
  | _ :: r, 0, s => s :: r
  | x :: r, n + 1, s => x :: put r n s
def puts : Env → List Nat → Env
  | r, [] => r
  | r, i :: is => put (puts r is) i .un
/-- the slots of own, as they stood -/
def back (r0 r : Env) : List Nat → Env
  | [] => r
  | i :: is => put (back r0 r is) i (get r0 i)

/-- may a name be bound anew there -/
def free : Sl → Bool
  | .un => true | .va _ => true | .ow b _ => !b | .lk _ _ => false

def setTg : Tg → D → Env → Option Env
  | .nm i, d, r => if free (get r i) then some (put r i (.va d)) else none
  | .tp2 a b, .tup [x, y], r => (setTg a x r).bind (setTg b y)
  | .tp3 a b c, .tup [x, y, z], r => ((setTg a x r).bind (setTg b y)).bind (setTg c z)
  | _, _, _ => none

/-- an owned list -/
def isLs : Sl → Bool
  | .ow _ (.lst _) => true
  | _ => false

/-! ### expressions -/
abbrev CF := String → List D → Rs

inductive Ar where
  | v (d : D) | r (i : Nat) | t (d : D)
def arD (ρ : Env) : Ar → Option D
  | .v d => some d
  | .t d => some d
  | .r i => match get ρ i with
    | .ow _ d => some d
    | _ => none
def arDs (ρ : Env) : List Ar → Option (List D)
  | [] => some []
  | a :: r => (arD ρ a).bind fun d => (arDs ρ r).map (d :: ·)
def refs : List Ar → List Nat
  | [] => []
  | .r i :: l => i :: refs l
  | _ :: l => refs l
def outTo : List Ar → List D → Env → Option Env
  | [], [], ρ => some ρ
  | .r i :: l, d :: ds, ρ => match get ρ i with
    | .ow b _ => outTo l ds (put ρ i (.ow b d))
    | _ => none
  | _ :: l, _ :: ds, ρ => outTo l ds ρ
  | _, _, _ => none
def nodupN : List Nat → Bool
  | [] => true
  | i :: l => !(l.contains i) && nodupN l

def callA (cf : CF) (f : String) (as : List Ar) (ρ : Env) : Ev D :=
  match nodupN (refs as), arDs ρ as with
  | true, some ds => match cf f ds with
    | .ret d outs => match outTo as outs ρ with
      | some ρ' => .ok d ρ'
      | none => .no
    | .exc x outs => match outTo as outs ρ with
      | some ρ' => .ex x ρ'
      | none => .no
    | .no => .no
  | _, _ => .no

/-- an operand that is only looked at: a value, or a slot that is read when it is needed -/
def pk (a : E) (ρ : Env) (r : Ev D) : Ev Ar :=
  match a with
  | .var i => match get ρ i with
    | .va d => .ok (.v d) ρ
    | .ow _ _ => .ok (.r i) ρ
    | .lk _ _ => .ok (.r i) ρ
    | .un => .no
  | _ => r.bind fun d ρ1 => .ok (.v d) ρ1
def drf (ρ : Env) : Ar → Option D
  | .v d => some d
  | .t d => some d
  | .r i => match get ρ i with
    | .va d => some d
    | .ow _ d => some d
    | .lk _ d => some d
    | .un => none
def sem1R (p : P1) (ρ : Env) (a : Ar) : Option D := (drf ρ a).bind (sem1 p)
def sem2R (p : P2) (ρ : Env) (a b : Ar) : Option D := (drf ρ a).bind fun x => (drf ρ b).bind fun y => sem2 p x y
/-- an argument; one that is lent is a name -/
def arg (m : Bool) (a : E) (ρ : Env) (r : Ev D) : Ev Ar :=
  match m with
  | false => r.bind fun d ρ1 => .ok (.v d) ρ1
  | true => match a with
    | .var i => (match get ρ i with
      | .ow _ _ => .ok (.r i) ρ
      | _ => .no)
    | _ => r.bind fun d ρ1 => .ok (.t d) ρ1
def Ev.of {α : Type} (ρ : Env) : Option α → Ev α
  | some a => .ok a ρ
  | none => .no

def rangeL (a b : Int) : List D := (List.range (b - a).toNat).map fun i => D.int (a + (i : Nat))
def B62 : Int := 4611686018427387904
def okR (a b : Int) : Bool := decide (-B62 ≤ a) && decide (a < B62) && decide (-B62 ≤ b) && decide (b < B62)
/-- how many turns a range with a step has -/
def turnsR (a b c : Int) : Nat := if 0 < c then ((b - a + c - 1) / c).toNat else ((a - b - c - 1) / (-c)).toNat
def range3L (a b c : Int) : List D := (List.range (turnsR a b c)).map fun i => D.int (a + (i : Nat) * c)
def zipD : List D → List D → List D
  | x :: xs, y :: ys => .tup [x, y] :: zipD xs ys
  | _, _ => []
def enumD (k : Nat) : List D → List D
  | [] => []
  | x :: xs => .tup [.int (k : Nat), x] :: enumD (k + 1) xs

/-- a walk: the items, and what is locked meanwhile -/
structure Wk where
  items : List D
  lock : Option Nat
def lockW (ρ : Env) : Option Nat → Env
  | none => ρ
  | some i => match get ρ i with
    | .ow b d => put ρ i (.lk b d)
    | _ => ρ
def unlockW (ρ : Env) : Option Nat → Env
  | none => ρ
  | some i => match get ρ i with
    | .lk b d => put ρ i (.ow b d)
    | _ => ρ

/-- a comprehension's turns -/
def lcLoop (g : Tg) (own : List Nat) (cond : Env → Ev Bool) (elt : Env → Ev D) : List D → Env → List D → Ev (List D)
  | [], ρ, acc => .ok acc ρ
  | d :: ds, ρ, acc => match setTg g d (puts ρ own) with
    | none => .no
    | some ρ1 => match cond ρ1 with
      | .ok true ρ2 => (match elt ρ2 with
        | .ok y ρ3 => if acc.length < SZ then lcLoop g own cond elt ds ρ3 (acc ++ [y]) else .no
        | _ => .no)
      | .ok false ρ2 => lcLoop g own cond elt ds ρ2 acc
      | _ => .no

/-- == of own instances -/
def eqoR (cf : CF) (c : String) (ne : Bool) (x y : D) (ρ : Env) : Ev D := match x, y with
  | .ins c1 n1 v1, .ins c2 n2 v2 => if c1 == c && c2 == c then (match cf (c ++ ".__eq__") [.ins c1 n1 v1, .ins c2 n2 v2] with
    | .ret (.bl k) _ => .ok (.bl (k != ne)) ρ
    | _ => .no) else .no
  | _, _ => .no
def toB (d : D) (ρ : Env) : Ev Bool := match d with
  | .bl k => .ok k ρ
  | _ => .no

mutual
def evE (cf : CF) : E → Env → Ev D
  | .var i, ρ => match get ρ i with
    | .va d => .ok d ρ
    | _ => .no
  | .frz i, ρ => match get ρ i with
    | .va d => .ok d ρ
    | .ow false d => .ok d (put ρ i (.va d))
    | _ => .no
  | .int i, ρ => .ok (.int i) ρ
  | .str s, ρ => .ok (.str s) ρ
  | .bl b, ρ => .ok (.bl b) ρ
  | .non, ρ => .ok .non ρ
  | .cst _ i, ρ => .ok (.int i) ρ
  | .op1 p a, ρ => (pk a ρ (evE cf a ρ)).bind fun x ρ1 => .of ρ1 (sem1R p ρ1 x)
  | .op2 p a b, ρ => (pk a ρ (evE cf a ρ)).bind fun x ρ1 => (pk b ρ1 (evE cf b ρ1)).bind fun y ρ2 => .of ρ2 (sem2R p ρ2 x y)
  | .chain p q a b c, ρ => (pk a ρ (evE cf a ρ)).bind fun x ρ1 => (pk b ρ1 (evE cf b ρ1)).bind fun y ρ2 => match sem2R p ρ2 x y with
    | some (.bl true) => (pk c ρ2 (evE cf c ρ2)).bind fun z ρ3 => .of ρ3 (sem2R q ρ3 y z)
    | some (.bl false) => .ok (.bl false) ρ2
    | _ => .no
  | .bop k es, ρ => evB cf k es ρ
  | .ite c a b, ρ => (evT cf c ρ).bind fun k ρ1 => if k = true then evE cf a ρ1 else evE cf b ρ1
  | .tup es, ρ => (evEs cf es ρ).bind fun ds ρ1 => if ds.length ≤ SZ then .ok (.tup ds) ρ1 else .no
  | .lst es, ρ => (evEs cf es ρ).bind fun ds ρ1 => if ds.length ≤ SZ then .ok (.lst ds) ρ1 else .no
  | .sl nw a lo hi, ρ => (pk a ρ (evE cf a ρ)).bind fun x ρ1 => (evO cf lo ρ1).bind fun l ρ2 => (evO cf hi ρ2).bind fun h ρ3 => .of ρ3 ((drf ρ3 x).bind fun d => semSl nw d l h)
  | .fld cs a f, ρ => (pk a ρ (evE cf a ρ)).bind fun x ρ1 => match drf ρ1 x with
    | some (.ins c ns vs) => if cs.contains c then .of ρ1 (fldOf f ns vs) else .no
    | _ => .no
  | .call f ms _ es, ρ => (evAs cf ms es ρ).bind fun as ρ1 => callA cf f as ρ1
  | .make c ms es, ρ => (evAs cf ms es ρ).bind fun as ρ1 => match nodupN (refs as), arDs ρ1 as with
    | true, some ds => (match cf (c ++ ".__init__") (.ins c [] [] :: ds) with
      | .ret .non (o :: outs) => (match outTo as outs ρ1 with
        | some ρ2 => .ok o ρ2
        | none => .no)
      | .exc x (_ :: outs) => (match outTo as outs ρ1 with
        | some ρ2 => .ex x ρ2
        | none => .no)
      | _ => .no)
    | _, _ => .no
  | .meth cs m ms _ a es, ρ => (arg (ms.headD false) a ρ (evE cf a ρ)).bind fun o ρ1 => (match arD ρ1 o with
    | some (.ins c ns _) => if cs.contains c && !ns.contains m then (evAs cf ms.tail es ρ1).bind fun as ρ2 => callA cf (c ++ "." ++ m) (o :: as) ρ2 else .no
    | _ => .no)
  | .lm m a b, ρ => (pk a ρ (evE cf a ρ)).bind fun x ρ1 => if isLstD (drf ρ1 x) = true then (pk b ρ1 (evE cf b ρ1)).bind fun y ρ2 => .of ρ2 ((drf ρ2 x).bind fun d => (drf ρ2 y).bind fun e => semLm m d e) else .no
  | .eqo c ne a b, ρ => (evE cf a ρ).bind fun x ρ1 => (evE cf b ρ1).bind fun y ρ2 => eqoR cf c ne x y ρ2
  | .isi a t, ρ => (pk a ρ (evE cf a ρ)).bind fun x ρ1 => .of ρ1 ((drf ρ1 x).bind fun d => (isT t d).map .bl)
  | .pop i, ρ => match get ρ i with
    | .ow b (.lst l) => (match l.getLast? with
      | some y => .ok y (put ρ i (.ow b (.lst l.dropLast)))
      | none => .no)
    | _ => .no
  | .popAt i a, ρ => if isLs (get ρ i) then (evE cf a ρ).bind fun x ρ1 => match get ρ1 i, x with
    | .ow b (.lst l), .int k => (match (if l.length ≤ SZ then ixAt l.length k else none) with
      | some j => (match l[j]? with
        | some y => .ok y (put ρ1 i (.ow b (.lst (l.eraseIdx j))))
        | none => .no)
      | none => .no)
    | _, _ => .no
    else .no
  | .lrng tp a b, ρ => (evE cf a ρ).bind fun x ρ1 => (evE cf b ρ1).bind fun y ρ2 => match x, y with
    | .int i, .int j => if okR i j && decide ((j - i).toNat ≤ SZ) then .ok (if tp then .tup (rangeL i j) else .lst (rangeL i j)) ρ2 else .no
    | _, _ => .no
  | .lc elt g own it cs, ρ => (evI cf it ρ).bind fun w ρ1 =>
      (lcLoop g own (evTs cf true cs) (evE cf elt) w.items (lockW ρ1 w.lock) []).bind fun ds ρ2 => .ok (.lst ds) (unlockW (back (lockW ρ1 w.lock) ρ2 own) w.lock)
def evEs (cf : CF) : Es → Env → Ev (List D)
  | .nil, ρ => .ok [] ρ
  | .cons e es, ρ => (evE cf e ρ).bind fun d ρ1 => (evEs cf es ρ1).bind fun ds ρ2 => .ok (d :: ds) ρ2
def evO (cf : CF) : Eo → Env → Ev (Option Int)
  | .none, ρ => .ok none ρ
  | .some e, ρ => (evE cf e ρ).bind fun d ρ1 => match d with
    | .int i => .ok (some i) ρ1
    | _ => .no
def evAs (cf : CF) : List Bool → Es → Env → Ev (List Ar)
  | [], .nil, ρ => .ok [] ρ
  | m :: ms, .cons e es, ρ => (arg m e ρ (evE cf e ρ)).bind fun a ρ1 => (evAs cf ms es ρ1).bind fun as ρ2 => .ok (a :: as) ρ2
  | _, _, _ => .no
def evB (cf : CF) : Bool → Es → Env → Ev D
  | _, .nil, _ => .no
  | k, .cons e es, ρ => match es with
    | .nil => evE cf e ρ
    | _ => (evE cf e ρ).bind fun d ρ1 => match d with
      | .bl b => if b = k then evB cf k es ρ1 else .ok (.bl b) ρ1
      | _ => .no
def evT (cf : CF) : T → Env → Ev Bool
  | .tr e, ρ => (pk e ρ (evE cf e ρ)).bind fun x ρ1 => .of ρ1 ((drf ρ1 x).bind tru)
  | .cmp p a b, ρ => (pk a ρ (evE cf a ρ)).bind fun x ρ1 => (pk b ρ1 (evE cf b ρ1)).bind fun y ρ2 => match sem2R p ρ2 x y with
    | some (.bl k) => .ok k ρ2
    | _ => .no
  | .cmpN ne a, ρ => (pk a ρ (evE cf a ρ)).bind fun x ρ1 => match sem1R (if ne then .notN else .isN) ρ1 x with
    | some (.bl k) => .ok k ρ1
    | _ => .no
  | .chain p q a b c, ρ => (pk a ρ (evE cf a ρ)).bind fun x ρ1 => (pk b ρ1 (evE cf b ρ1)).bind fun y ρ2 => match sem2R p ρ2 x y with
    | some (.bl true) => (pk c ρ2 (evE cf c ρ2)).bind fun z ρ3 => (match sem2R q ρ3 y z with
      | some (.bl k) => .ok k ρ3
      | _ => .no)
    | some (.bl false) => .ok false ρ2
    | _ => .no
  | .not t, ρ => (evT cf t ρ).bind fun k ρ1 => .ok (!k) ρ1
  | .bop k ts, ρ => evTs cf k ts ρ
  | .eqo c a b, ρ => ((evE cf a ρ).bind fun x ρ1 => (evE cf b ρ1).bind fun y ρ2 => eqoR cf c false x y ρ2).bind fun d ρ3 => toB d ρ3
/-- tests one behind the other: all of them (true), any of them (false) -/
def evTs (cf : CF) : Bool → Ts → Env → Ev Bool
  | k, .nil, ρ => .ok k ρ
  | k, .cons t ts, ρ => (evT cf t ρ).bind fun b ρ1 => if b = k then evTs cf k ts ρ1 else .ok b ρ1
def evI (cf : CF) : It → Env → Ev Wk
  | .seq e, ρ => (evE cf e ρ).bind fun d ρ1 => match d with
    | .lst l => .ok ⟨l, none⟩ ρ1
    | .tup l => .ok ⟨l, none⟩ ρ1
    | .scr l => .ok ⟨l.map .int, none⟩ ρ1
    | _ => .no
  | .live i, ρ => match get ρ i with
    | .va (.lst l) => .ok ⟨l, none⟩ ρ
    | .va (.tup l) => .ok ⟨l, none⟩ ρ
    | .ow _ (.lst l) => .ok ⟨l, some i⟩ ρ
    | _ => .no
  | .rng1 a, ρ => (evE cf a ρ).bind fun x ρ1 => match x with
    | .int j => if okR 0 j then .ok ⟨rangeL 0 j, none⟩ ρ1 else .no
    | _ => .no
  | .rng2 a b, ρ => (evE cf a ρ).bind fun x ρ1 => (evE cf b ρ1).bind fun y ρ2 => match x, y with
    | .int i, .int j => if okR i j then .ok ⟨rangeL i j, none⟩ ρ2 else .no
    | _, _ => .no
  | .rng3 a b c, ρ => (evE cf a ρ).bind fun x ρ1 => (evE cf b ρ1).bind fun y ρ2 => match x, y with
    | .int i, .int j => if okR i j then .ok ⟨range3L i j c, none⟩ ρ2 else .no
    | _, _ => .no
  | .enum e, ρ => (evE cf e ρ).bind fun d ρ1 => match seqOf d with
    | some l => .ok ⟨enumD 0 l, none⟩ ρ1
    | none => .no
  | .zip a b, ρ => (evE cf a ρ).bind fun x ρ1 => (evE cf b ρ1).bind fun y ρ2 => match seqOf x, seqOf y with
    | some l, some m => .ok ⟨zipD l m, none⟩ ρ2
    | _, _ => .no
  | .rev e, ρ => (evE cf e ρ).bind fun d ρ1 => match seqOf d with
    | some l => .ok ⟨l.reverse, none⟩ ρ1
    | none => .no
end

/-! ### statements -/
def Ev.out {α : Type} (m : Ev α) (f : α → Env → Out) : Out :=
  match m with
  | .ok a r => f a r
  | .ex x r => .ex x r
  | .no => .no
def Out.ofO : Option Env → Out
  | some r => .nx r
  | none => .no
/-- how many turns a while may have -/
def WF : Nat := 1000000000

def forLoop (g : Tg) (body : Env → Out) : List D → Env → Out
  | [], ρ => .nx ρ
  | d :: ds, ρ => match setTg g d ρ with
    | none => .no
    | some ρ1 => match body ρ1 with
      | .nx ρ2 => forLoop g body ds ρ2
      | .ct ρ2 => forLoop g body ds ρ2
      | .bk ρ2 => .nx ρ2
      | o => o
def whileLoop (c : Env → Ev Bool) (body : Env → Out) : Nat → Env → Out
  | 0, _ => .no
  | n + 1, ρ => (c ρ).out fun k ρ1 => if k = true then (match body ρ1 with
      | .nx ρ2 => whileLoop c body n ρ2
      | .ct ρ2 => whileLoop c body n ρ2
      | .bk ρ2 => .nx ρ2
      | o => o) else .nx ρ1
def Out.mapR (f : Env → Env) : Out → Out
  | .nx r => .nx (f r)
  | .rt d r => .rt d (f r)
  | .bk r => .bk (f r)
  | .ct r => .ct (f r)
  | .ex x r => .ex x (f r)
  | .no => .no

/-- which classes are caught by which -/
structure Ex where
  cls : List String
  sub : String → String → Bool

def evH (cf : CF) (X : Ex) (x : Exn) : Hs → Env → Out
  | .nil, ρ => .ex x ρ
  | .cons c e hs, ρ => if X.sub x.cls c then (evE cf e ρ).out fun d ρ1 => .rt d ρ1 else evH cf X x hs ρ

def setL (l : List D) (k : Int) (v : D) : Option (List D) := (ixAt l.length k).map fun j => l.set j v
def putF (f : String) (v : D) : List String → List D → List String × List D
  | g :: ns, x :: vs => if f == g then (g :: ns, v :: vs) else (g :: (putF f v ns vs).1, x :: (putF f v ns vs).2)
  | ns, vs => (ns ++ [f], vs ++ [v])

mutual
def evS (cf : CF) (X : Ex) : S → Env → Out
  | .set i e, ρ => (evE cf e ρ).out fun d ρ1 => if free (get ρ1 i) then .nx (put ρ1 i (.va d)) else .no
  | .setN i e, ρ => (evE cf e ρ).out fun d ρ1 => if free (get ρ1 i) then .nx (put ρ1 i (.ow false d)) else .no
  | .par i j a b, ρ => (evE cf a ρ).out fun x ρ1 => (evE cf b ρ1).out fun y ρ2 => if free (get ρ2 i) && free (get ρ2 j) then .nx (put (put ρ2 i (.va x)) j (.va y)) else .no
  | .unp g e, ρ => (evE cf e ρ).out fun d ρ1 => .ofO (setTg g d ρ1)
  | .setix i k v, ρ => (evE cf v ρ).out fun y ρ1 => if isLs (get ρ1 i) then (evE cf k ρ1).out fun x ρ2 => (match get ρ2 i, x with
    | .ow b (.lst l), .int n => .ofO ((setL l n y).map fun l' => put ρ2 i (.ow b (.lst l')))
    | _, _ => .no) else .no
  | .swap i k1 k2 v1 v2, ρ => (evE cf v1 ρ).out fun y1 ρ1 => (evE cf v2 ρ1).out fun y2 ρ2 => if isLs (get ρ2 i) then (evE cf k1 ρ2).out fun x1 ρ3 => (match get ρ3 i, x1 with
    | .ow b (.lst l), .int n => (match setL l n y1 with
      | some l1 => (evE cf k2 (put ρ3 i (.ow b (.lst l1)))).out fun x2 ρ4 => (match get ρ4 i, x2 with
        | .ow b (.lst l), .int m => .ofO ((setL l m y2).map fun l' => put ρ4 i (.ow b (.lst l')))
        | _, _ => .no)
      | none => .no)
    | _, _ => .no) else .no
  | .setf i cs f e, ρ => (evE cf e ρ).out fun d ρ1 => (match get ρ1 i with
    | .ow b (.ins c ns vs) => if cs.contains c && decide (ns.length < 1000) && decide (ns.length = vs.length) then .nx (put ρ1 i (.ow b (.ins c (putF f d ns vs).1 (putF f d ns vs).2))) else .no
    | _ => .no)
  | .app i e, ρ => if isLs (get ρ i) then (evE cf e ρ).out fun d ρ1 => (match get ρ1 i with
    | .ow b (.lst l) => if l.length < SZ then .nx (put ρ1 i (.ow b (.lst (l ++ [d])))) else .no
    | _ => .no) else .no
  | .ext i e, ρ => if isLs (get ρ i) then (evE cf e ρ).out fun d ρ1 => (match get ρ1 i, d with
    | .ow b (.lst l), .lst m => if l.length + m.length ≤ SZ then .nx (put ρ1 i (.ow b (.lst (l ++ m)))) else .no
    | _, _ => .no) else .no
  | .ins0 i e, ρ => if isLs (get ρ i) then (evE cf e ρ).out fun d ρ1 => (match get ρ1 i with
    | .ow b (.lst l) => if l.length < SZ then .nx (put ρ1 i (.ow b (.lst (d :: l)))) else .no
    | _ => .no) else .no
  | .rvs i, ρ => (match get ρ i with
    | .ow b (.lst l) => .nx (put ρ i (.ow b (.lst l.reverse)))
    | _ => .no)
  | .exp e, ρ => (evE cf e ρ).out fun _ ρ1 => .nx ρ1
  | .ret e, ρ => (evE cf e ρ).out fun d ρ1 => .rt d ρ1
  | .retN e, ρ => (match e with
    | .var i => (match get ρ i with
      | .ow false d => .rt d (put ρ i .un)
      | _ => .no)
    | _ => (evE cf e ρ).out fun d ρ1 => .rt d ρ1)
  | .ret0, ρ => .rt .non ρ
  | .ifs c a b, ρ => (evT cf c ρ).out fun k ρ1 => if k = true then evSs cf X a ρ1 else evSs cf X b ρ1
  | .whl c a, ρ => whileLoop (evT cf c) (evSs cf X a) WF ρ
  | .for_ g it a, ρ => (evI cf it ρ).out fun w ρ1 => (forLoop g (evSs cf X a) w.items (lockW ρ1 w.lock)).mapR fun r => unlockW r w.lock
  | .rse c e, ρ => (evE cf e ρ).out fun d ρ1 => .ex ⟨c, d⟩ ρ1
  | .try_ i a hs, ρ => match evSs cf X a ρ with
    | .ex x ρ1 => if X.cls.contains x.cls && free (get ρ1 i) then evH cf X x hs (put ρ1 i .un) else .no
    | o => o
  | .pass, ρ => .nx ρ
  | .brk, ρ => .bk ρ
  | .cnt, ρ => .ct ρ
def evSs (cf : CF) (X : Ex) : Ss → Env → Out
  | .nil, ρ => .nx ρ
  | .cons s ss, ρ => match evS cf X s ρ with
    | .nx ρ1 => evSs cf X ss ρ1
    | o => o
end

/-! ### defs -/
structure Fd where
  name : String
  cls : Option String
  fn : String
  N : List String
  ms : List Bool
  nw : Bool
  body : Ss

def initE : List Bool → List D → Option Env
  | [], [] => some []
  | m :: ms, d :: ds => (initE ms ds).map ((if m then Sl.ow true d else Sl.va d) :: ·)
  | _, _ => none
def outsE : List Bool → List D → Env → Option (List D)
  | [], [], _ => some []
  | false :: ms, d :: ds, _ :: r => (outsE ms ds r).map (d :: ·)
  | true :: ms, _ :: ds, .ow true d :: r => (outsE ms ds r).map (d :: ·)
  | _, _, _ => none
def runF (cf : CF) (X : Ex) (f : Fd) (ds : List D) : Rs :=
  match initE f.ms ds with
  | none => .no
  | some ρ0 => match evSs cf X f.body (ρ0 ++ List.replicate (f.N.length - f.ms.length) .un) with
    | .nx r => (match outsE f.ms ds r with
      | some o => if f.nw then .no else .ret .non o
      | none => .no)
    | .rt d r => (match outsE f.ms ds r with
      | some o => .ret d o
      | none => .no)
    | .ex x r => (match outsE f.ms ds r with
      | some o => .exc x o
      | none => .no)
    | _ => .no
def findF (P : List Fd) (x : String) : Option Fd :=
  match P with
  | [] => none
  | f :: r => if f.name == x then some f else findF r x
def callF (P : List Fd) (X : Ex) : Nat → CF
  | 0, _, _ => .no
  | n + 1, x, ds => match findF P x with
    | some f => runF (callF P X n) X f ds
    | none => .no
end CW

set_option Elab.async false
set_option linter.all false
set_option maxRecDepth 100000
/-! What the small language's states have to do with the layer's heaps. -/
namespace CW
open PySem PySem.Spec PyProof.Rows L2

/-- a text as the model has it -/
def enc (s : String) : Str := ⟨(s.toList.map Char.toNat).toArray⟩
theorem enc_inj {a b : String} (h : enc a = enc b) : a = b := by
  have h1 : (a.toList.map Char.toNat) = (b.toList.map Char.toNat) := by
    have := congrArg (fun s => s.cps.toList) h
    simpa [enc] using this
  have inj : ∀ x y : Char, x.toNat = y.toNat → x = y := fun x y e => by
    have : x.val.toNat = y.val.toNat := e
    exact Char.ext (UInt32.toNat.inj this)
  exact String.toList_inj.mp ((List.map_inj_right inj).mp h1)

/-- the class of a name -/
def clsA (K : PySem.W.Frag) (c : String) : Addr := He.ga K (enc c)

mutual
inductive Rep (K : PySem.W.Frag) (G : Hp) : V → D → Prop
  | non : Rep K G .non .non
  | bl (b : Bool) : Rep K G (.bl b) (.bl b)
  | int (i : Int) : Rep K G (.int i) (.int i)
  | str (s : String) : Rep K G (.str (enc s)) (.str s)
  | lst {a : Addr} {vs : List V} {ds : List D} : G a = some (.lst vs) → Reps K G vs ds → Rep K G (.ref a) (.lst ds)
  | tup {a : Addr} {vs : List V} {ds : List D} : G a = some (.tup vs) → Reps K G vs ds → Rep K G (.ref a) (.tup ds)
  | ins {a dx : Addr} {fs : List (Str × V)} {c : String} {ns : List String} {ds : List D} : G a = some (.ins (clsA K c) dx fs) → fs.map (·.1) = ns.map enc → Reps K G (fs.map (·.2)) ds → Rep K G (.ref a) (.ins c ns ds)
  | scr {a : Addr} {is : List Int} : SqL K G a (is.map V.int) → Rep K G (.ref a) (.scr is)
inductive Reps (K : PySem.W.Frag) (G : Hp) : List V → List D → Prop
  | nil : Reps K G [] []
  | cons {v : V} {vs : List V} {d : D} {ds : List D} : Rep K G v d → Reps K G vs ds → Reps K G (v :: vs) (d :: ds)
end

section
variable {K : PySem.W.Frag} {G G' H H' : Hp}
mutual
theorem Rep.mono (s : Same G G') : ∀ {v : V} {d : D}, Rep K G v d → Rep K G' v d
  | _, _, .non => .non
  | _, _, .bl b => .bl b
  | _, _, .int i => .int i
  | _, _, .str x => .str x
  | _, _, .lst h r => .lst (s _ _ h) (Reps.mono s r)
  | _, _, .tup h r => .tup (s _ _ h) (Reps.mono s r)
  | _, _, .ins h e r => .ins (s _ _ h) e (Reps.mono s r)
  | _, _, .scr h => .scr (s.seq h)
theorem Reps.mono (s : Same G G') : ∀ {vs : List V} {ds : List D}, Reps K G vs ds → Reps K G' vs ds
  | _, _, .nil => .nil
  | _, _, .cons h r => .cons (Rep.mono s h) (Reps.mono s r)
end
theorem Reps.length : ∀ {vs : List V} {ds : List D}, Reps K G vs ds → vs.length = ds.length
  | _, _, .nil => rfl
  | _, _, .cons _ r => congrArg Nat.succ (Reps.length r)
theorem Reps.append : ∀ {vs ws : List V} {ds es : List D}, Reps K G vs ds → Reps K G ws es → Reps K G (vs ++ ws) (ds ++ es)
  | _, _, _, _, .nil, r => r
  | _, _, _, _, .cons h q, r => .cons h (Reps.append q r)
theorem Reps.get : ∀ {vs : List V} {ds : List D} {i : Nat} {d : D}, Reps K G vs ds → ds[i]? = some d → ∃ v, vs[i]? = some v ∧ Rep K G v d
  | _, _, _, _, .nil, e => by simp at e
  | _, _, 0, _, .cons h _, e => ⟨_, rfl, by simp at e; subst e; exact h⟩
  | _, _, i + 1, _, .cons _ r, e => by
    obtain ⟨v, a, b⟩ := Reps.get (i := i) r (by simpa using e)
    exact ⟨v, by simpa using a, b⟩
theorem Reps.set : ∀ {vs : List V} {ds : List D} (i : Nat) {v : V} {d : D}, Reps K G vs ds → Rep K G v d → Reps K G (vs.set i v) (ds.set i d)
  | _, _, _, _, _, .nil, _ => .nil
  | _, _, 0, _, _, .cons _ r, h => .cons h r
  | _, _, i + 1, _, _, .cons q r, h => .cons q (Reps.set i r h)
theorem Reps.take : ∀ {vs : List V} {ds : List D} (n : Nat), Reps K G vs ds → Reps K G (vs.take n) (ds.take n)
  | _, _, 0, _ => .nil
  | _, _, _ + 1, .nil => .nil
  | _, _, n + 1, .cons h r => .cons h (Reps.take n r)
theorem Reps.drop : ∀ {vs : List V} {ds : List D} (n : Nat), Reps K G vs ds → Reps K G (vs.drop n) (ds.drop n)
  | _, _, 0, r => r
  | _, _, _ + 1, .nil => .nil
  | _, _, n + 1, .cons _ r => Reps.drop n r
theorem Reps.erase : ∀ {vs : List V} {ds : List D} (n : Nat), Reps K G vs ds → Reps K G (vs.eraseIdx n) (ds.eraseIdx n)
  | _, _, _, .nil => .nil
  | _, _, 0, .cons _ r => r
  | _, _, n + 1, .cons h r => .cons h (Reps.erase n r)
theorem Reps.one {v : V} {d : D} (h : Rep K G v d) : Reps K G [v] [d] := .cons h .nil
theorem Reps.reverse {vs : List V} {ds : List D} (r : Reps K G vs ds) : Reps K G vs.reverse ds.reverse := by
  induction vs generalizing ds with
  | nil => cases r; exact .nil
  | cons v vs ih =>
    cases r with
    | cons h r =>
      rw [List.reverse_cons, List.reverse_cons]
      exact Reps.append (ih r) (.one h)
theorem Reps.rep {vs : List V} {ds : List D} (r : Reps K G vs ds) : ∀ k : Nat, Reps K G (List.replicate k vs).flatten (List.replicate k ds).flatten
  | 0 => .nil
  | k + 1 => by
    rw [List.replicate_succ, List.replicate_succ, List.flatten_cons, List.flatten_cons]
    exact Reps.append r (Reps.rep r k)
theorem Reps.ints : ∀ {is : List Int}, Reps K G (is.map V.int) (is.map D.int)
  | [] => .nil
  | i :: r => .cons (.int i) (Reps.ints (is := r))
theorem Reps.allInt : ∀ {vs : List V} {ds : List D} {ns : List Int}, Reps K G vs ds → allInt ds = some ns → vs = ns.map V.int
  | _, _, ns, .nil, e => by
    have : ns = [] := (Option.some.inj e).symm
    subst this; rfl
  | _, _, ns, .cons (d := d) (ds := ds) h r, e => by
    cases d with
    | int i =>
      cases h
      simp only [CW.allInt] at e
      cases q : CW.allInt ds with
      | none => rw [q] at e; simp at e
      | some m =>
        rw [q] at e
        have : ns = i :: m := (Option.some.inj e).symm
        subst this
        rw [Reps.allInt r q]; rfl
    | _ => simp [CW.allInt] at e
theorem Reps.allBl : ∀ {vs : List V} {ds : List D} {ns : List Bool}, Reps K G vs ds → allBl ds = some ns → vs = ns.map V.bl
  | _, _, ns, .nil, e => by
    have : ns = [] := (Option.some.inj e).symm
    subst this; rfl
  | _, _, ns, .cons (d := d) (ds := ds) h r, e => by
    cases d with
    | bl i =>
      cases h
      simp only [CW.allBl] at e
      cases q : CW.allBl ds with
      | none => rw [q] at e; simp at e
      | some m =>
        rw [q] at e
        have : ns = i :: m := (Option.some.inj e).symm
        subst this
        rw [Reps.allBl r q]; rfl
    | _ => simp [CW.allBl] at e
end

/-- what stands at the address of a list or an instance -/
def ObjRel (K : PySem.W.Frag) (G : Hp) (o : HO) : D → Prop
  | .lst ds => ∃ vs, o = .lst vs ∧ Reps K G vs ds
  | .ins c ns ds => ∃ dx fs, o = .ins (clsA K c) dx fs ∧ fs.map (·.1) = ns.map enc ∧ Reps K G (fs.map (·.2)) ds
  | _ => False
theorem ObjRel.mono {K : PySem.W.Frag} {G G' : Hp} {o : HO} {d : D} (s : Same G G') (h : ObjRel K G o d) : ObjRel K G' o d := by
  cases d with
  | lst l => obtain ⟨vs, e, r⟩ := h; exact ⟨vs, e, r.mono s⟩
  | ins c ns vs => obtain ⟨dx, fs, e, q, r⟩ := h; exact ⟨dx, fs, e, q, r.mono s⟩
  | _ => exact h.elim
theorem ObjRel.rep {K : PySem.W.Frag} {G : Hp} {o : HO} {d : D} {p : Addr} (h : ObjRel K G o d) (e : G p = some o) : Rep K G (.ref p) d := by
  cases d with
  | lst l => obtain ⟨vs, q, r⟩ := h; subst q; exact .lst e r
  | ins c ns vs => obtain ⟨dx, fs, q, q2, r⟩ := h; subst q; exact .ins e q2 r
  | _ => exact h.elim

/-- owned -/
def isO : Sl → Bool
  | .ow _ _ => true | .lk _ _ => true | _ => false
def SlRel (K : PySem.W.Frag) (G H : Hp) (v : Option (Option V)) : Sl → Prop
  | .un => True
  | .va d => ∃ x, v = some (some x) ∧ Rep K G x d
  | .ow _ d => ∃ p o, v = some (some (.ref p)) ∧ H p = some o ∧ G p = none ∧ ObjRel K G o d
  | .lk _ d => ∃ p o, v = some (some (.ref p)) ∧ H p = some o ∧ G p = none ∧ ObjRel K G o d

structure StRel (K : PySem.W.Frag) (r : Env) (σ : L2.St) (G H : Hp) : Prop where
  len : r.length = σ.length
  sub : Same G H
  sl : ∀ i, SlRel K G H σ[i]? (get r i)
  inj : ∀ i j p, isO (get r i) = true → isO (get r j) = true → σ[i]? = some (some (.ref p)) → σ[j]? = some (some (.ref p)) → i = j

/-- p is changed through the slots -/
def OwA (r : Env) (σ : L2.St) (p : Addr) : Prop := ∃ i b d, get r i = .ow b d ∧ σ[i]? = some (some (.ref p))

/-- p is owned, or locked, by a slot -/
def OwI (r : Env) (σ : L2.St) (p : Addr) : Prop := ∃ i, isO (get r i) = true ∧ σ[i]? = some (some (.ref p))
theorem OwA.i {r : Env} {σ : L2.St} {p : Addr} (h : OwA r σ p) : OwI r σ p := by
  obtain ⟨i, b, d, e, q⟩ := h
  exact ⟨i, by rw [e]; rfl, q⟩
structure Step (K : PySem.W.Frag) (r : Env) (σ : L2.St) (G H : Hp) (r' : Env) (σ' : L2.St) (G' H' : Hp) : Prop where
  st : StRel K r' σ' G' H'
  ext : Same G G'
  live : ∀ a, H a ≠ none → H' a ≠ none
  frame : ∀ a, H a ≠ none → ¬ OwA r σ a → H' a = H a ∧ (G a = none → G' a = none)
  own : ∀ p, OwA r' σ' p → OwA r σ p ∨ H p = none
  ownI : ∀ p, OwI r' σ' p → OwI r σ p ∨ H p = none
  lent : ∀ i d, get r i = .ow true d → σ'[i]? = σ[i]? ∧ ∃ d', get r' i = .ow true d'
  lock : ∀ i b d, get r i = .lk b d → σ'[i]? = σ[i]? ∧ get r' i = .lk b d

section
variable {K : PySem.W.Frag} {r r1 r2 r' : Env} {σ σ1 σ2 σ' : L2.St} {G G1 G2 G' H H1 H2 H' : Hp}
theorem Step.refl (s : StRel K r σ G H) : Step K r σ G H r σ G H where
  st := s
  ext := Same.refl _
  live := fun _ h => h
  frame := fun _ _ _ => ⟨rfl, id⟩
  own := fun _ h => .inl h
  ownI := fun _ h => .inl h
  lent := fun _ d h => ⟨rfl, d, h⟩
  lock := fun _ _ _ h => ⟨rfl, h⟩
theorem Step.trans (a : Step K r σ G H r1 σ1 G1 H1) (b : Step K r1 σ1 G1 H1 r2 σ2 G2 H2) : Step K r σ G H r2 σ2 G2 H2 where
  st := b.st
  ext := a.ext.trans b.ext
  live := fun x h => b.live x (a.live x h)
  frame := fun x h n => by
    obtain ⟨e1, g1⟩ := a.frame x h n
    have n1 : ¬ OwA r1 σ1 x := fun o => (a.own x o).elim n h
    obtain ⟨e2, g2⟩ := b.frame x (by rw [e1]; exact h) n1
    exact ⟨e2.trans e1, fun q => g2 (g1 q)⟩
  own := fun p o => (b.own p o).elim (fun q => a.own p q) fun q => .inr (Classical.byContradiction fun z => a.live p z q)
  ownI := fun p o => (b.ownI p o).elim (fun q => a.ownI p q) fun q => .inr (Classical.byContradiction fun z => a.live p z q)
  lent := fun i d h => by
    obtain ⟨e1, d1, q1⟩ := a.lent i d h
    obtain ⟨e2, d2, q2⟩ := b.lent i d1 q1
    exact ⟨e2.trans e1, d2, q2⟩
  lock := fun i x d h => by
    obtain ⟨e1, q1⟩ := a.lock i x d h
    obtain ⟨e2, q2⟩ := b.lock i x d q1
    exact ⟨e2.trans e1, q2⟩

theorem get_put : ∀ (r : Env) (i j : Nat) (s : Sl), i < r.length → get (put r i s) j = if j = i then s else get r j
  | [], _, _, _, h => absurd h (Nat.not_lt_zero _)
  | x :: r, 0, 0, s, _ => rfl
  | x :: r, 0, j + 1, s, _ => rfl
  | x :: r, i + 1, 0, s, _ => rfl
  | x :: r, i + 1, j + 1, s, h => by
    have := get_put r i j s (Nat.lt_of_succ_lt_succ h)
    show get (put r i s) j = _
    rw [this]
    by_cases e : j = i
    · subst e; rw [if_pos rfl, if_pos rfl]
    · rw [if_neg e, if_neg (fun q => e (Nat.succ.inj q))]; rfl
theorem get_out : ∀ (r : Env) (i : Nat), r.length ≤ i → get r i = .un
  | [], _, _ => rfl
  | x :: r, 0, h => absurd h (Nat.not_succ_le_zero _)
  | x :: r, i + 1, h => get_out r i (Nat.le_of_succ_le_succ h)
theorem put_out : ∀ (r : Env) (i : Nat) (s : Sl), r.length ≤ i → put r i s = r
  | [], _, _, _ => rfl
  | x :: r, 0, _, h => absurd h (Nat.not_succ_le_zero _)
  | x :: r, i + 1, s, h => congrArg (x :: ·) (put_out r i s (Nat.le_of_succ_le_succ h))
theorem put_len : ∀ (r : Env) (i : Nat) (s : Sl), (put r i s).length = r.length
  | [], _, _ => rfl
  | x :: r, 0, s => rfl
  | x :: r, i + 1, s => congrArg Nat.succ (put_len r i s)
theorem get_lt {r : Env} {i : Nat} (h : get r i ≠ .un) : i < r.length := Nat.lt_of_not_le fun q => h (get_out r i q)
theorem put_get : ∀ (r : Env) (i : Nat), put r i (get r i) = r
  | [], _ => rfl
  | x :: r, 0 => rfl
  | x :: r, i + 1 => congrArg (x :: ·) (put_get r i)

/-- σ at a slot, behind a store -/
theorem set_at (σ : L2.St) (i j : Nat) (v : Option V) (h : i < σ.length) : (σ.set i v)[j]? = if j = i then some v else σ[j]? := by
  rw [List.getElem?_set]
  by_cases e : i = j
  · subst e; rw [if_pos rfl, if_pos h, if_pos rfl]
  · rw [if_neg e, if_neg (fun q => e q.symm)]

/-- a new frozen thing -/
theorem Step.laid (s : StRel K r σ G H) {p : Addr} {o : HO} (n : H p = none) : Step K r σ G H r σ (upd G p o) (upd H p o) := by
  have gn : G p = none := s.sub.free n
  have gs : Same G (upd G p o) := fun b x e => by
    rw [upd_ne (ne_of_none e gn)]; exact e
  refine ⟨⟨s.len, ?_, fun i => ?_, s.inj⟩, gs, ?_, ?_, fun _ h => .inl h, fun _ h => .inl h, fun _ d h => ⟨rfl, d, h⟩, fun _ _ _ h => ⟨rfl, h⟩⟩
  · intro b x e
    by_cases q : b = p
    · subst q; rw [upd_same] at e; rw [upd_same]; exact e
    · rw [upd_ne q] at e; rw [upd_ne q]; exact s.sub b x e
  · have h := s.sl i
    cases q : get r i with
    | un => trivial
    | va d => rw [q] at h; obtain ⟨x, e, m⟩ := h; exact ⟨x, e, m.mono gs⟩
    | ow b d =>
      rw [q] at h; obtain ⟨a, ob, e, m, g, t⟩ := h
      have na : a ≠ p := ne_of_none m n
      exact ⟨a, ob, e, by rw [upd_ne na]; exact m, by rw [upd_ne na]; exact g, t.mono gs⟩
    | lk b d =>
      rw [q] at h; obtain ⟨a, ob, e, m, g, t⟩ := h
      have na : a ≠ p := ne_of_none m n
      exact ⟨a, ob, e, by rw [upd_ne na]; exact m, by rw [upd_ne na]; exact g, t.mono gs⟩
  · intro a h
    by_cases q : a = p
    · subst q; exact absurd n h
    · rw [upd_ne q]; exact h
  · intro a h _
    have q : a ≠ p := fun q => h (by rw [q]; exact n)
    exact ⟨by rw [upd_ne q], fun g => by rw [upd_ne q]; exact g⟩

/-- a new thing that nobody else knows yet: the heap has it, the frozen part not -/
theorem Step.fresh (s : StRel K r σ G H) {p : Addr} {o : HO} (n : H p = none) : Step K r σ G H r σ G (upd H p o) := by
  have hs : Same H (upd H p o) := fun b x e => by
    rw [upd_ne (ne_of_none e n)]; exact e
  refine ⟨⟨s.len, s.sub.trans hs, fun i => ?_, s.inj⟩, Same.refl _, ?_, ?_, fun _ h => .inl h, fun _ h => .inl h, fun _ d h => ⟨rfl, d, h⟩, fun _ _ _ h => ⟨rfl, h⟩⟩
  · have h := s.sl i
    cases q : get r i with
    | un => trivial
    | va d => rw [q] at h; exact h
    | ow b d => rw [q] at h; obtain ⟨a, ob, e, m, t⟩ := h; exact ⟨a, ob, e, hs _ _ m, t⟩
    | lk b d => rw [q] at h; obtain ⟨a, ob, e, m, t⟩ := h; exact ⟨a, ob, e, hs _ _ m, t⟩
  · intro a h
    by_cases q : a = p
    · subst q; exact absurd n h
    · rw [upd_ne q]; exact h
  · intro a h _
    have q : a ≠ p := fun q => h (by rw [q]; exact n)
    exact ⟨by rw [upd_ne q], id⟩

/-- a thing of the heap that no slot owns goes over to the frozen part -/
theorem Step.frozen (s : StRel K r σ G H) {p : Addr} {o : HO} (e : H p = some o) (g : G p = none) (nf : ∀ i, isO (get r i) = true → σ[i]? ≠ some (some (.ref p))) {r0 : Env} {σ0 : L2.St} {G0 H0 : Hp} (b : Step K r0 σ0 G0 H0 r σ G H) (n0 : H0 p = none ∨ OwA r0 σ0 p) :
    Step K r0 σ0 G0 H0 r σ (upd G p o) H := by
  have gs : Same G (upd G p o) := fun b x e => by
    rw [upd_ne (ne_of_none e g)]; exact e
  refine ⟨⟨s.len, ?_, fun i => ?_, s.inj⟩, b.ext.trans gs, b.live, ?_, b.own, b.ownI, b.lent, b.lock⟩
  · intro b x q
    by_cases z : b = p
    · subst z; rw [upd_same] at q; rw [e]; exact q
    · rw [upd_ne z] at q; exact s.sub b x q
  · have h := s.sl i
    have nfi := nf i
    cases q : get r i with
    | un => trivial
    | va d => rw [q] at h; obtain ⟨x, e, m⟩ := h; exact ⟨x, e, m.mono gs⟩
    | ow b d =>
      rw [q] at h nfi; obtain ⟨a, ob, e, m, g, t⟩ := h
      have na : a ≠ p := fun z => nfi rfl (by rw [e, z])
      exact ⟨a, ob, e, m, by rw [upd_ne na]; exact g, t.mono gs⟩
    | lk b d =>
      rw [q] at h nfi; obtain ⟨a, ob, e, m, g, t⟩ := h
      have na : a ≠ p := fun z => nfi rfl (by rw [e, z])
      exact ⟨a, ob, e, m, by rw [upd_ne na]; exact g, t.mono gs⟩
  · intro a h no
    have q : a ≠ p := fun q => by
      subst q
      exact n0.elim h no
    obtain ⟨e1, g1⟩ := b.frame a h no
    exact ⟨e1, fun z => by rw [upd_ne q]; exact g1 z⟩
end
end CW

set_option Elab.async false
set_option linter.all false
set_option maxRecDepth 100000
/-! Stores into slots, writes through them. -/
namespace CW
open PySem PySem.Spec PyProof.Rows L2
section
variable {K : PySem.W.Frag} {r r0 r1 r2 r' : Env} {σ σ0 σ1 σ2 σ' : L2.St} {G G0 G1 G2 G' H H0 H1 H2 H' : Hp} {i : Nat} {v : V} {d d' : D} {p : Addr} {o o' : HO} {b : Bool}

theorem free_cases {s : Sl} (h : free s = true) : s = .un ∨ (∃ d, s = .va d) ∨ ∃ d, s = .ow false d := by
  cases s with
  | un => exact .inl rfl
  | va d => exact .inr (.inl ⟨d, rfl⟩)
  | ow b d => cases b with
    | true => cases h
    | false => exact .inr (.inr ⟨d, rfl⟩)
  | lk b d => cases h

/-- slot i anew, by any relation that holds of it -/
theorem StRel.put (s : StRel K r σ G H) (hi : i < r.length) {x : Sl} {w : Option V} (hx : SlRel K G H (some w) x) (hj : isO x = true → ∀ j p, isO (get r j) = true → w = some (.ref p) → σ[j]? = some (some (.ref p)) → j = i) : StRel K (put r i x) (σ.set i w) G H := by
  have hs : i < σ.length := by rw [← s.len]; exact hi
  refine ⟨by rw [put_len, List.length_set]; exact s.len, s.sub, fun j => ?_, fun j k p hj' hk' ej ek => ?_⟩
  · rw [get_put _ _ _ _ hi, set_at _ _ _ _ hs]
    by_cases e : j = i
    · rw [if_pos e, if_pos e]; exact hx
    · rw [if_neg e, if_neg e]; exact s.sl j
  · rw [get_put _ _ _ _ hi] at hj' hk'
    rw [set_at _ _ _ _ hs] at ej ek
    by_cases e : j = i
    · rw [if_pos e] at hj' ej
      by_cases e' : k = i
      · rw [e, e']
      · rw [if_neg e'] at hk' ek
        exact absurd (hj hj' k p hk' (Option.some.inj ej) ek) e'
    · rw [if_neg e] at hj' ej
      by_cases e' : k = i
      · rw [if_pos e'] at hk' ek
        exact absurd (hj hk' j p hj' (Option.some.inj ek) ej) e
      · rw [if_neg e'] at hk' ek
        exact s.inj j k p hj' hk' ej ek

/-- a name is bound to frozen data -/
theorem Step.set (s : StRel K r σ G H) (fr : free (get r i) = true) (hi : i < r.length) (h : Rep K G v d) : Step K r σ G H (put r i (.va d)) (σ.set i (some v)) G H := by
  have hs : i < σ.length := by rw [← s.len]; exact hi
  refine ⟨s.put hi ⟨v, rfl, h⟩ (fun z => nomatch z), Same.refl _, fun _ z => z, fun _ _ _ => ⟨rfl, id⟩, fun p ⟨j, b, e, q, z⟩ => ?_, fun p ⟨j, q, z⟩ => ?_, fun j e q => ?_, fun j b e q => ?_⟩
  · rw [get_put _ _ _ _ hi] at q
    rw [set_at _ _ _ _ hs] at z
    by_cases w : j = i
    · rw [if_pos w] at q; cases q
    · rw [if_neg w] at q z; exact .inl ⟨j, b, e, q, z⟩
  · rw [get_put _ _ _ _ hi] at q
    rw [set_at _ _ _ _ hs] at z
    by_cases w : j = i
    · rw [if_pos w] at q; cases q
    · rw [if_neg w] at q z; exact .inl ⟨j, q, z⟩
  · have w : j ≠ i := fun w => by subst w; rw [q] at fr; cases fr
    rw [get_put _ _ _ _ hi, if_neg w, set_at _ _ _ _ hs, if_neg w]
    exact ⟨rfl, e, q⟩
  · have w : j ≠ i := fun w => by subst w; rw [q] at fr; cases fr
    rw [get_put _ _ _ _ hi, if_neg w, set_at _ _ _ _ hs, if_neg w]
    exact ⟨rfl, q⟩

/-- a name is bound to a new thing of its own -/
theorem Step.setN (b : Step K r0 σ0 G0 H0 r σ G H) (fr : free (get r i) = true) (hi : i < r.length) (e : H p = some o) (g : G p = none) (t : ObjRel K G o d) (nf : ∀ j, isO (get r j) = true → σ[j]? ≠ some (some (.ref p))) (n0 : H0 p = none) :
    Step K r0 σ0 G0 H0 (put r i (.ow false d)) (σ.set i (some (.ref p))) G H := by
  have s := b.st
  have hs : i < σ.length := by rw [← s.len]; exact hi
  refine ⟨s.put hi ⟨p, o, rfl, e, g, t⟩ (fun _ j q hj hw hq => ?_), b.ext, b.live, b.frame, fun q ⟨j, c, x, h1, h2⟩ => ?_, fun q ⟨j, h1, h2⟩ => ?_, fun j x q => ?_, fun j c x q => ?_⟩
  · obtain rfl : p = q := by injection hw with hw; injection hw
    exact absurd hq (nf j hj)
  · rw [get_put _ _ _ _ hi] at h1
    rw [set_at _ _ _ _ hs] at h2
    by_cases w : j = i
    · rw [if_pos w] at h2
      have : p = q := by injection h2 with h2; injection h2 with h2; injection h2
      subst this
      exact .inr n0
    · rw [if_neg w] at h1 h2; exact b.own q ⟨j, c, x, h1, h2⟩
  · rw [get_put _ _ _ _ hi] at h1
    rw [set_at _ _ _ _ hs] at h2
    by_cases w : j = i
    · rw [if_pos w] at h2
      have : p = q := by injection h2 with h2; injection h2 with h2; injection h2
      subst this
      exact .inr n0
    · rw [if_neg w] at h1 h2; exact b.ownI q ⟨j, h1, h2⟩
  · obtain ⟨e1, d1, q1⟩ := b.lent j x q
    have w : j ≠ i := fun w => by subst w; rw [q1] at fr; cases fr
    rw [get_put _ _ _ _ hi, if_neg w, set_at _ _ _ _ hs, if_neg w]
    exact ⟨e1, d1, q1⟩
  · obtain ⟨e1, q1⟩ := b.lock j c x q
    have w : j ≠ i := fun w => by subst w; rw [q1] at fr; cases fr
    rw [get_put _ _ _ _ hi, if_neg w, set_at _ _ _ _ hs, if_neg w]
    exact ⟨e1, q1⟩

/-- what a slot owns -/
theorem StRel.owned (s : StRel K r σ G H) (q : get r i = .ow b d) : ∃ p o, σ[i]? = some (some (.ref p)) ∧ H p = some o ∧ G p = none ∧ ObjRel K G o d := by
  have h := s.sl i
  rw [q] at h; exact h
theorem StRel.locked (s : StRel K r σ G H) (q : get r i = .lk b d) : ∃ p o, σ[i]? = some (some (.ref p)) ∧ H p = some o ∧ G p = none ∧ ObjRel K G o d := by
  have h := s.sl i
  rw [q] at h; exact h
theorem StRel.frozen (s : StRel K r σ G H) (q : get r i = .va d) : ∃ x, σ[i]? = some (some x) ∧ Rep K G x d := by
  have h := s.sl i
  rw [q] at h; exact h

/-- an owned thing changes -/
theorem Step.write (s : StRel K r σ G H) (q : get r i = .ow b d) (ev : σ[i]? = some (some (.ref p))) (t : ObjRel K G o' d') : Step K r σ G H (put r i (.ow b d')) σ G (upd H p o') := by
  have hi : i < r.length := get_lt (by rw [q]; intro z; cases z)
  obtain ⟨p', o, ev', e, g, _⟩ := s.owned q
  obtain rfl : p' = p := by rw [ev'] at ev; injection ev with ev; injection ev with ev; injection ev
  have hs : Same G (upd H p' o') := fun a x h => by
    rw [upd_ne (ne_of_none h g)]; exact s.sub a x h
  have iso : ∀ j, isO (get (CW.put r i (.ow b d')) j) = true → isO (get r j) = true := fun j h => by
    rw [get_put _ _ _ _ hi] at h
    by_cases w : j = i
    · subst w; rw [q]; rfl
    · rw [if_neg w] at h; exact h
  refine ⟨⟨by rw [put_len]; exact s.len, hs, fun j => ?_, fun j k a hj hk => s.inj j k a (iso j hj) (iso k hk)⟩, Same.refl _, ?_, ?_, ?_, fun a ⟨j, h1, h2⟩ => .inl ⟨j, iso j h1, h2⟩, ?_, ?_⟩
  · rw [get_put _ _ _ _ hi]
    by_cases w : j = i
    · subst w; rw [if_pos rfl]; exact ⟨p', o', ev', upd_same, g, t⟩
    · rw [if_neg w]
      have h := s.sl j
      cases z : get r j with
      | un => trivial
      | va d => rw [z] at h; exact h
      | ow b d =>
        rw [z] at h; obtain ⟨a, ob, e2, m, t⟩ := h
        have na : a ≠ p' := fun y => w (s.inj j i p' (by rw [z]; rfl) (by rw [q]; rfl) (by rw [e2, y]) ev')
        exact ⟨a, ob, e2, by rw [upd_ne na]; exact m, t⟩
      | lk b d =>
        rw [z] at h; obtain ⟨a, ob, e2, m, t⟩ := h
        have na : a ≠ p' := fun y => w (s.inj j i p' (by rw [z]; rfl) (by rw [q]; rfl) (by rw [e2, y]) ev')
        exact ⟨a, ob, e2, by rw [upd_ne na]; exact m, t⟩
  · intro a h
    by_cases z : a = p'
    · subst z; rw [upd_same]; intro y; cases y
    · rw [upd_ne z]; exact h
  · intro a h no
    have z : a ≠ p' := fun z => no ⟨i, b, d, q, by rw [z]; exact ev'⟩
    exact ⟨by rw [upd_ne z], id⟩
  · intro a ⟨j, c, x, h1, h2⟩
    rw [get_put _ _ _ _ hi] at h1
    by_cases w : j = i
    · subst w; exact .inl ⟨j, b, d, q, h2⟩
    · rw [if_neg w] at h1; exact .inl ⟨j, c, x, h1, h2⟩
  · intro j x h
    refine ⟨rfl, ?_⟩
    rw [get_put _ _ _ _ hi]
    by_cases w : j = i
    · subst w; rw [q] at h; injection h with h1 h2; subst h1; rw [if_pos rfl]; exact ⟨d', rfl⟩
    · rw [if_neg w]; exact ⟨x, h⟩
  · intro j c x h
    refine ⟨rfl, ?_⟩
    rw [get_put _ _ _ _ hi]
    by_cases w : j = i
    · subst w; rw [q] at h; cases h
    · rw [if_neg w]; exact h

/-- an owned thing becomes frozen -/
theorem Step.freeze (s : StRel K r σ G H) (q : get r i = .ow false d) : ∃ p o, σ[i]? = some (some (.ref p)) ∧ Rep K (upd G p o) (.ref p) d ∧ Step K r σ G H (put r i (.va d)) σ (upd G p o) H := by
  have hi : i < r.length := get_lt (by rw [q]; intro z; cases z)
  obtain ⟨p, o, ev, e, g, t⟩ := s.owned q
  have gs : Same G (upd G p o) := fun b x e => by
    rw [upd_ne (ne_of_none e g)]; exact e
  have rp : Rep K (upd G p o) (.ref p) d := (t.mono gs).rep upd_same
  have iso : ∀ j, isO (get (CW.put r i (.va d)) j) = true → j ≠ i ∧ isO (get r j) = true := fun j h => by
    rw [get_put _ _ _ _ hi] at h
    by_cases w : j = i
    · rw [if_pos w] at h; cases h
    · rw [if_neg w] at h; exact ⟨w, h⟩
  refine ⟨p, o, ev, rp, ⟨⟨by rw [put_len]; exact s.len, ?_, fun j => ?_, fun j k a hj hk => s.inj j k a (iso j hj).2 (iso k hk).2⟩, gs, fun _ z => z, ?_, ?_, fun a ⟨j, h1, h2⟩ => .inl ⟨j, (iso j h1).2, h2⟩, ?_, ?_⟩⟩
  · intro b x h
    by_cases z : b = p
    · subst z; rw [upd_same] at h; rw [e]; exact h
    · rw [upd_ne z] at h; exact s.sub b x h
  · rw [get_put _ _ _ _ hi]
    by_cases w : j = i
    · subst w; rw [if_pos rfl]; exact ⟨.ref p, ev, rp⟩
    · rw [if_neg w]
      have h := s.sl j
      cases z : get r j with
      | un => trivial
      | va d => rw [z] at h; obtain ⟨x, e, m⟩ := h; exact ⟨x, e, m.mono gs⟩
      | ow b d =>
        rw [z] at h; obtain ⟨a, ob, e2, m, g2, t⟩ := h
        have na : a ≠ p := fun y => w (s.inj j i p (by rw [z]; rfl) (by rw [q]; rfl) (by rw [e2, y]) ev)
        exact ⟨a, ob, e2, m, by rw [upd_ne na]; exact g2, t.mono gs⟩
      | lk b d =>
        rw [z] at h; obtain ⟨a, ob, e2, m, g2, t⟩ := h
        have na : a ≠ p := fun y => w (s.inj j i p (by rw [z]; rfl) (by rw [q]; rfl) (by rw [e2, y]) ev)
        exact ⟨a, ob, e2, m, by rw [upd_ne na]; exact g2, t.mono gs⟩
  · intro a h no
    have z : a ≠ p := fun z => no ⟨i, false, d, q, by rw [z]; exact ev⟩
    exact ⟨rfl, fun g => by rw [upd_ne z]; exact g⟩
  · intro a ⟨j, c, x, h1, h2⟩
    rw [get_put _ _ _ _ hi] at h1
    by_cases w : j = i
    · rw [if_pos w] at h1; cases h1
    · rw [if_neg w] at h1; exact .inl ⟨j, c, x, h1, h2⟩
  · intro j x h
    refine ⟨rfl, ?_⟩
    rw [get_put _ _ _ _ hi]
    have w : j ≠ i := fun w => by subst w; rw [q] at h; cases h
    rw [if_neg w]; exact ⟨x, h⟩
  · intro j c x h
    refine ⟨rfl, ?_⟩
    rw [get_put _ _ _ _ hi]
    have w : j ≠ i := fun w => by subst w; rw [q] at h; cases h
    rw [if_neg w]; exact h
end

/-! ### operands -/
/-- the value of an operand: frozen data, or what the slot holds -/
def RepA (K : PySem.W.Frag) (r : Env) (σ : L2.St) (G : Hp) (v : V) : Ar → Prop
  | .v d => Rep K G v d
  | .t _ => False
  | .r i => σ[i]? = some (some v)
theorem RepA.step {K : PySem.W.Frag} {r r' : Env} {σ : L2.St} {G G' H H' : Hp} {v : V} {a : Ar} (h : RepA K r σ G v a) (s : Step K r σ G H r' σ G' H') : RepA K r' σ G' v a := by
  cases a with
  | v d => exact h.mono s.ext
  | t d => exact h
  | r i => exact h
/-- seen: frozen, or standing in the heap as it is told -/
def Pk (K : PySem.W.Frag) (G H : Hp) (v : V) (d : D) : Prop := Rep K G v d ∨ ∃ p o, v = .ref p ∧ H p = some o ∧ ObjRel K G o d
theorem RepA.drf {K : PySem.W.Frag} {r : Env} {σ : L2.St} {G H : Hp} {v : V} {a : Ar} {d : D} (h : RepA K r σ G v a) (s : StRel K r σ G H) (e : drf r a = some d) : Pk K G H v d := by
  cases a with
  | v x => obtain rfl : x = d := Option.some.inj e; exact .inl h
  | t x => exact h.elim
  | r i =>
    simp only [CW.drf] at e
    cases q : get r i with
    | un => rw [q] at e; cases e
    | va x =>
      rw [q] at e; obtain rfl : x = d := Option.some.inj e
      obtain ⟨y, e1, e2⟩ := s.frozen q
      have : v = y := by
        have h' : σ[i]? = some (some v) := h
        rw [e1] at h'; injection h' with h'; injection h' with h'; exact h'.symm
      subst this; exact .inl e2
    | ow b x =>
      rw [q] at e; obtain rfl : x = d := Option.some.inj e
      obtain ⟨p, o, e1, e2, _, e3⟩ := s.owned q
      have : v = .ref p := by
        have h' : σ[i]? = some (some v) := h
        rw [e1] at h'; injection h' with h'; injection h' with h'; exact h'.symm
      exact .inr ⟨p, o, this, e2, e3⟩
    | lk b x =>
      rw [q] at e; obtain rfl : x = d := Option.some.inj e
      obtain ⟨p, o, e1, e2, _, e3⟩ := s.locked q
      have : v = .ref p := by
        have h' : σ[i]? = some (some v) := h
        rw [e1] at h'; injection h' with h'; injection h' with h'; exact h'.symm
      exact .inr ⟨p, o, this, e2, e3⟩
section
variable {K : PySem.W.Frag} {G H : Hp} {v : V}
theorem Pk.int {i : Int} (h : Pk K G H v (.int i)) : v = .int i := by
  rcases h with h | ⟨p, o, _, _, h⟩
  · cases h; rfl
  · exact h.elim
theorem Pk.bl {i : Bool} (h : Pk K G H v (.bl i)) : v = .bl i := by
  rcases h with h | ⟨p, o, _, _, h⟩
  · cases h; rfl
  · exact h.elim
theorem Pk.str {i : String} (h : Pk K G H v (.str i)) : v = .str (enc i) := by
  rcases h with h | ⟨p, o, _, _, h⟩
  · cases h; rfl
  · exact h.elim
theorem Pk.non (h : Pk K G H v .non) : v = .non := by
  rcases h with h | ⟨p, o, _, _, h⟩
  · cases h; rfl
  · exact h.elim
theorem Pk.lst {l : List D} (h : Pk K G H v (.lst l)) (s : Same G H) : ∃ a vs, v = .ref a ∧ H a = some (.lst vs) ∧ Reps K G vs l := by
  rcases h with h | ⟨p, o, rfl, e, vs, rfl, h⟩
  · cases h with
    | lst e r => exact ⟨_, _, rfl, s _ _ e, r⟩
  · exact ⟨p, vs, rfl, e, h⟩
theorem Pk.tup {l : List D} (h : Pk K G H v (.tup l)) : ∃ a vs, v = .ref a ∧ G a = some (.tup vs) ∧ Reps K G vs l := by
  rcases h with h | ⟨p, o, _, _, h⟩
  · cases h with
    | tup e r => exact ⟨_, _, rfl, e, r⟩
  · exact h.elim
theorem Pk.scr {l : List Int} (h : Pk K G H v (.scr l)) : ∃ a, v = .ref a ∧ SqL K G a (l.map V.int) := by
  rcases h with h | ⟨p, o, _, _, h⟩
  · cases h with
    | scr e => exact ⟨_, rfl, e⟩
  · exact h.elim
theorem Pk.ins {c : String} {ns : List String} {ds : List D} (h : Pk K G H v (.ins c ns ds)) (s : Same G H) : ∃ a dx fs, v = .ref a ∧ H a = some (.ins (clsA K c) dx fs) ∧ fs.map (·.1) = ns.map enc ∧ Reps K G (fs.map (·.2)) ds := by
  rcases h with h | ⟨p, o, rfl, e, dx, fs, rfl, e2, r⟩
  · cases h with
    | ins e e2 r => exact ⟨_, _, _, rfl, s _ _ e, e2, r⟩
  · exact ⟨p, dx, fs, rfl, e, e2, r⟩
end

/-! ### what an evaluation promises -/
/-- a made thing that nobody else knows -/
def New (K : PySem.W.Frag) (G' H H' : Hp) (v : V) (d : D) : Prop := ∃ p o, v = .ref p ∧ H' p = some o ∧ G' p = none ∧ ObjRel K G' o d ∧ H p = none
/-- an error at its own dict -/
def ExAt (K : PySem.W.Frag) (G' H' : Hp) (dx : Addr) (x : Exn) : Prop := ∃ f v, H' dx = some (.xd [(f, v)]) ∧ Rep K G' v x.arg
section
variable (K : PySem.W.Frag) (W : WX)
def Post {α : Type} (r : Env) (σ : L2.St) (G H : Hp) (R : Env → Hp → Hp → α → Prop) (m : Ev α) (Z : α → Env → Hp → Hp → Prop) : Prop :=
  match m with
  | .ok a r' => ∀ G' H', Step K r σ G H r' σ G' H' → R r' G' H' a → Z a r' G' H'
  | .ex x r' => ∀ dx G' H', Step K r σ G H r' σ G' H' → ExAt K G' H' dx x → W (.ref (clsA K x.cls)) (some dx) σ H'
  | .no => False
end
end CW

set_option Elab.async false
set_option linter.all false
set_option maxRecDepth 100000
/-! Expressions: what is evaluated is what the machine gives. -/
namespace CW
open PySem PySem.Spec PyProof.Rows L2

abbrev Rl (β α : Type) := Hp → L2.St → Env → Hp → Hp → β → α → Prop
abbrev TX (β : Type) := L2.St → Hp → (β → Hp → Prop) → Prop
def PX {α β : Type} (K : PySem.W.Frag) (W : WX) (R : Rl β α) (r : Env) (σ : L2.St) (G H : Hp) (m : Ev α) (Q : β → Hp → Prop) : Prop :=
  match m with
  | .ok a r' => ∀ b G' H', Step K r σ G H r' σ G' H' → R H σ r' G' H' b a → Q b H'
  | .ex x r' => ∀ dx G' H', Step K r σ G H r' σ G' H' → ExAt K G' H' dx x → W (.ref (clsA K x.cls)) (some dx) σ H'
  | .no => False
def tX {α β : Type} (K : PySem.W.Frag) (W : WX) (R : Rl β α) (f : Env → Ev α) : TX β := fun σ H Q => ∃ r G, StRel K r σ G H ∧ PX K W R r σ G H (f r) Q

def RM {α β : Type} (R : Rl β α) : Prop := ∀ H H1 σ r' G' H' b a, (∀ x, H x ≠ none → H1 x ≠ none) → R H1 σ r' G' H' b a → R H σ r' G' H' b a

def rF (K : PySem.W.Frag) : Rl V D := fun _ _ _ G' _ v d => Rep K G' v d
def rN (K : PySem.W.Frag) : Rl V D := fun H σ r' G' H' v d => New K G' H H' v d ∧ ∀ i, isO (get r' i) = true → σ[i]? ≠ some (some v)
def rA (K : PySem.W.Frag) : Rl V Ar := fun _ σ r' G' _ v a => RepA K r' σ G' v a
def rB : Rl Bool Bool := fun _ _ _ _ _ b k => b = k
def rO : Rl (Option Int) (Option Int) := fun _ _ _ _ _ b k => b = k
def rL (K : PySem.W.Frag) : Rl (List V) (List D) := fun _ _ _ G' _ vs ds => Reps K G' vs ds
theorem rmF {K : PySem.W.Frag} : RM (rF K) := fun _ _ _ _ _ _ _ _ _ h => h
theorem rmA {K : PySem.W.Frag} : RM (rA K) := fun _ _ _ _ _ _ _ _ _ h => h
theorem rmB : RM rB := fun _ _ _ _ _ _ _ _ _ h => h
theorem rmO : RM rO := fun _ _ _ _ _ _ _ _ _ h => h
theorem rmL {K : PySem.W.Frag} : RM (rL K) := fun _ _ _ _ _ _ _ _ _ h => h
theorem rmN {K : PySem.W.Frag} : RM (rN K) := fun H H1 σ r' G' H' v d l ⟨⟨p, o, e, h1, h2, h3, h4⟩, nf⟩ =>
  ⟨⟨p, o, e, h1, h2, h3, Classical.byContradiction fun z => l p z h4⟩, nf⟩

section
variable {α β α1 β1 : Type} {K : PySem.W.Frag} {W : WX} {R : Rl β α} {R1 : Rl β1 α1} {r r1 : Env} {σ : L2.St} {G G1 H H1 : Hp} {m : Ev α} {Q : β → Hp → Prop}
theorem PX.shift (hR : RM R) (s : Step K r σ G H r1 σ G1 H1) (h : PX K W R r σ G H m Q) : PX K W R r1 σ G1 H1 m Q := by
  cases m with
  | ok a r' => exact fun b G' H' t q => h b G' H' (s.trans t) (hR _ _ _ _ _ _ _ _ s.live q)
  | ex x r' => exact fun dx G' H' t q => h dx G' H' (s.trans t) q
  | no => exact h
theorem PX.seq (hR : RM R) {m : Ev α1} {k : α1 → Env → Ev α} (h : PX K W R r σ G H (m.bind k) Q) {Z : β1 → Hp → Prop}
    (hz : ∀ a r1 b G1 H1, Step K r σ G H r1 σ G1 H1 → R1 H σ r1 G1 H1 b a → PX K W R r1 σ G1 H1 (k a r1) Q → Z b H1) : PX K W R1 r σ G H m Z := by
  cases m with
  | ok a r' => exact fun b G' H' t q => hz a r' b G' H' t q (PX.shift hR t h)
  | ex x r' => exact h
  | no => exact h
/-- the end: what is asked of the value -/
theorem PX.fin {a : α} (h : PX K W R r σ G H (.ok a r) Q) {b : β} {G' H' : Hp} (s : Step K r σ G H r σ G' H') (q : R H σ r G' H' b a) : Q b H' := h b G' H' s q
theorem PX.of {o : Option α} (h : PX K W R r σ G H (.of r o) Q) : ∃ a, o = some a ∧ PX K W R r σ G H (.ok a r) Q := by
  cases o with
  | none => exact h.elim
  | some a => exact ⟨a, rfl, h⟩
theorem New.cold (s : StRel K r σ G H) {H' : Hp} (hs : ∀ a, H a ≠ none → H' a = H a) {p : Addr} (hp : H p = none) : ∀ i, isO (get r i) = true → σ[i]? ≠ some (some (.ref p)) := fun i hi e => by
  cases q : get r i with
  | un => rw [q] at hi; cases hi
  | va d => rw [q] at hi; cases hi
  | ow b d =>
    obtain ⟨a, o, e1, e2, _⟩ := s.owned q
    rw [e1] at e
    have : a = p := by injection e with e; injection e with e; injection e
    subst this; rw [hp] at e2; cases e2
  | lk b d =>
    obtain ⟨a, o, e1, e2, _⟩ := s.locked q
    rw [e1] at e
    have : a = p := by injection e with e; injection e with e; injection e
    subst this; rw [hp] at e2; cases e2
theorem rN.freeze {r0 : Env} {G0 H0 : Hp} {v : V} {d : D} (b : Step K r0 σ G0 H0 r σ G H) (h : rN K H0 σ r G H v d) : ∃ G', Step K r0 σ G0 H0 r σ G' H ∧ Rep K G' v d := by
  obtain ⟨⟨p, o, rfl, h1, h2, h3, h4⟩, nf⟩ := h
  refine ⟨upd G p o, Step.frozen b.st h1 h2 nf b (.inl h4), (h3.mono ?_).rep upd_same⟩
  exact fun b x e => by rw [upd_ne (ne_of_none e h2)]; exact e
/-- a laid tuple -/
theorem fin_tup (s : StRel K r σ G H) {vs : List V} {ds : List D} (h : Reps K G vs ds) {W : WX} {Q : VK} (q : PX K W (rF K) r σ G H (.ok (.tup ds) r) Q) {p : Addr} (hp : H p = none) : Q (.ref p) (upd H p (.tup vs)) :=
  q.fin (s := Step.laid s hp) (.tup upd_same (h.mono (Step.laid s hp).ext))
/-- a laid list, its own -/
theorem fin_lst (s : StRel K r σ G H) {vs : List V} {ds : List D} (h : Reps K G vs ds) {W : WX} {Q : VK} (q : PX K W (rN K) r σ G H (.ok (.lst ds) r) Q) {p : Addr} (hp : H p = none) : Q (.ref p) (upd H p (.lst vs)) :=
  q.fin (s := Step.fresh s hp) ⟨⟨p, _, rfl, upd_same, s.sub.free hp, ⟨vs, rfl, h⟩, hp⟩, New.cold (H' := H) s (fun _ _ => rfl) hp⟩
end
theorem PX.froze {K : PySem.W.Frag} {W : WX} {r : Env} {σ : L2.St} {G H : Hp} {m : Ev D} {Q : VK} (h : PX K W (rF K) r σ G H m Q) : PX K W (rN K) r σ G H m Q := by
  cases m with
  | ok a r' =>
    intro b G' H' t q
    obtain ⟨G2, t2, q2⟩ := rN.freeze t q
    exact h b G2 H' t2 q2
  | ex x r' => exact h
  | no => exact h

theorem _root_.L2.PE.imp {X : Cx} {e : Expr} {t t' : TE} (h : PE X e t) (i : ∀ σ H Q, t' σ H Q → t σ H Q) : PE X e t' := ⟨fun pins s σ H Q I q => h.run pins s σ H Q I (i σ H Q q)⟩
theorem _root_.L2.PT.imp {X : Cx} {e : Expr} {t t' : TT} (h : PT X e t) (i : ∀ σ H Q, t' σ H Q → t σ H Q) : PT X e t' := ⟨fun pins s σ H Q I q => h.run pins s σ H Q I (i σ H Q q)⟩
theorem _root_.L2.PA.imp {X : Cx} {e : List Expr} {t t' : TA} (h : PA X e t) (i : ∀ σ H Q, t' σ H Q → t σ H Q) : PA X e t' := ⟨fun pos pins s σ H Q I q => h.run pos pins s σ H Q I (i σ H Q q)⟩
theorem _root_.L2.PE.ex {ι : Type} {X : Cx} {e : Expr} {t : ι → TE} (h : ∀ i, PE X e (t i)) : PE X e (fun σ H Q => ∃ i, t i σ H Q) := ⟨fun pins s σ H Q I ⟨i, q⟩ => (h i).run pins s σ H Q I q⟩
theorem _root_.L2.OpR.ex {ι : Type} {X : Cx} {f : Value → Value → Sem Value} {t : ι → R2} (h : ∀ i, OpR X f (t i)) : OpR X f (fun x y H Q => ∃ i, t i x y H Q) := fun pins s σ H x y v u Q I rx ry ⟨i, q⟩ => h i pins s σ H x y v u Q I rx ry q
theorem _root_.L2.OpR.imp {X : Cx} {f : Value → Value → Sem Value} {t t' : R2} (h : OpR X f t) (i : ∀ x y H Q, t' x y H Q → t x y H Q) : OpR X f t' := fun pins s σ H x y v u Q I rx ry q => h pins s σ H x y v u Q I rx ry (i x y H Q q)
theorem _root_.L2.OpR.lift {X : Cx} {f : Value → Value → Sem Value} {t : Cx → R2} {φ : Prop} (h : φ → OpR X f (t X)) : OpR X f (fun x y H Q => φ ∧ t X x y H Q) := fun pins s σ H x y v u Q I rx ry ⟨a, q⟩ => h a pins s σ H x y v u Q I rx ry q

/-! ### names and shapes of the text -/
def visB (sc : Scope) (x : Str) : Bool := match sc.names.lookup x with
  | some .local => true
  | some .cell => true
  | some .free => true
  | _ => false
theorem visB_ok {sc : Scope} {x : Str} (h : visB sc x = true) : Vis sc x := by
  unfold visB at h
  unfold Vis
  cases q : sc.names.lookup x with
  | none => rw [q] at h; cases h
  | some k => cases k with
    | «local» => exact .inl rfl
    | cell => exact .inr (.inl rfl)
    | free => exact .inr (.inr rfl)
    | globalExplicit => rw [q] at h; cases h
    | globalImplicit => rw [q] at h; cases h
def locB (sc : Scope) (x : Str) : Bool := match sc.names.lookup x with
  | some .local => true
  | some .cell => true
  | _ => false
theorem locB_ok {sc : Scope} {x : Str} (h : locB sc x = true) : L2.Loc sc x := by
  unfold locB at h
  unfold L2.Loc
  cases q : sc.names.lookup x with
  | none => rw [q] at h; cases h
  | some k => cases k with
    | «local» => exact .inl rfl
    | cell => exact .inr rfl
    | free => rw [q] at h; cases h
    | globalExplicit => rw [q] at h; cases h
    | globalImplicit => rw [q] at h; cases h
def globB (sc : Scope) (x : Str) : Bool := match sc.names.lookup x with
  | some .globalImplicit => true
  | _ => false
theorem globB_ok {sc : Scope} {x : Str} (h : globB sc x = true) : sc.names.lookup x = some .globalImplicit := by
  unfold globB at h
  cases q : sc.names.lookup x with
  | none => rw [q] at h; cases h
  | some k => cases k with
    | globalImplicit => rfl
    | «local» => rw [q] at h; cases h
    | cell => rw [q] at h; cases h
    | free => rw [q] at h; cases h
    | globalExplicit => rw [q] at h; cases h
def plainN (x : Str) : Bool := !(x == ("__debug__" : Str)) && !(x == ("__classdict__" : Str)) && !(x == ("__name__" : Str))
theorem plainN_ok {x : Str} (h : plainN x = true) : (x == ("__debug__" : Str)) = false ∧ (x == ("__classdict__" : Str)) = false ∧ x ≠ "__name__" := by
  unfold plainN at h
  simp only [Bool.and_eq_true, Bool.not_eq_true'] at h
  exact ⟨h.1.1, h.1.2, fun e => by have := h.2; rw [e] at this; simp at this⟩
/-- a name of the def, at its place -/
def nameB (N : List String) (sc : Scope) (i : Nat) (x : Str) : Bool := visB sc x && (decide ((N.map enc)[i]? = some x) && plainN x)
theorem nameB_ok {N : List String} {sc : Scope} {i : Nat} {x : Str} (h : nameB N sc i x = true) : Vis sc x ∧ (N.map enc)[i]? = some x ∧ (x == ("__debug__" : Str)) = false ∧ (x == ("__classdict__" : Str)) = false := by
  unfold nameB at h
  simp only [Bool.and_eq_true] at h
  exact ⟨visB_ok h.1, of_decide_eq_true h.2.1, (plainN_ok h.2.2).1, (plainN_ok h.2.2).2.1⟩
def locNB (N : List String) (sc : Scope) (i : Nat) (x : Str) : Bool := locB sc x && decide ((N.map enc)[i]? = some x)
def noStar : Expr → Bool
  | .Starred _ _ => false
  | _ => true
theorem noStar_ok {e : Expr} {es : List Expr} {env : PySem.Env} (h : noStar e = true) : starEach (e :: es) env = (false, eval e env) :: starEach es env := by
  cases e with
  | Starred => exact Bool.noConfusion h
  | _ => rfl
def plainT : Expr → Bool
  | .UnaryOp op _ _ => match op with
    | .Not => false
    | _ => true
  | .BoolOp _ _ _ => false
  | .IfExp _ _ _ _ => false
  | .Compare _ _ _ _ => false
  | _ => true
theorem plainT_ok {e : Expr} {env : PySem.Env} (h : plainT e = true) (whole : Sem Value) : isTrue e env whole = (do let v ← whole; standAt e.pos; holding [v] (truthy v)) := by
  cases e with
  | UnaryOp op x p => cases op with
    | Not => exact Bool.noConfusion h
    | _ => rfl
  | BoolOp => exact Bool.noConfusion h
  | IfExp => exact Bool.noConfusion h
  | Compare => exact Bool.noConfusion h
  | _ => rfl
def noSlice : Expr → Bool
  | .Slice _ _ _ _ => false
  | _ => true
theorem noSlice_ok {e : Expr} (h : noSlice e = true) : PlainIx e := fun o i => by
  cases e with
  | Slice => exact Bool.noConfusion h
  | _ => rfl
def noSuper : Expr → Bool
  | .Call (.Name x _) [] [] _ => !(x == ("super" : Str))
  | _ => true
theorem noSuper_ok {e : Expr} {f : Str} {env : PySem.Env} {w : Sem Value} (h : noSuper e = true) : attributeBase e f env w = w := by
  unfold attributeBase
  split
  · next x p p2 =>
    have h2 : (x == ("super" : Str)) = false := by
      have h' : (!(x == ("super" : Str))) = true := h
      simpa using h'
    have h3 : (x != PySem.Str.ofString "super") = true := by
      have : (x == PySem.Str.ofString "super") = false := h2
      simp [bne, this]
    simp [h3]
  · rfl

/-- the module's names that must be Python's own -/
def BL : List String := ["len", "list", "tuple", "int", "sum", "sorted", "any", "all", "max", "min", "abs", "range", "enumerate", "zip", "reversed", "isinstance", "bool", "str", "dict", "set", "ValueError", "super"]
def bltB (sc : Scope) (s : String) (x : Str) : Bool := decide (x = enc s) && (globB sc x && decide (s ∈ BL))

/-- where expressions stand -/
structure CtxE (P : Program) (w : World) (K : PySem.W.Frag) (mg : Str → Option Value) (base : Heap) (N : List String) (sc : Scope) (n : Nat) (W : WX) (X : Cx) : Prop where
  eP : X.prog = P
  eW : X.w = w
  eK : X.K = K
  eM : X.mg = mg
  eB : X.base = base
  eN : X.N = N.map enc
  nd : X.N.Nodup
  eS : X.env.scope = sc
  calm : X.calm = true
  room : Room (2 * n + 1) X.A
  pa : ∀ σ, PassesAt (L2.CX X.prog X.w) X σ (WE W σ)

/-- the module's free names -/
def Free (mg : Str → Option Value) : Prop := ∀ s ∈ BL, mg (enc s) = none
section
variable {P : Program} {w : World} {K : PySem.W.Frag} {mg : Str → Option Value} {base : Heap} {N : List String} {sc : Scope} {n : Nat} {W : WX} {X : Cx}
theorem CtxE.glob (C : CtxE P w K mg base N sc n W X) {x : Str} (h : globB sc x = true) : Gl X x := by
  show X.env.scope.names.lookup x = some .globalImplicit
  rw [C.eS]; exact globB_ok h
theorem CtxE.name (C : CtxE P w K mg base N sc n W X) {i : Nat} {x : Str} {p : Pos} (h : nameB N sc i x = true) : PE X (.Name x p) (tVar i) := by
  obtain ⟨a, b, c, d⟩ := nameB_ok h
  exact pe_var (by rw [C.eN]; exact b) (by rw [C.eS]; exact a) c d
theorem bltB_ok {s : String} {x : Str} (h : bltB sc s x = true) : x = enc s ∧ globB sc x = true ∧ s ∈ BL := by
  unfold bltB at h
  simp only [Bool.and_eq_true] at h
  exact ⟨of_decide_eq_true h.1, h.2.1, of_decide_eq_true h.2.2⟩
theorem CtxE.blt (C : CtxE P w K mg base N sc n W X) (F : Free mg) {s : String} {x : Str} (h : bltB sc s x = true) : Gl X x ∧ X.mg x = none ∧ x = enc s := by
  obtain ⟨a, b, c⟩ := bltB_ok h
  exact ⟨C.glob b, by rw [C.eM, a]; exact F s c, a⟩
end

/-! ### single expressions -/
section
variable {X : Cx} {W : WX} {e a b c : Expr} {pos : Pos} {i : Nat} {f g : Env → Ev D} {fa fb fc : Env → Ev Ar}
theorem snd_var {x : Str} (h : PE X (.Name x pos) (tVar i)) : PE X (.Name x pos) (tX X.K W (rF X.K) (fun r => match get r i with | .va d => .ok d r | _ => .no)) :=
  h.imp fun σ H Q ⟨r, G, s, q⟩ => by
    dsimp only at q
    cases z : get r i with
    | va d =>
      obtain ⟨v, e1, e2⟩ := s.frozen z
      rw [z] at q
      exact ⟨v, e1, q.fin (.refl s) e2⟩
    | un => rw [z] at q; exact q.elim
    | ow b d => rw [z] at q; exact q.elim
    | lk b d => rw [z] at q; exact q.elim
theorem snd_frz {x : Str} (h : PE X (.Name x pos) (tVar i)) : PE X (.Name x pos) (tX X.K W (rF X.K) (fun r => match get r i with | .va d => .ok d r | .ow false d => .ok d (put r i (.va d)) | _ => .no)) :=
  h.imp fun σ H Q ⟨r, G, s, q⟩ => by
    dsimp only at q
    cases z : get r i with
    | va d =>
      obtain ⟨v, e1, e2⟩ := s.frozen z
      rw [z] at q
      exact ⟨v, e1, q.fin (.refl s) e2⟩
    | un => rw [z] at q; exact q.elim
    | ow b d =>
      cases b with
      | true => rw [z] at q; exact q.elim
      | false =>
        rw [z] at q
        obtain ⟨p, o, e1, e2, st⟩ := Step.freeze s z
        exact ⟨.ref p, e1, q _ _ _ st e2⟩
    | lk b d => rw [z] at q; exact q.elim
/-- a name as an operand -/
theorem snd_pkv {x : Str} (h : PE X (.Name x pos) (tVar i)) (m : Env → Ev D) : PE X (.Name x pos) (tX X.K W (rA X.K) (fun r => pk (.var i) r (m r))) :=
  h.imp fun σ H Q ⟨r, G, s, q⟩ => by
    simp only [pk] at q
    cases z : get r i with
    | va d =>
      obtain ⟨v, e1, e2⟩ := s.frozen z
      rw [z] at q
      exact ⟨v, e1, q.fin (.refl s) e2⟩
    | un => rw [z] at q; exact q.elim
    | ow b d =>
      rw [z] at q
      obtain ⟨p, o, e1, e2, _⟩ := s.owned z
      exact ⟨_, e1, q.fin (.refl s) e1⟩
    | lk b d =>
      rw [z] at q
      obtain ⟨p, o, e1, e2, _⟩ := s.locked z
      exact ⟨_, e1, q.fin (.refl s) e1⟩
theorem snd_pk (h : PE X e (tX X.K W (rF X.K) f)) : PE X e (tX X.K W (rA X.K) (fun r => (f r).bind fun d r1 => .ok (.v d) r1)) :=
  h.imp fun σ H Q ⟨r, G, s, q⟩ => ⟨r, G, s, q.seq rmA fun a r1 v G1 H1 t h2 q2 => q2.fin (.refl t.st) h2⟩
theorem snd_froze (h : PE X e (tX X.K W (rN X.K) f)) : PE X e (tX X.K W (rF X.K) f) :=
  h.imp fun σ H Q ⟨r, G, s, q⟩ => ⟨r, G, s, q.froze⟩
/-- a constant -/
theorem snd_con {v : V} {d : D} (h : PE X e (tC v)) (hd : ∀ G, Rep X.K G v d) : PE X e (tX X.K W (rF X.K) (fun r => .ok d r)) :=
  h.imp fun σ H Q ⟨r, G, s, q⟩ => q.fin (.refl s) (hd G)

/-- one operand -/
theorem snd_un {z : V → Hp → VK → Prop} {t : TE} {sem : D → Option D} (ha : PE X a (tX X.K W (rA X.K) fa)) (rule : ∀ {ta : TE}, PE X a ta → PE X e (fun σ H Q => ta σ H fun x H1 => z x H1 Q))
    (ok : ∀ x d d' r σ G H Q, StRel X.K r σ G H → Pk X.K G H x d → sem d = some d' → PX X.K W (rF X.K) r σ G H (.ok d' r) Q → z x H Q) :
    PE X e (tX X.K W (rF X.K) (fun r => (fa r).bind fun x r1 => .of r1 ((drf r1 x).bind sem))) :=
  (rule ha).imp fun σ H Q ⟨r, G, s, q⟩ => ⟨r, G, s, q.seq rmF fun A r1 v G1 H1 t h2 q2 => by
    obtain ⟨d', e1, q3⟩ := q2.of
    obtain ⟨d, e2, e3⟩ := Option.bind_eq_some_iff.mp e1
    exact ok v d d' r1 σ G1 H1 Q t.st (h2.drf t.st e2) e3 q3⟩
theorem snd_unN {z : V → Hp → VK → Prop} {t : TE} {sem : D → Option D} (ha : PE X a (tX X.K W (rA X.K) fa)) (rule : ∀ {ta : TE}, PE X a ta → PE X e (fun σ H Q => ta σ H fun x H1 => z x H1 Q))
    (ok : ∀ x d d' r σ G H Q, StRel X.K r σ G H → Pk X.K G H x d → sem d = some d' → PX X.K W (rN X.K) r σ G H (.ok d' r) Q → z x H Q) :
    PE X e (tX X.K W (rN X.K) (fun r => (fa r).bind fun x r1 => .of r1 ((drf r1 x).bind sem))) :=
  (rule ha).imp fun σ H Q ⟨r, G, s, q⟩ => ⟨r, G, s, q.seq rmN fun A r1 v G1 H1 t h2 q2 => by
    obtain ⟨d', e1, q3⟩ := q2.of
    obtain ⟨d, e2, e3⟩ := Option.bind_eq_some_iff.mp e1
    exact ok v d d' r1 σ G1 H1 Q t.st (h2.drf t.st e2) e3 q3⟩
/-- two operands -/
theorem snd_bin {z : R2} {sem : D → D → Option D} (ha : PE X a (tX X.K W (rA X.K) fa)) (hb : PE X b (tX X.K W (rA X.K) fb)) (rule : ∀ {ta tb : TE}, PE X a ta → PE X b tb → PE X e (tOp z ta tb))
    (ok : ∀ x y d d2 d' r σ G H Q, StRel X.K r σ G H → Pk X.K G H x d → Pk X.K G H y d2 → sem d d2 = some d' → PX X.K W (rF X.K) r σ G H (.ok d' r) Q → z x y H Q) :
    PE X e (tX X.K W (rF X.K) (fun r => (fa r).bind fun x r1 => (fb r1).bind fun y r2 => .of r2 ((drf r2 x).bind fun x => (drf r2 y).bind fun y => sem x y))) :=
  (rule ha hb).imp fun σ H Q ⟨r, G, s, q⟩ => ⟨r, G, s, q.seq rmF fun A r1 v G1 H1 t h2 q2 => ⟨r1, G1, t.st, q2.seq rmF fun B r2 u G2 H2 t2 h3 q3 => by
    obtain ⟨d', e1, q4⟩ := q3.of
    obtain ⟨d, e2, e3⟩ := Option.bind_eq_some_iff.mp e1
    obtain ⟨d2, e4, e5⟩ := Option.bind_eq_some_iff.mp e3
    exact ok v u d d2 d' r2 σ G2 H2 Q t2.st ((h2.step t2).drf t2.st e2) (RepA.drf h3 t2.st e4) e5 q4⟩⟩
theorem snd_binN {z : R2} {sem : D → D → Option D} (ha : PE X a (tX X.K W (rA X.K) fa)) (hb : PE X b (tX X.K W (rA X.K) fb)) (rule : ∀ {ta tb : TE}, PE X a ta → PE X b tb → PE X e (tOp z ta tb))
    (ok : ∀ x y d d2 d' r σ G H Q, StRel X.K r σ G H → Pk X.K G H x d → Pk X.K G H y d2 → sem d d2 = some d' → PX X.K W (rN X.K) r σ G H (.ok d' r) Q → z x y H Q) :
    PE X e (tX X.K W (rN X.K) (fun r => (fa r).bind fun x r1 => (fb r1).bind fun y r2 => .of r2 ((drf r2 x).bind fun x => (drf r2 y).bind fun y => sem x y))) :=
  (rule ha hb).imp fun σ H Q ⟨r, G, s, q⟩ => ⟨r, G, s, q.seq rmN fun A r1 v G1 H1 t h2 q2 => ⟨r1, G1, t.st, q2.seq rmN fun B r2 u G2 H2 t2 h3 q3 => by
    obtain ⟨d', e1, q4⟩ := q3.of
    obtain ⟨d, e2, e3⟩ := Option.bind_eq_some_iff.mp e1
    obtain ⟨d2, e4, e5⟩ := Option.bind_eq_some_iff.mp e3
    exact ok v u d d2 d' r2 σ G2 H2 Q t2.st ((h2.step t2).drf t2.st e2) (RepA.drf h3 t2.st e4) e5 q4⟩⟩
end
end CW

set_option Elab.async false
set_option linter.all false
set_option maxRecDepth 100000
/-! The small language's operators and built-in calls, one by one. -/
namespace CW
open PySem PySem.Spec PyProof.Rows L2

theorem sz_line : SZ = sizeLine := by rw [sizeLine_eq]; rfl
theorem backTo_plain {pos : Pos} {env : PySem.Env} : ∀ {es : List Expr}, es.all noStar = true → (backTo pos (starEach es env)).any (·.1) = false
  | [], _ => rfl
  | e :: es, h => by
    have h' : noStar e = true ∧ es.all noStar = true := by simpa using h
    rw [noStar_ok h'.1]
    show (false || (backTo pos (starEach es env)).any (·.1)) = false
    rw [backTo_plain h'.2]; rfl

/-! ### equality -/
mutual
def toPy : D → PyData
  | .non => .none | .bl b => .bool b | .int i => .int i | .str s => .str (enc s)
  | .lst l => .list (toPys l) | .tup l => .tuple (toPys l)
  | .ins _ _ _ => .dict [] | .scr _ => .dict []
def toPys : List D → List PyData
  | [] => []
  | d :: ds => toPy d :: toPys ds
end
theorem strOk_enc (s : String) : PyData.strOk (enc s) = true := by
  unfold PyData.strOk enc
  rw [Array.all_eq_true]
  intro i hi
  simp only [List.getElem_toArray, List.getElem_map]
  exact decide_eq_true (by
    have := (s.toList[i]'(by simpa using hi)).valid
    rcases this with h | h
    · have : (s.toList[i]'(by simpa using hi)).toNat < 0xd800 := h
      omega
    · exact h.2)
section
variable {K : PySem.W.Frag} {G H : Hp}
mutual
theorem dp_of (s : Same G H) : ∀ (n : Nat) (d : D) (v : V), dOk n d = true → Rep K G v d → Dp K H v (toPy d) ∧ (toPy d).canLay0 = true ∧ (toPy d).depth ≤ n
  | n, .non, _, _, h => by cases h; exact ⟨.non, rfl, Nat.zero_le _⟩
  | n, .bl b, _, _, h => by cases h; exact ⟨.bl b, rfl, Nat.zero_le _⟩
  | n, .int i, _, _, h => by cases h; exact ⟨.int i, rfl, Nat.zero_le _⟩
  | n, .str x, _, _, h => by cases h; exact ⟨.str _, strOk_enc x, Nat.zero_le _⟩
  | 0, .lst l, _, o, h => by simp [dOk] at o
  | n + 1, .lst l, _, o, h => by
    cases h with
    | lst e r =>
      obtain ⟨a, b, c⟩ := dps_of s n l _ (by simpa [dOk] using o) r
      exact ⟨.lst (SqL.of (s _ _ e)) a, by simpa [toPy, PyData.canLay0] using b, by simp only [toPy, PyData.depth]; omega⟩
  | 0, .tup l, _, o, h => by simp [dOk] at o
  | n + 1, .tup l, _, o, h => by
    cases h with
    | tup e r =>
      obtain ⟨a, b, c⟩ := dps_of s n l _ (by simpa [dOk] using o) r
      exact ⟨.tup (SqT.of (s _ _ e)) a, by simpa [toPy, PyData.canLay0] using b, by simp only [toPy, PyData.depth]; omega⟩
  | n, .ins _ _ _, _, o, h => by cases n <;> simp [dOk] at o
  | n, .scr _, _, o, h => by cases n <;> simp [dOk] at o
theorem dps_of (s : Same G H) : ∀ (n : Nat) (ds : List D) (vs : List V), dsOk n ds = true → Reps K G vs ds → DpAll K H vs (toPys ds) ∧ PyData.canLayAll0 (toPys ds) = true ∧ PyData.depthAll (toPys ds) ≤ n
  | n, [], _, _, h => by cases h; exact ⟨.nil, rfl, Nat.zero_le _⟩
  | n, d :: ds, _, o, h => by
    cases h with
    | cons h r =>
      have o' : dOk n d = true ∧ dsOk n ds = true := by simpa [dsOk] using o
      obtain ⟨a, b, c⟩ := dp_of s n d _ o'.1 h
      obtain ⟨a2, b2, c2⟩ := dps_of s n ds _ o'.2 r
      exact ⟨.cons a a2, by simp [toPys, PyData.canLayAll0, b, b2], by simp only [toPys, PyData.depthAll]; omega⟩
end
theorem pk_dp (s : Same G H) {n : Nat} {d : D} {v : V} (o : dOk n d = true) (h : Pk K G H v d) : Dp K H v (toPy d) ∧ (toPy d).canLay0 = true ∧ (toPy d).depth ≤ n := by
  rcases h with h | ⟨p, ob, rfl, e, h⟩
  · exact dp_of s n d v o h
  · cases d with
    | lst l =>
      obtain ⟨vs, rfl, r⟩ := h
      cases n with
      | zero => simp [dOk] at o
      | succ n =>
        obtain ⟨a, b, c⟩ := dps_of s n l _ (by simpa [dOk] using o) r
        exact ⟨.lst (SqL.of e) a, by simpa [toPy, PyData.canLay0] using b, by simp only [toPy, PyData.depth]; omega⟩
    | ins c ns ds => cases n <;> simp [dOk] at o
    | _ => exact h.elim
end
theorem shaped_of {d : PyData} {n : Nat} (h : d.canLay0 = true) (h2 : d.depth ≤ n) (hn : n ≤ 64) : SeqAt.shaped d = true := by
  unfold SeqAt.shaped
  rw [h]
  exact decide_eq_true (Nat.le_trans h2 hn)
theorem enc_beq (a b : String) : (enc a == enc b) = (a == b) := by
  by_cases h : a = b
  · subst h; simp
  · have h2 : enc a ≠ enc b := fun e => h (enc_inj e)
    rw [beq_eq_false_iff_ne.mpr h, beq_eq_false_iff_ne.mpr h2]
mutual
theorem deq_eqv : ∀ (n m : Nat) (d e : D), dOk n d = true → dOk m e = true → PyData.eqv (toPy d) (toPy e) = deq d e
  | n, m, .non, e, _, he => by cases e <;> first | rfl | (cases m <;> simp [dOk] at he)
  | n, m, .bl a, e, _, he => by cases e <;> first | rfl | (cases m <;> simp [dOk] at he)
  | n, m, .int a, e, _, he => by cases e <;> first | rfl | (cases m <;> simp [dOk] at he)
  | n, m, .str a, e, _, he => by
    cases e with
    | str b => simp only [toPy, PyData.eqv, deq]; exact enc_beq a b
    | ins => cases m <;> simp [dOk] at he
    | scr => cases m <;> simp [dOk] at he
    | _ => rfl
  | 0, m, .lst l, e, h, _ => by simp [dOk] at h
  | n + 1, m, .lst l, e, h, he => by
    cases e with
    | lst l2 =>
      cases m with
      | zero => simp [dOk] at he
      | succ m => simp only [toPy, PyData.eqv, deq]; exact deqs_eqv n m l l2 (by simpa [dOk] using h) (by simpa [dOk] using he)
    | ins => cases m <;> simp [dOk] at he
    | scr => cases m <;> simp [dOk] at he
    | _ => rfl
  | 0, m, .tup l, e, h, _ => by simp [dOk] at h
  | n + 1, m, .tup l, e, h, he => by
    cases e with
    | tup l2 =>
      cases m with
      | zero => simp [dOk] at he
      | succ m => simp only [toPy, PyData.eqv, deq]; exact deqs_eqv n m l l2 (by simpa [dOk] using h) (by simpa [dOk] using he)
    | ins => cases m <;> simp [dOk] at he
    | scr => cases m <;> simp [dOk] at he
    | _ => rfl
  | n, m, .ins _ _ _, e, h, _ => by cases n <;> simp [dOk] at h
  | n, m, .scr _, e, h, _ => by cases n <;> simp [dOk] at h
theorem deqs_eqv : ∀ (n m : Nat) (d e : List D), dsOk n d = true → dsOk m e = true → PyData.eqvAll (toPys d) (toPys e) = deqs d e
  | n, m, [], [], _, _ => rfl
  | n, m, [], _ :: _, _, _ => rfl
  | n, m, _ :: _, [], _, _ => rfl
  | n, m, x :: xs, y :: ys, h, he => by
    have h' : dOk n x = true ∧ dsOk n xs = true := by simpa [dsOk] using h
    have he' : dOk m y = true ∧ dsOk m ys = true := by simpa [dsOk] using he
    simp only [toPys, PyData.eqvAll, deqs]
    rw [deq_eqv n m x y h'.1 he'.1, deqs_eqv n m xs ys h'.2 he'.2]
end
theorem any_eqv (n m : Nat) (d : D) (h : dOk m d = true) : ∀ (l : List D), dsOk n l = true → (toPys l).any (fun z => PyData.eqv z (toPy d)) = l.any fun z => deq z d
  | [], _ => rfl
  | x :: xs, o => by
    have o' : dOk n x = true ∧ dsOk n xs = true := by simpa [dsOk] using o
    simp only [toPys, List.any_cons]
    rw [deq_eqv n m x d o'.1 h, any_eqv n m d h xs o'.2]

/-! ### truth -/
theorem tru_ok' {K : PySem.W.Frag} {G H : Hp} {v : V} {d : D} {k : Bool} (s : Same G H) (h : Pk K G H v d) (e : tru d = some k) : TruV K v H k := by
  cases d with
  | non => obtain rfl := h.non; exact (Option.some.inj e).symm
  | bl b => obtain rfl := h.bl; exact (Option.some.inj e).symm
  | int i => obtain rfl := h.int; exact (Option.some.inj e).symm
  | str x => cases e
  | lst l =>
    obtain ⟨a, vs, rfl, e1, r⟩ := h.lst s
    refine .inl ⟨vs, SqL.of e1, ?_⟩
    have : k = !l.isEmpty := (Option.some.inj e).symm
    rw [this]
    cases r <;> rfl
  | tup l =>
    obtain ⟨a, vs, rfl, e1, r⟩ := h.tup
    refine .inr (.inl ⟨vs, SqT.of (s _ _ e1), ?_⟩)
    have : k = !l.isEmpty := (Option.some.inj e).symm
    rw [this]
    cases r <;> rfl
  | ins => cases e
  | scr => cases e

/-! ### sorting -/
theorem insI_perm (x : Int) : ∀ l : List Int, (insI x l).Perm (x :: l)
  | [] => .refl _
  | y :: r => by
    unfold insI
    by_cases h : x ≤ y
    · rw [if_pos h]
    · rw [if_neg h]; exact ((insI_perm x r).cons y).trans (.swap x y r)
theorem isort_perm : ∀ l : List Int, (isort l).Perm l
  | [] => .refl _
  | x :: r => (insI_perm x (isort r)).trans ((isort_perm r).cons x)
theorem insI_sorted (x : Int) : ∀ {l : List Int}, l.Pairwise (· ≤ ·) → (insI x l).Pairwise (· ≤ ·)
  | [], _ => by simp [insI]
  | y :: r, h => by
    unfold insI
    rw [List.pairwise_cons] at h
    by_cases q : x ≤ y
    · rw [if_pos q]
      refine List.pairwise_cons.mpr ⟨fun z hz => ?_, List.pairwise_cons.mpr h⟩
      rcases List.mem_cons.mp hz with rfl | hz
      · exact q
      · exact Int.le_trans q (h.1 z hz)
    · rw [if_neg q]
      refine List.pairwise_cons.mpr ⟨fun z hz => ?_, insI_sorted x h.2⟩
      rcases List.mem_cons.mp ((insI_perm x r).mem_iff.mp hz) with rfl | hz
      · omega
      · exact h.1 z hz
theorem isort_sorted : ∀ l : List Int, (isort l).Pairwise (· ≤ ·)
  | [] => .nil
  | x :: r => insI_sorted x (isort_sorted r)
theorem sorted_uniq : ∀ {l m : List Int}, l.Perm m → l.Pairwise (· ≤ ·) → m.Pairwise (· ≤ ·) → l = m
  | l, m, p, hl, hm => p.eq_of_pairwise (fun a b _ _ h1 h2 => Int.le_antisymm h1 h2) hl hm

/-! ### greatest, least -/
theorem foldl_max (l : List Int) : ∀ x : Int, (∀ y ∈ x :: l, y ≤ l.foldl (fun a b => if b > a then b else a) x) ∧ l.foldl (fun a b => if b > a then b else a) x ∈ x :: l := by
  induction l with
  | nil => intro x; exact ⟨fun y hy => by simp at hy; subst hy; exact Int.le_refl _, by simp⟩
  | cons z r ih =>
    intro x
    obtain ⟨h1, h2⟩ := ih (if z > x then z else x)
    refine ⟨fun y hy => ?_, ?_⟩
    · have hx : (if z > x then z else x) ≤ (z :: r).foldl (fun a b => if b > a then b else a) x := h1 _ List.mem_cons_self
      rcases List.mem_cons.mp hy with rfl | hy
      · refine Int.le_trans ?_ hx; split <;> omega
      · rcases List.mem_cons.mp hy with rfl | hy
        · refine Int.le_trans ?_ hx; split <;> omega
        · exact h1 y (List.mem_cons_of_mem _ hy)
    · show r.foldl _ _ ∈ _
      rcases List.mem_cons.mp h2 with h | h
      · rw [h]; split
        · exact List.mem_cons_of_mem _ List.mem_cons_self
        · exact List.mem_cons_self
      · exact List.mem_cons_of_mem _ (List.mem_cons_of_mem _ h)
theorem foldl_min (l : List Int) : ∀ x : Int, (∀ y ∈ x :: l, l.foldl (fun a b => if b < a then b else a) x ≤ y) ∧ l.foldl (fun a b => if b < a then b else a) x ∈ x :: l := by
  induction l with
  | nil => intro x; exact ⟨fun y hy => by simp at hy; subst hy; exact Int.le_refl _, by simp⟩
  | cons z r ih =>
    intro x
    obtain ⟨h1, h2⟩ := ih (if z < x then z else x)
    refine ⟨fun y hy => ?_, ?_⟩
    · have hx : (z :: r).foldl (fun a b => if b < a then b else a) x ≤ (if z < x then z else x) := h1 _ List.mem_cons_self
      rcases List.mem_cons.mp hy with rfl | hy
      · refine Int.le_trans hx ?_; split <;> omega
      · rcases List.mem_cons.mp hy with rfl | hy
        · refine Int.le_trans hx ?_; split <;> omega
        · exact h1 y (List.mem_cons_of_mem _ hy)
    · show r.foldl _ _ ∈ _
      rcases List.mem_cons.mp h2 with h | h
      · rw [h]; split
        · exact List.mem_cons_of_mem _ List.mem_cons_self
        · exact List.mem_cons_self
      · exact List.mem_cons_of_mem _ (List.mem_cons_of_mem _ h)
theorem maxL_uniq {ns : List Int} {x m : Int} (h : maxL ns = some x) (h1 : m ∈ ns) (h2 : ∀ y, y ∈ ns → y ≤ m) : m = x := by
  cases ns with
  | nil => cases h
  | cons a r =>
    obtain rfl : _ = x := Option.some.inj h
    obtain ⟨q1, q2⟩ := foldl_max r a
    exact Int.le_antisymm (q1 m h1) (h2 _ q2)
theorem minL_uniq {ns : List Int} {x m : Int} (h : minL ns = some x) (h1 : m ∈ ns) (h2 : ∀ y, y ∈ ns → m ≤ y) : m = x := by
  cases ns with
  | nil => cases h
  | cons a r =>
    obtain rfl : _ = x := Option.some.inj h
    obtain ⟨q1, q2⟩ := foldl_min r a
    exact Int.le_antisymm (h2 _ q2) (q1 m h1)
end CW

set_option Elab.async false
set_option linter.all false
set_option maxRecDepth 100000
namespace CW
open PySem PySem.Spec PyProof.Rows L2

/-! ### the text of an operator -/
/-- s(a) -/
def callOf (sc : Scope) (s : String) : Expr → Option Expr
  | .Call (.Name x _) [a] [] _ => if bltB sc s x && noStar a then some a else none
  | _ => none
def call2Of (sc : Scope) (s : String) : Expr → Option (Expr × Expr)
  | .Call (.Name x _) [a, b] [] _ => if bltB sc s x && (noStar a && noStar b) then some (a, b) else none
  | _ => none
def unNeg : Expr → Option Expr
  | .UnaryOp .USub a _ => some a
  | _ => none
def unNot : Expr → Option Expr
  | .UnaryOp .Not a _ => some a
  | _ => none
def unIsN : Expr → Option Expr
  | .Compare a [.Is] [.Constant .none _ _] _ => some a
  | _ => none
def unNotN : Expr → Option Expr
  | .Compare a [.IsNot] [.Constant .none _ _] _ => some a
  | _ => none
def unRevs : Expr → Option Expr
  | .Subscript a (.Slice none none (some (.UnaryOp .USub (.Constant (.int 1) _ _) _)) _) _ => some a
  | _ => none
def un1 (sc : Scope) (p : P1) (e : Expr) : Option Expr :=
  match p with
  | .neg => unNeg e
  | .notv => unNot e
  | .isN => unIsN e
  | .notN => unNotN e
  | .revs => unRevs e
  | .len => callOf sc "len" e | .list => callOf sc "list" e | .tuple => callOf sc "tuple" e | .int => callOf sc "int" e
  | .sum => callOf sc "sum" e | .sorted => callOf sc "sorted" e | .any => callOf sc "any" e | .all => callOf sc "all" e
  | .max => callOf sc "max" e | .min => callOf sc "min" e | .abs => callOf sc "abs" e
theorem callOf_ok {sc : Scope} {s : String} {e a : Expr} (h : callOf sc s e = some a) : ∃ x px pos, e = .Call (.Name x px) [a] [] pos ∧ bltB sc s x = true ∧ noStar a = true := by
  unfold callOf at h
  split at h
  · next x px a' pos =>
    split at h
    · next hb =>
      obtain rfl : a' = a := Option.some.inj h
      simp only [Bool.and_eq_true] at hb
      exact ⟨x, px, pos, rfl, hb.1, hb.2⟩
    · cases h
  · cases h
theorem call2Of_ok {sc : Scope} {s : String} {e : Expr} {a : Expr × Expr} (h : call2Of sc s e = some a) : ∃ x px pos, e = .Call (.Name x px) [a.1, a.2] [] pos ∧ bltB sc s x = true ∧ noStar a.1 = true ∧ noStar a.2 = true := by
  unfold call2Of at h
  split at h
  · next x px a' b' pos =>
    split at h
    · next hb =>
      obtain rfl := Option.some.inj h
      simp only [Bool.and_eq_true] at hb
      exact ⟨x, px, pos, rfl, hb.1, hb.2.1, hb.2.2⟩
    · cases h
  · cases h
theorem unNeg_ok {e a : Expr} (h : unNeg e = some a) : ∃ p, e = .UnaryOp .USub a p := by
  unfold unNeg at h
  split at h
  · next a' p => obtain rfl := Option.some.inj h; exact ⟨p, rfl⟩
  · cases h
theorem unNot_ok {e a : Expr} (h : unNot e = some a) : ∃ p, e = .UnaryOp .Not a p := by
  unfold unNot at h
  split at h
  · next a' p => obtain rfl := Option.some.inj h; exact ⟨p, rfl⟩
  · cases h
theorem unIsN_ok {e a : Expr} (h : unIsN e = some a) : ∃ k p p2, e = .Compare a [.Is] [.Constant .none k p] p2 := by
  unfold unIsN at h
  split at h
  · obtain rfl := Option.some.inj h; exact ⟨_, _, _, rfl⟩
  · cases h
theorem unNotN_ok {e a : Expr} (h : unNotN e = some a) : ∃ k p p2, e = .Compare a [.IsNot] [.Constant .none k p] p2 := by
  unfold unNotN at h
  split at h
  · obtain rfl := Option.some.inj h; exact ⟨_, _, _, rfl⟩
  · cases h
theorem unRevs_ok {e a : Expr} (h : unRevs e = some a) : ∃ k p p2 p3 p4, e = .Subscript a (.Slice none none (some (.UnaryOp .USub (.Constant (.int 1) k p) p2)) p3) p4 := by
  unfold unRevs at h
  split at h
  · obtain rfl := Option.some.inj h; exact ⟨_, _, _, _, _, rfl⟩
  · cases h
def bop2 : P2 → Option Operator
  | .add => some .Add | .cat => some .Add | .sub => some .Sub | .mul => some .Mult | .rep => some .Mult | .fdiv => some .FloorDiv | .mod => some .Mod | .pow => some .Pow | .band => some .BitAnd | .bxor => some .BitXor
  | _ => none
def cop2 : P2 → Option CmpOp
  | .eq => some .Eq | .ne => some .NotEq | .lt => some .Lt | .le => some .LtE | .gt => some .Gt | .ge => some .GtE | .inn => some .In | .nin => some .NotIn | .isb => some .Is | .nisb => some .IsNot
  | _ => none
def fn2 : P2 → Option String
  | .max2 => some "max" | .min2 => some "min"
  | _ => none
def noSet : Expr → Bool
  | .Set _ _ _ => false
  | _ => true
theorem noSet_ok {e : Expr} {op : CmpOp} (h : noSet e = true) : behindInMarks op e = false := by
  cases e with
  | Set => exact Bool.noConfusion h
  | _ => rfl

abbrev IsNew (p : P1) : Bool := match p with
  | .list => true | .sorted => true | .revs => true | _ => false
section
variable {X : Cx} {W : WX} {r : Env} {σ : L2.St} {G H : Hp} {Q : VK} {x y : V} {d d2 d' : D}
abbrev Fin1 (X : Cx) (W : WX) (r : Env) (σ : L2.St) (G H : Hp) (d' : D) (Q : VK) : Prop := PX X.K W (rF X.K) r σ G H (.ok d' r) Q
theorem fin_v (s : StRel X.K r σ G H) (q : Fin1 X W r σ G H d' Q) {v : V} (h : Rep X.K G v d') : Q v H := q.fin (.refl s) h

theorem seqL {vs : List V} {a : Addr} (h : H a = some (.lst vs)) : SqL X.K H a vs := SqL.of h

theorem ok_neg (s : StRel X.K r σ G H) (h : Pk X.K G H x d) (e : sem1 .neg d = some d') (q : Fin1 X W r σ G H d' Q) : ∃ i, x = .int i ∧ Q (.int (-i)) H := by
  cases d with
  | int i => obtain rfl : _ = d' := Option.some.inj e; exact ⟨i, h.int, fin_v s q (.int _)⟩
  | _ => cases e
theorem ok_notv (s : StRel X.K r σ G H) (h : Pk X.K G H x d) (e : sem1 .notv d = some d') (q : Fin1 X W r σ G H d' Q) : ∃ k, TruV X.K x H k ∧ Q (.bl (!k)) H := by
  obtain ⟨k, e1, rfl⟩ := Option.map_eq_some_iff.mp (show (tru d).map (fun b => D.bl (!b)) = some d' by cases d <;> exact e)
  exact ⟨k, tru_ok' s.sub h e1, fin_v s q (.bl _)⟩
def nonB : D → Bool
  | .non => true
  | _ => false
theorem pk_isnon (h : Pk X.K G H x d) (hs : ∀ l, d ≠ .scr l) : decide (x = .non) = nonB d := by
  cases d with
  | non => rw [h.non]; rfl
  | bl b => rw [h.bl]; rfl
  | int i => rw [h.int]; rfl
  | str z => rw [h.str]; rfl
  | lst l =>
    rcases h with h | ⟨p, o, rfl, _⟩
    · cases h; rfl
    · rfl
  | tup l =>
    rcases h with h | ⟨p, o, rfl, _⟩
    · cases h; rfl
    · rfl
  | ins c ns ds =>
    rcases h with h | ⟨p, o, rfl, _⟩
    · cases h; rfl
    · rfl
  | scr l => exact absurd rfl (hs l)
theorem ok_isN (s : StRel X.K r σ G H) (h : Pk X.K G H x d) (e : sem1 .isN d = some d') (q : Fin1 X W r σ G H d' Q) : Q (.bl (decide (x = .non))) H := by
  rw [pk_isnon h (fun l z => by subst z; cases e)]
  cases d <;> first | (obtain rfl : _ = d' := Option.some.inj e; exact fin_v s q (.bl _)) | cases e
theorem ok_notN (s : StRel X.K r σ G H) (h : Pk X.K G H x d) (e : sem1 .notN d = some d') (q : Fin1 X W r σ G H d' Q) : Q (.bl (!decide (x = .non))) H := by
  rw [pk_isnon h (fun l z => by subst z; cases e)]
  cases d <;> first | (obtain rfl : _ = d' := Option.some.inj e; exact fin_v s q (.bl _)) | cases e
theorem ok_len (s : StRel X.K r σ G H) (h : Pk X.K G H x d) (e : sem1 .len d = some d') (q : Fin1 X W r σ G H d' Q) : ∃ z n, [x] = [z] ∧ LenV X.K z H n ∧ Q (.int n) H := by
  cases d with
  | lst l =>
    obtain rfl : _ = d' := Option.some.inj e
    obtain ⟨a, vs, rfl, e1, rr⟩ := h.lst s.sub
    exact ⟨_, vs.length, rfl, .inl ⟨vs, SqL.of e1, rfl⟩, by rw [rr.length]; exact fin_v s q (.int _)⟩
  | tup l =>
    obtain rfl : _ = d' := Option.some.inj e
    obtain ⟨a, vs, rfl, e1, rr⟩ := h.tup
    exact ⟨_, vs.length, rfl, .inr ⟨vs, SqT.of (s.sub _ _ e1), rfl⟩, by rw [rr.length]; exact fin_v s q (.int _)⟩
  | scr l =>
    obtain rfl : _ = d' := Option.some.inj e
    obtain ⟨a, rfl, e1⟩ := h.scr
    exact ⟨_, (l.map V.int).length, rfl, .inl ⟨_, s.sub.seq e1, rfl⟩, by rw [List.length_map]; exact fin_v s q (.int _)⟩
  | _ => cases e
theorem ok_list (s : StRel X.K r σ G H) (h : Pk X.K G H x d) (e : sem1 .list d = some d') (q : PX X.K W (rN X.K) r σ G H (.ok d' r) Q) : ∃ p ys, [x] = [V.ref p] ∧ (SqL X.K H p ys ∨ SqT X.K H p ys) ∧ ∀ l, H l = none → Q (.ref l) (upd H l (.lst ys)) := by
  cases d with
  | lst l =>
    obtain rfl : _ = d' := Option.some.inj e
    obtain ⟨a, vs, rfl, e1, rr⟩ := h.lst s.sub
    exact ⟨a, vs, rfl, .inl (SqL.of e1), fun p hp => fin_lst s rr q hp⟩
  | tup l =>
    obtain rfl : _ = d' := Option.some.inj e
    obtain ⟨a, vs, rfl, e1, rr⟩ := h.tup
    exact ⟨a, vs, rfl, .inr (SqT.of (s.sub _ _ e1)), fun p hp => fin_lst s rr q hp⟩
  | _ => cases e
theorem ok_tuple (s : StRel X.K r σ G H) (h : Pk X.K G H x d) (e : sem1 .tuple d = some d') (q : Fin1 X W r σ G H d' Q) : ∃ p ys, [x] = [V.ref p] ∧ ((SqL X.K H p ys ∧ ∀ l, H l = none → Q (.ref l) (upd H l (.tup ys))) ∨ (SqT X.K H p ys ∧ Q (.ref p) H)) := by
  cases d with
  | lst l =>
    obtain rfl : _ = d' := Option.some.inj e
    obtain ⟨a, vs, rfl, e1, rr⟩ := h.lst s.sub
    exact ⟨a, vs, rfl, .inl ⟨SqL.of e1, fun p hp => fin_tup s rr q hp⟩⟩
  | tup l =>
    obtain rfl : _ = d' := Option.some.inj e
    obtain ⟨a, vs, rfl, e1, rr⟩ := h.tup
    exact ⟨a, vs, rfl, .inr ⟨SqT.of (s.sub _ _ e1), fin_v s q (.tup e1 rr)⟩⟩
  | _ => cases e
theorem ok_int (s : StRel X.K r σ G H) (h : Pk X.K G H x d) (e : sem1 .int d = some d') (q : Fin1 X W r σ G H d' Q) : (∃ i, [x] = [V.int i] ∧ Q (.int i) H) ∨ ∃ k, [x] = [V.bl k] ∧ Q (.int (if k then 1 else 0)) H := by
  cases d with
  | int i => obtain rfl : _ = d' := Option.some.inj e; exact .inl ⟨i, by rw [h.int], fin_v s q (.int _)⟩
  | bl b => obtain rfl : _ = d' := Option.some.inj e; exact .inr ⟨b, by rw [h.bl], fin_v s q (.int _)⟩
  | _ => cases e
theorem pk_ints {l : List D} {ns : List Int} (s : Same G H) (h : Pk X.K G H x (.lst l)) (e : allInt l = some ns) : ∃ a, x = .ref a ∧ SqL X.K H a (ns.map V.int) := by
  obtain ⟨a, vs, rfl, e1, rr⟩ := h.lst s
  rw [rr.allInt e] at e1
  exact ⟨a, rfl, SqL.of e1⟩
/-- sum of a tuple of ints -/
def rSumT (K : PySem.W.Frag) : List V → Hp → VK → Prop := fun vs H Q => ∃ (a : Addr) (ns : List Int), vs = [V.ref a] ∧ SqT K H a (ns.map V.int) ∧ Q (.int ns.sum) H
theorem cr_sumLT (hc : X.calm = true) : CallR X (.builtin "sum") (fun vs H Q => rSum X.K vs H Q ∨ rSumT X.K vs H Q) := by
  intro pins s σ H vs us Q I r h
  rcases h with h | h
  · exact cr_sum hc _ _ _ _ _ _ _ I r h
  obtain ⟨a, ns, rfl, hs, q⟩ := h
  obtain ⟨its, rv, hl, _⟩ := I.tuple hs
  rw [Vals.ref1 r]
  obtain ⟨xs, e⟩ := rv.ints.allInts.items
  have hn : PySem.numsOf (PySem.intItems xs).toList = ns := by rw [← e]; exact rv.ints.numsOf
  rw [PySem.nums_intItems] at hn
  rw [e] at hl
  refine PySem.W.ktm_sumG (I.ok.hd hc) hl fun h' tk t' hk => ?_
  rw [PySem.preSum_eq, List.take_of_length_le (by simp), hn]
  exact ⟨.int _, H, I.kept hk, ⟨_, rfl⟩, q⟩
theorem pk_intsT {l : List D} {ns : List Int} (s : Same G H) (h : Pk X.K G H x (.tup l)) (e : allInt l = some ns) : ∃ a, x = .ref a ∧ SqT X.K H a (ns.map V.int) := by
  obtain ⟨a, vs, rfl, e1, rr⟩ := h.tup
  rw [rr.allInt e] at e1
  exact ⟨a, rfl, SqT.of (s _ _ e1)⟩
theorem ok_sum (s : StRel X.K r σ G H) (h : Pk X.K G H x d) (e : sem1 .sum d = some d') (q : Fin1 X W r σ G H d' Q) : rSum X.K [x] H Q ∨ rSumT X.K [x] H Q := by
  cases d with
  | lst l =>
    obtain ⟨ns, e1, rfl⟩ := Option.map_eq_some_iff.mp (show (allInt l).map (fun ns => D.int ns.sum) = some d' from e)
    obtain ⟨a, rfl, e2⟩ := pk_ints s.sub h e1
    exact .inl ⟨a, ns, rfl, e2, fin_v s q (.int _)⟩
  | tup l =>
    obtain ⟨ns, e1, rfl⟩ := Option.map_eq_some_iff.mp (show (allInt l).map (fun ns => D.int ns.sum) = some d' from e)
    obtain ⟨a, rfl, e2⟩ := pk_intsT s.sub h e1
    exact .inr ⟨a, ns, rfl, e2, fin_v s q (.int _)⟩
  | _ => cases e
theorem ok_sorted (s : StRel X.K r σ G H) (h : Pk X.K G H x d) (e : sem1 .sorted d = some d') (q : PX X.K W (rN X.K) r σ G H (.ok d' r) Q) : rSortedI X.K [x] H Q := by
  cases d with
  | lst l =>
    obtain ⟨ns, e1, rfl⟩ := Option.map_eq_some_iff.mp (show (allInt l).map (fun ns => D.lst ((isort ns).map .int)) = some d' from e)
    obtain ⟨a, rfl, e2⟩ := pk_ints s.sub h e1
    refine ⟨a, ns, rfl, e2, fun ns' p hp hs hn => ?_⟩
    have : ns' = isort ns := sorted_uniq (hp.trans (isort_perm ns).symm) hs (isort_sorted ns)
    subst this
    exact fin_lst s Reps.ints q hn
  | _ => cases e
theorem ok_any (s : StRel X.K r σ G H) (h : Pk X.K G H x d) (e : sem1 .any d = some d') (q : Fin1 X W r σ G H d' Q) : rAny X.K [x] H Q := by
  cases d with
  | lst l =>
    obtain ⟨ns, e1, rfl⟩ := Option.map_eq_some_iff.mp (show (allBl l).map (fun bs => D.bl (bs.any id)) = some d' from e)
    obtain ⟨a, vs, rfl, e2, rr⟩ := h.lst s.sub
    rw [rr.allBl e1] at e2
    exact ⟨a, ns, rfl, SqL.of e2, fin_v s q (.bl _)⟩
  | _ => cases e
theorem ok_all (s : StRel X.K r σ G H) (h : Pk X.K G H x d) (e : sem1 .all d = some d') (q : Fin1 X W r σ G H d' Q) : rAll X.K [x] H Q := by
  cases d with
  | lst l =>
    obtain ⟨ns, e1, rfl⟩ := Option.map_eq_some_iff.mp (show (allBl l).map (fun bs => D.bl (bs.all id)) = some d' from e)
    obtain ⟨a, vs, rfl, e2, rr⟩ := h.lst s.sub
    rw [rr.allBl e1] at e2
    exact ⟨a, ns, rfl, SqL.of e2, fin_v s q (.bl _)⟩
  | _ => cases e
theorem ok_max (s : StRel X.K r σ G H) (h : Pk X.K G H x d) (e : sem1 .max d = some d') (q : Fin1 X W r σ G H d' Q) : rMax X.K [x] H Q := by
  cases d with
  | lst l =>
    obtain ⟨ns, e1, e3⟩ := Option.bind_eq_some_iff.mp (show (allInt l).bind (fun ns => (maxL ns).map D.int) = some d' from e)
    obtain ⟨m, e4, rfl⟩ := Option.map_eq_some_iff.mp e3
    obtain ⟨a, rfl, e2⟩ := pk_ints s.sub h e1
    refine ⟨a, ns, rfl, e2, ?_, fun m' h1 h2 => ?_⟩
    · cases ns with
      | nil => cases e4
      | cons => exact Nat.succ_pos _
    · rw [maxL_uniq e4 h1 h2]; exact fin_v s q (.int _)
  | _ => cases e
theorem ok_min (s : StRel X.K r σ G H) (h : Pk X.K G H x d) (e : sem1 .min d = some d') (q : Fin1 X W r σ G H d' Q) : rMin X.K [x] H Q := by
  cases d with
  | lst l =>
    obtain ⟨ns, e1, e3⟩ := Option.bind_eq_some_iff.mp (show (allInt l).bind (fun ns => (minL ns).map D.int) = some d' from e)
    obtain ⟨m, e4, rfl⟩ := Option.map_eq_some_iff.mp e3
    obtain ⟨a, rfl, e2⟩ := pk_ints s.sub h e1
    refine ⟨a, ns, rfl, e2, ?_, fun m' h1 h2 => ?_⟩
    · cases ns with
      | nil => cases e4
      | cons => exact Nat.succ_pos _
    · rw [minL_uniq e4 h1 h2]; exact fin_v s q (.int _)
  | _ => cases e
theorem ok_abs (s : StRel X.K r σ G H) (h : Pk X.K G H x d) (e : sem1 .abs d = some d') (q : Fin1 X W r σ G H d' Q) : ∃ i, [x] = [V.int i] ∧ Q (.int (if i < 0 then -i else i)) H := by
  cases d with
  | int i => obtain rfl : _ = d' := Option.some.inj e; exact ⟨i, by rw [h.int], fin_v s q (.int _)⟩
  | _ => cases e
theorem ok_revs (s : StRel X.K r σ G H) (h : Pk X.K G H x d) (e : sem1 .revs d = some d') (q : PX X.K W (rN X.K) r σ G H (.ok d' r) Q) : ∃ a xs, x = .ref a ∧ SqL X.K H a xs ∧ ∀ p, H p = none → Q (.ref p) (upd H p (.lst xs.reverse)) := by
  cases d with
  | lst l =>
    obtain rfl : _ = d' := Option.some.inj e
    obtain ⟨a, vs, rfl, e1, rr⟩ := h.lst s.sub
    exact ⟨a, vs, rfl, SqL.of e1, fun p hp => fin_lst s rr.reverse q hp⟩
  | _ => cases e
end

section
variable {P : Program} {w : World} {K : PySem.W.Frag} {mg : Str → Option Value} {base : Heap} {N : List String} {sc : Scope} {n : Nat} {W : WX} {X : Cx} {e a b : Expr} {fa fb : Env → Ev Ar}
theorem rule_blt (C : CtxE P w K mg base N sc n W X) (F : Free mg) {s : String} {x : Str} {px pos : Pos} {id : String} {rr : List V → Hp → VK → Prop} (hc : CallR X (.builtin id) rr) (hv : bootBuiltins (enc s) = some (.builtin id)) (hb : bltB sc s x = true) (ns : noStar a = true) (hp : plainN (enc s) = true) {ta : TE} (ha : PE X a ta) :
    PE X (.Call (.Name x px) [a] [] pos) (fun σ H Q => ta σ H fun y H1 => rr [y] H1 Q) := by
  obtain ⟨g, m, rfl⟩ := C.blt F hb
  exact pe_callB hc g m hv (pa_cons ha pa_nil (noStar_ok ns)) (plainN_ok hp).2.2 (plainN_ok hp).1 (noStar_ok ns) rfl
theorem rule_ty (C : CtxE P w K mg base N sc n W X) (F : Free mg) {s : String} {x : Str} {px pos : Pos} {id : String} {rr : List V → Hp → VK → Prop} (hc : CallR X (.type id) rr) (hv : bootBuiltins (enc s) = some (.type id)) (hb : bltB sc s x = true) (ns : noStar a = true) (hp : plainN (enc s) = true) {ta : TE} (ha : PE X a ta) :
    PE X (.Call (.Name x px) [a] [] pos) (fun σ H Q => ta σ H fun y H1 => rr [y] H1 Q) := by
  obtain ⟨g, m, rfl⟩ := C.blt F hb
  exact pe_callTy hc g m hv (pa_cons ha pa_nil (noStar_ok ns)) (plainN_ok hp).2.2 (plainN_ok hp).1 (noStar_ok ns) rfl

/-- the operators of one operand that make a list -/
theorem sound1N (C : CtxE P w K mg base N sc n W X) (F : Free mg) {p : P1} (h : un1 sc p e = some a) (hn : IsNew p = true) (ha : PE X a (tX X.K W (rA X.K) fa)) :
    PE X e (tX X.K W (rN X.K) (fun r => (fa r).bind fun x r1 => .of r1 (sem1R p r1 x))) := by
  cases p with
  | list =>
    obtain ⟨x, px, pos, rfl, hb, ns⟩ := callOf_ok h
    exact snd_unN (t := fun _ _ _ => True) ha (rule_ty C F (call_list_of) (by decide +kernel) hb ns (by decide +kernel)) (fun x d d' r σ G H Q s h e q => ok_list s h e q)
  | sorted =>
    obtain ⟨x, px, pos, rfl, hb, ns⟩ := callOf_ok h
    exact snd_unN (t := fun _ _ _ => True) ha (rule_blt C F cr_sortedI (by decide +kernel) hb ns (by decide +kernel)) (fun x d d' r σ G H Q s h e q => ok_sorted s h e q)
  | revs =>
    obtain ⟨k, p, p2, p3, p4, rfl⟩ := unRevs_ok h
    exact snd_unN (t := fun _ _ _ => True) ha (fun ha => pe_revL ha) (fun x d d' r σ G H Q s h e q => ok_revs s h e q)
  | _ => cases hn
/-- the operators of one operand -/
theorem sound1 (C : CtxE P w K mg base N sc n W X) (F : Free mg) {p : P1} (h : un1 sc p e = some a) (ha : PE X a (tX X.K W (rA X.K) fa)) :
    PE X e (tX X.K W (rF X.K) (fun r => (fa r).bind fun x r1 => .of r1 (sem1R p r1 x))) := by
  by_cases hn : IsNew p = true
  · exact snd_froze (sound1N C F h hn ha)
  cases p with
  | list => exact absurd rfl hn
  | sorted => exact absurd rfl hn
  | revs => exact absurd rfl hn
  | neg =>
    obtain ⟨p, rfl⟩ := unNeg_ok h
    exact snd_un (t := fun _ _ _ => True) ha (fun ha => pe_un un_neg ha) (fun x d d' r σ G H Q s h e q => ok_neg s h e q)
  | notv =>
    obtain ⟨p, rfl⟩ := unNot_ok h
    exact snd_un (t := fun _ _ _ => True) ha (fun ha => pe_notT ha) (fun x d d' r σ G H Q s h e q => ok_notv s h e q)
  | isN =>
    obtain ⟨k, p, p2, rfl⟩ := unIsN_ok h
    exact snd_un (t := fun _ _ _ => True) ha (fun ha => pe_cmp (pc_isN ha) rfl) (fun x d d' r σ G H Q s h e q => ok_isN s h e q)
  | notN =>
    obtain ⟨k, p, p2, rfl⟩ := unNotN_ok h
    exact snd_un (t := fun _ _ _ => True) ha (fun ha => pe_cmp (pc_notN ha) rfl) (fun x d d' r σ G H Q s h e q => ok_notN s h e q)
  | len =>
    obtain ⟨x, px, pos, rfl, hb, ns⟩ := callOf_ok h
    exact snd_un (t := fun _ _ _ => True) ha (rule_blt C F call_len (by decide +kernel) hb ns (by decide +kernel)) (fun x d d' r σ G H Q s h e q => ok_len s h e q)
  | tuple =>
    obtain ⟨x, px, pos, rfl, hb, ns⟩ := callOf_ok h
    exact snd_un (t := fun _ _ _ => True) ha (rule_ty C F call_tuple_of (by decide +kernel) hb ns (by decide +kernel)) (fun x d d' r σ G H Q s h e q => ok_tuple s h e q)
  | int =>
    obtain ⟨x, px, pos, rfl, hb, ns⟩ := callOf_ok h
    exact snd_un (t := fun _ _ _ => True) ha (rule_ty C F call_int1 (by decide +kernel) hb ns (by decide +kernel)) (fun x d d' r σ G H Q s h e q => ok_int s h e q)
  | sum =>
    obtain ⟨x, px, pos, rfl, hb, ns⟩ := callOf_ok h
    exact snd_un (t := fun _ _ _ => True) ha (rule_blt C F (cr_sumLT C.calm) (by decide +kernel) hb ns (by decide +kernel)) (fun x d d' r σ G H Q s h e q => ok_sum s h e q)
  | any =>
    obtain ⟨x, px, pos, rfl, hb, ns⟩ := callOf_ok h
    exact snd_un (t := fun _ _ _ => True) ha (rule_blt C F (cr_any C.calm) (by decide +kernel) hb ns (by decide +kernel)) (fun x d d' r σ G H Q s h e q => ok_any s h e q)
  | all =>
    obtain ⟨x, px, pos, rfl, hb, ns⟩ := callOf_ok h
    exact snd_un (t := fun _ _ _ => True) ha (rule_blt C F (cr_all C.calm) (by decide +kernel) hb ns (by decide +kernel)) (fun x d d' r σ G H Q s h e q => ok_all s h e q)
  | max =>
    obtain ⟨x, px, pos, rfl, hb, ns⟩ := callOf_ok h
    exact snd_un (t := fun _ _ _ => True) ha (rule_blt C F (cr_max C.calm) (by decide +kernel) hb ns (by decide +kernel)) (fun x d d' r σ G H Q s h e q => ok_max s h e q)
  | min =>
    obtain ⟨x, px, pos, rfl, hb, ns⟩ := callOf_ok h
    exact snd_un (t := fun _ _ _ => True) ha (rule_blt C F (cr_min C.calm) (by decide +kernel) hb ns (by decide +kernel)) (fun x d d' r σ G H Q s h e q => ok_min s h e q)
  | abs =>
    obtain ⟨x, px, pos, rfl, hb, ns⟩ := callOf_ok h
    exact snd_un (t := fun _ _ _ => True) ha (rule_blt C F call_abs (by decide +kernel) hb ns (by decide +kernel)) (fun x d d' r σ G H Q s h e q => ok_abs s h e q)
end
end CW

set_option Elab.async false
set_option linter.all false
set_option maxRecDepth 100000
namespace CW
open PySem PySem.Spec PyProof.Rows L2
theorem ifs' {c : Prop} [Decidable c] {α : Type} {a : Option α} {b : α} (h : (if c then a else none) = some b) : c ∧ a = some b := by
  by_cases z : c
  · rw [if_pos z] at h; exact ⟨z, h⟩
  · rw [if_neg z] at h; cases h
section
variable {X : Cx} {W : WX} {r : Env} {σ : L2.St} {G H : Hp} {Q : VK} {x y : V} {d d2 d' : D}
theorem ifs {c : Prop} [Decidable c] {α : Type} {a : α} {b : α} (h : (if c then some a else none) = some b) : c ∧ a = b := by
  by_cases z : c
  · rw [if_pos z] at h; exact ⟨z, Option.some.inj h⟩
  · rw [if_neg z] at h; cases h
theorem atI_ix {vs : List V} {ds : List D} {K : PySem.W.Frag} {i : Int} {k : Nat} {d : D} (rr : Reps K G vs ds) (h : ixAt ds.length i = some k) (h2 : ds[k]? = some d) : ∃ v, atI vs i = some v ∧ Rep K G v d := by
  obtain ⟨v, e1, e2⟩ := rr.get h2
  refine ⟨v, ?_, e2⟩
  have : ixN vs.length i = some k := by rw [rr.length]; exact h
  show (ixN vs.length i).bind _ = _
  rw [this]; exact e1
theorem ok_add (s : StRel X.K r σ G H) (h : Pk X.K G H x d) (h2 : Pk X.K G H y d2) (e : sem2 .add d d2 = some d') (q : Fin1 X W r σ G H d' Q) :
    (rI0 (fun i j => .int (i + j)) x y H Q ∨ rCat x y H Q) ∨ rCatA X.K x y H Q := by
  cases d with
  | int i =>
    cases d2 with
    | int j => obtain rfl : _ = d' := Option.some.inj e; exact .inl (.inl ⟨i, j, h.int, h2.int, fin_v s q (.int _)⟩)
    | _ => cases e
  | lst l =>
    cases d2 with
    | lst m =>
      obtain ⟨z, rfl⟩ := ifs e
      obtain ⟨a, vs, rfl, e1, rr⟩ := h.lst s.sub
      obtain ⟨b, ws, rfl, e2, rr2⟩ := h2.lst s.sub
      exact .inl (.inr ⟨a, b, vs, ws, rfl, rfl, e1, e2, by rw [rr.length, rr2.length, ← sz_line]; exact z, fun p hp => fin_lst s (rr.append rr2) q.froze hp⟩)
    | _ => cases e
  | tup l =>
    cases d2 with
    | tup m =>
      obtain ⟨z, rfl⟩ := ifs e
      obtain ⟨a, vs, rfl, e1, rr⟩ := h.tup
      obtain ⟨b, ws, rfl, e2, rr2⟩ := h2.tup
      refine .inr ⟨a, b, vs, ws, rfl, rfl, SqT.of (s.sub _ _ e1), SqT.of (s.sub _ _ e2), by rw [rr.length, rr2.length, ← sz_line]; exact z, fun z => ?_, fun _ z => ?_, fun _ _ p hp => fin_tup s (rr.append rr2) q hp⟩
      · subst z
        cases rr
        exact fin_v s q (.tup e2 rr2)
      · subst z
        cases rr2
        rw [List.append_nil] at q
        exact fin_v s q (.tup e1 rr)
    | _ => cases e
  | _ => cases e
theorem ok_cat (s : StRel X.K r σ G H) (h : Pk X.K G H x d) (h2 : Pk X.K G H y d2) (e : sem2 .cat d d2 = some d') (q : PX X.K W (rN X.K) r σ G H (.ok d' r) Q) : rCat x y H Q := by
  cases d with
  | lst l =>
    cases d2 with
    | lst m =>
      obtain ⟨z, rfl⟩ := ifs e
      obtain ⟨a, vs, rfl, e1, rr⟩ := h.lst s.sub
      obtain ⟨b, ws, rfl, e2, rr2⟩ := h2.lst s.sub
      exact ⟨a, b, vs, ws, rfl, rfl, e1, e2, by rw [rr.length, rr2.length, ← sz_line]; exact z, fun p hp => fin_lst s (rr.append rr2) q hp⟩
    | _ => cases e
  | _ => cases e
theorem ok_sub (s : StRel X.K r σ G H) (h : Pk X.K G H x d) (h2 : Pk X.K G H y d2) (e : sem2 .sub d d2 = some d') (q : Fin1 X W r σ G H d' Q) : rI0 (fun i j => .int (i - j)) x y H Q := by
  cases d with
  | int i =>
    cases d2 with
    | int j => obtain rfl : _ = d' := Option.some.inj e; exact ⟨i, j, h.int, h2.int, fin_v s q (.int _)⟩
    | _ => cases e
  | _ => cases e
theorem small_ok {i : Int} (h : smallI i = true) : -(2 ^ 64) < i ∧ i < 2 ^ 64 := by
  simp only [smallI, Bool.and_eq_true, decide_eq_true_eq] at h
  have e : (2 : Int) ^ 64 = B64 := by decide
  rw [e]; exact h
theorem ok_mul (s : StRel X.K r σ G H) (h : Pk X.K G H x d) (h2 : Pk X.K G H y d2) (e : sem2 .mul d d2 = some d') (q : Fin1 X W r σ G H d' Q) : rI CMul (fun i j => .int (i * j)) x y H Q ∨ rI CMulW (fun i j => .int (i * j)) x y H Q ∨ rRepT X.K x y H Q := by
  cases d with
  | int i =>
    cases d2 with
    | int j =>
      obtain ⟨z, rfl⟩ := ifs e
      rcases Bool.or_eq_true_iff.mp z with z | z
      · refine .inl ⟨i, j, h.int, h2.int, ?_, fin_v s q (.int _)⟩
        rcases Bool.or_eq_true_iff.mp z with z | z
        · exact .inl (small_ok z)
        · exact .inr (small_ok z)
      · exact .inr (.inl ⟨i, j, h.int, h2.int, (show i.natAbs.log2 + j.natAbs.log2 < 1000000 from of_decide_eq_true z), fin_v s q (.int _)⟩)
    | _ => cases e
  | tup l =>
    cases d2 with
    | int k =>
      obtain ⟨z, rfl⟩ := ifs e
      simp only [Bool.and_eq_true, decide_eq_true_eq, Bool.not_eq_true', List.isEmpty_eq_false_iff] at z
      obtain ⟨⟨⟨z1, z2⟩, z3⟩, z4⟩ := z
      obtain ⟨a, vs, rfl, e1, rr⟩ := h.tup
      refine .inr (.inr ⟨a, k, vs, rfl, h2.int, SqT.of (s.sub _ _ e1), ?_, z2, z3, by rw [rr.length]; exact z4, fun p hp => fin_tup s (rr.rep _) q hp⟩)
      rintro rfl
      cases rr
      exact z1 rfl
    | _ => cases e
  | _ => cases e
theorem ok_rep (s : StRel X.K r σ G H) (h : Pk X.K G H x d) (h2 : Pk X.K G H y d2) (e : sem2 .rep d d2 = some d') (q : PX X.K W (rN X.K) r σ G H (.ok d' r) Q) : rRep x y H Q := by
  cases d with
  | lst l =>
    cases d2 with
    | int k =>
      obtain ⟨z, rfl⟩ := ifs e
      simp only [Bool.and_eq_true, decide_eq_true_eq] at z
      obtain ⟨a, vs, rfl, e1, rr⟩ := h.lst s.sub
      exact ⟨a, k, vs, rfl, h2.int, e1, z.1.1, z.1.2, by rw [rr.length, ← sz_line]; exact z.2, fun p hp => fin_lst s (rr.rep _) q hp⟩
    | _ => cases e
  | _ => cases e
theorem ok_fdiv (s : StRel X.K r σ G H) (h : Pk X.K G H x d) (h2 : Pk X.K G H y d2) (e : sem2 .fdiv d d2 = some d') (q : Fin1 X W r σ G H d' Q) : rI CDivN (fun i j => .int (i.fdiv j)) x y H Q ∨ rI CDivW (fun i j => .int (i / j)) x y H Q := by
  cases d with
  | int i =>
    cases d2 with
    | int j =>
      obtain ⟨z, rfl⟩ := ifs e
      rcases Bool.or_eq_true_iff.mp z with z | z
      · simp only [Bool.and_eq_true, decide_eq_true_eq] at z
        exact .inl ⟨i, j, h.int, h2.int, z, fin_v s q (.int _)⟩
      · simp only [Bool.and_eq_true, decide_eq_true_eq] at z
        refine .inr ⟨i, j, h.int, h2.int, z, ?_⟩
        show Q (.int (i / j)) H
        rw [← Int.fdiv_eq_ediv_of_nonneg i (Int.le_of_lt z.1)]
        exact fin_v s q (.int _)
    | _ => cases e
  | _ => cases e
theorem ok_mod (s : StRel X.K r σ G H) (h : Pk X.K G H x d) (h2 : Pk X.K G H y d2) (e : sem2 .mod d d2 = some d') (q : Fin1 X W r σ G H d' Q) : rI (fun _ j => j ≠ 0) (fun i j => .int (i.fmod j)) x y H Q := by
  cases d with
  | int i =>
    cases d2 with
    | int j =>
      obtain ⟨z, rfl⟩ := ifs e
      exact ⟨i, j, h.int, h2.int, z, fin_v s q (.int _)⟩
    | _ => cases e
  | _ => cases e
theorem ok_pow (s : StRel X.K r σ G H) (h : Pk X.K G H x d) (h2 : Pk X.K G H y d2) (e : sem2 .pow d d2 = some d') (q : Fin1 X W r σ G H d' Q) : rI CPow (fun i j => .int (i ^ j.toNat)) x y H Q := by
  cases d with
  | int i =>
    cases d2 with
    | int j =>
      obtain ⟨z, rfl⟩ := ifs e
      simp only [Bool.and_eq_true, decide_eq_true_eq] at z
      exact ⟨i, j, h.int, h2.int, ⟨z.1.1, z.1.2, z.2⟩, fin_v s q (.int _)⟩
    | _ => cases e
  | _ => cases e
theorem ok_eq (s : StRel X.K r σ G H) (h : Pk X.K G H x d) (h2 : Pk X.K G H y d2) (e : sem2 .eq d d2 = some d') (q : Fin1 X W r σ G H d' Q) : rEqD X.K x y H Q := by
  obtain ⟨z, rfl⟩ := ifs (show (if dOk 40 d && dOk 40 d2 then some (D.bl (deq d d2)) else none) = some d' from by cases d <;> cases d2 <;> exact e)
  simp only [Bool.and_eq_true] at z
  obtain ⟨a1, a2, a3⟩ := pk_dp s.sub z.1 h
  obtain ⟨b1, b2, b3⟩ := pk_dp s.sub z.2 h2
  refine ⟨_, _, a1, b1, shaped_of a2 a3 (by decide), shaped_of b2 b3 (by decide), ?_⟩
  rw [deq_eqv 40 40 d d2 z.1 z.2]
  exact fin_v s q (.bl _)
theorem ok_ne (s : StRel X.K r σ G H) (h : Pk X.K G H x d) (h2 : Pk X.K G H y d2) (e : sem2 .ne d d2 = some d') (q : Fin1 X W r σ G H d' Q) : rNeD X.K x y H Q := by
  obtain ⟨z, rfl⟩ := ifs (show (if dOk 40 d && dOk 40 d2 then some (D.bl (!deq d d2)) else none) = some d' from by cases d <;> cases d2 <;> exact e)
  simp only [Bool.and_eq_true] at z
  obtain ⟨a1, a2, a3⟩ := pk_dp s.sub z.1 h
  obtain ⟨b1, b2, b3⟩ := pk_dp s.sub z.2 h2
  refine ⟨_, _, a1, b1, shaped_of a2 a3 (by decide), shaped_of b2 b3 (by decide), ?_⟩
  rw [deq_eqv 40 40 d d2 z.1 z.2]
  exact fin_v s q (.bl _)
theorem ok_lt (s : StRel X.K r σ G H) (h : Pk X.K G H x d) (h2 : Pk X.K G H y d2) (e : sem2 .lt d d2 = some d') (q : Fin1 X W r σ G H d' Q) : rI0 (fun i j => .bl (decide (i < j))) x y H Q := by
  cases d with
  | int i =>
    cases d2 with
    | int j => obtain rfl : _ = d' := Option.some.inj e; exact ⟨i, j, h.int, h2.int, fin_v s q (.bl _)⟩
    | _ => cases e
  | _ => cases e
theorem ok_le (s : StRel X.K r σ G H) (h : Pk X.K G H x d) (h2 : Pk X.K G H y d2) (e : sem2 .le d d2 = some d') (q : Fin1 X W r σ G H d' Q) : rI0 (fun i j => .bl (decide (i ≤ j))) x y H Q := by
  cases d with
  | int i =>
    cases d2 with
    | int j => obtain rfl : _ = d' := Option.some.inj e; exact ⟨i, j, h.int, h2.int, fin_v s q (.bl _)⟩
    | _ => cases e
  | _ => cases e
theorem ok_gt (s : StRel X.K r σ G H) (h : Pk X.K G H x d) (h2 : Pk X.K G H y d2) (e : sem2 .gt d d2 = some d') (q : Fin1 X W r σ G H d' Q) : rI0 (fun i j => .bl (decide (j < i))) x y H Q := by
  cases d with
  | int i =>
    cases d2 with
    | int j => obtain rfl : _ = d' := Option.some.inj e; exact ⟨i, j, h.int, h2.int, fin_v s q (.bl _)⟩
    | _ => cases e
  | _ => cases e
theorem ok_ge (s : StRel X.K r σ G H) (h : Pk X.K G H x d) (h2 : Pk X.K G H y d2) (e : sem2 .ge d d2 = some d') (q : Fin1 X W r σ G H d' Q) : rI0 (fun i j => .bl (decide (j ≤ i))) x y H Q := by
  cases d with
  | int i =>
    cases d2 with
    | int j => obtain rfl : _ = d' := Option.some.inj e; exact ⟨i, j, h.int, h2.int, fin_v s q (.bl _)⟩
    | _ => cases e
  | _ => cases e
def rInT (K : PySem.W.Frag) : R2 := fun x y H Q => ∃ d ds, Dp K H x d ∧ Dp K H y (.tuple ds) ∧ SeqAt.shaped d = true ∧ SeqAt.shaped (.tuple ds) = true ∧ Q (.bl (ds.any fun z => PyData.eqv z d)) H
def rNotInT (K : PySem.W.Frag) : R2 := fun x y H Q => ∃ d ds, Dp K H x d ∧ Dp K H y (.tuple ds) ∧ SeqAt.shaped d = true ∧ SeqAt.shaped (.tuple ds) = true ∧ Q (.bl (!ds.any fun z => PyData.eqv z d)) H
theorem op_inDT (hu : X.A.units + 65 < cLine) : OpR X (compareOp .In) (fun x y H Q => rInD X.K x y H Q ∨ rInT X.K x y H Q) := by
  intro pins s σ H x y v u Q I rx ry h
  rcases h with h | h
  · exact op_inD hu _ _ _ _ _ _ _ _ _ I rx ry h
  obtain ⟨d, ds, hd, he, sd, se, q⟩ := h
  obtain ⟨as, r1⟩ := Dp.reads I d x v hd rx
  obtain ⟨bs, r2⟩ := Dp.reads I (.tuple ds) y u he ry
  exact SeqAt.in_tuple_reads r2 r1 (SeqAt.canLay_of_shaped se) (SeqAt.canLay_of_shaped sd) (room_in_shaped sd hu) ⟨.bl _, H, I, rfl, q⟩
theorem op_notInDT (hu : X.A.units + 65 < cLine) : OpR X (compareOp .NotIn) (fun x y H Q => rNotInD X.K x y H Q ∨ rNotInT X.K x y H Q) := by
  intro pins s σ H x y v u Q I rx ry h
  rcases h with h | h
  · exact op_notInD hu _ _ _ _ _ _ _ _ _ I rx ry h
  obtain ⟨d, ds, hd, he, sd, se, q⟩ := h
  obtain ⟨as, r1⟩ := Dp.reads I d x v hd rx
  obtain ⟨bs, r2⟩ := Dp.reads I (.tuple ds) y u he ry
  exact SeqAt.notIn_tuple_reads r2 r1 (SeqAt.canLay_of_shaped se) (SeqAt.canLay_of_shaped sd) (room_in_shaped sd hu) ⟨.bl _, H, I, rfl, q⟩
theorem pk_tup_dp {l : List D} {n : Nat} (s : Same G H) (o : dsOk n l = true) (h : Pk X.K G H y (.tup l)) : Dp X.K H y (.tuple (toPys l)) ∧ (PyData.tuple (toPys l)).canLay0 = true ∧ (PyData.tuple (toPys l)).depth ≤ n + 1 :=
  pk_dp s (n := n + 1) (d := .tup l) (by simpa [dOk] using o) h
theorem pk_list_dp {l : List D} {n : Nat} (s : Same G H) (o : dsOk n l = true) (h : Pk X.K G H y (.lst l)) : Dp X.K H y (.list (toPys l)) ∧ (PyData.list (toPys l)).canLay0 = true ∧ (PyData.list (toPys l)).depth ≤ n + 1 :=
  pk_dp s (n := n + 1) (d := .lst l) (by simpa [dOk] using o) h
theorem ok_inn (s : StRel X.K r σ G H) (h : Pk X.K G H x d) (h2 : Pk X.K G H y d2) (e : sem2 .inn d d2 = some d') (q : Fin1 X W r σ G H d' Q) : rInD X.K x y H Q ∨ rInT X.K x y H Q := by
  cases d2 with
  | lst l =>
    obtain ⟨z, rfl⟩ := ifs (show (if dOk 40 d && dsOk 40 l then some (D.bl (l.any fun z => deq z d)) else none) = some d' from by cases d <;> exact e)
    simp only [Bool.and_eq_true] at z
    obtain ⟨a1, a2, a3⟩ := pk_dp s.sub z.1 h
    obtain ⟨b1, b2, b3⟩ := pk_list_dp s.sub z.2 h2
    refine .inl ⟨_, _, a1, b1, shaped_of a2 a3 (by decide), shaped_of b2 b3 (by decide), ?_⟩
    rw [any_eqv 40 40 d z.1 l z.2]
    exact fin_v s q (.bl _)
  | tup l =>
    obtain ⟨z, rfl⟩ := ifs (show (if dOk 40 d && dsOk 40 l then some (D.bl (l.any fun z => deq z d)) else none) = some d' from by cases d <;> exact e)
    simp only [Bool.and_eq_true] at z
    obtain ⟨a1, a2, a3⟩ := pk_dp s.sub z.1 h
    obtain ⟨b1, b2, b3⟩ := pk_tup_dp s.sub z.2 h2
    refine .inr ⟨_, _, a1, b1, shaped_of a2 a3 (by decide), shaped_of b2 b3 (by decide), ?_⟩
    rw [any_eqv 40 40 d z.1 l z.2]
    exact fin_v s q (.bl _)
  | _ => cases d <;> cases e
theorem ok_nin (s : StRel X.K r σ G H) (h : Pk X.K G H x d) (h2 : Pk X.K G H y d2) (e : sem2 .nin d d2 = some d') (q : Fin1 X W r σ G H d' Q) : rNotInD X.K x y H Q ∨ rNotInT X.K x y H Q := by
  cases d2 with
  | lst l =>
    obtain ⟨z, rfl⟩ := ifs (show (if dOk 40 d && dsOk 40 l then some (D.bl (!l.any fun z => deq z d)) else none) = some d' from by cases d <;> exact e)
    simp only [Bool.and_eq_true] at z
    obtain ⟨a1, a2, a3⟩ := pk_dp s.sub z.1 h
    obtain ⟨b1, b2, b3⟩ := pk_list_dp s.sub z.2 h2
    refine .inl ⟨_, _, a1, b1, shaped_of a2 a3 (by decide), shaped_of b2 b3 (by decide), ?_⟩
    rw [any_eqv 40 40 d z.1 l z.2]
    exact fin_v s q (.bl _)
  | tup l =>
    obtain ⟨z, rfl⟩ := ifs (show (if dOk 40 d && dsOk 40 l then some (D.bl (!l.any fun z => deq z d)) else none) = some d' from by cases d <;> exact e)
    simp only [Bool.and_eq_true] at z
    obtain ⟨a1, a2, a3⟩ := pk_dp s.sub z.1 h
    obtain ⟨b1, b2, b3⟩ := pk_tup_dp s.sub z.2 h2
    refine .inr ⟨_, _, a1, b1, shaped_of a2 a3 (by decide), shaped_of b2 b3 (by decide), ?_⟩
    rw [any_eqv 40 40 d z.1 l z.2]
    exact fin_v s q (.bl _)
  | _ => cases d <;> cases e
theorem ok_ix (s : StRel X.K r σ G H) (h : Pk X.K G H x d) (h2 : Pk X.K G H y d2) (e : sem2 .ix d d2 = some d') (q : Fin1 X W r σ G H d' Q) : rIxL X.K x y H Q ∨ rIxT X.K x y H Q := by
  cases d with
  | lst l =>
    cases d2 with
    | int i =>
      obtain ⟨k, e1, e2⟩ := Option.bind_eq_some_iff.mp (show (ixAt l.length i).bind (fun k => l[k]?) = some d' from e)
      obtain ⟨a, vs, rfl, e3, rr⟩ := h.lst s.sub
      obtain ⟨v, e4, e5⟩ := atI_ix rr e1 e2
      exact .inl ⟨a, vs, i, v, rfl, h2.int, SqL.of e3, e4, fin_v s q e5⟩
    | _ => cases e
  | tup l =>
    cases d2 with
    | int i =>
      obtain ⟨k, e1, e2⟩ := Option.bind_eq_some_iff.mp (show (ixAt l.length i).bind (fun k => l[k]?) = some d' from e)
      obtain ⟨a, vs, rfl, e3, rr⟩ := h.tup
      obtain ⟨v, e4, e5⟩ := atI_ix rr e1 e2
      exact .inr ⟨a, vs, i, v, rfl, h2.int, SqT.of (s.sub _ _ e3), e4, fin_v s q e5⟩
    | _ => cases e
  | scr l =>
    cases d2 with
    | int i =>
      obtain ⟨z, e0, rfl⟩ := Option.map_eq_some_iff.mp (show ((ixAt l.length i).bind (fun k => l[k]?)).map D.int = some d' from e)
      obtain ⟨k, e1, e2⟩ := Option.bind_eq_some_iff.mp e0
      obtain ⟨a, rfl, e3⟩ := h.scr
      refine .inl ⟨a, _, i, .int z, rfl, h2.int, s.sub.seq e3, ?_, fin_v s q (.int _)⟩
      show (ixN (l.map V.int).length i).bind _ = _
      have : ixN (l.map V.int).length i = some k := by rw [List.length_map]; exact e1
      rw [this]
      show (l.map V.int)[k]? = _
      rw [List.getElem?_map, e2]; rfl
    | _ => cases e
  | _ => cases e
theorem ok_max2 (s : StRel X.K r σ G H) (h : Pk X.K G H x d) (h2 : Pk X.K G H y d2) (e : sem2 .max2 d d2 = some d') (q : Fin1 X W r σ G H d' Q) : ∃ i j, [x, y] = [V.int i, V.int j] ∧ Q (.int (if j > i then j else i)) H := by
  cases d with
  | int i =>
    cases d2 with
    | int j => obtain rfl : _ = d' := Option.some.inj e; exact ⟨i, j, by rw [h.int, h2.int], fin_v s q (.int _)⟩
    | _ => cases e
  | _ => cases e
theorem ok_min2 (s : StRel X.K r σ G H) (h : Pk X.K G H x d) (h2 : Pk X.K G H y d2) (e : sem2 .min2 d d2 = some d') (q : Fin1 X W r σ G H d' Q) : ∃ i j, [x, y] = [V.int i, V.int j] ∧ Q (.int (if j < i then j else i)) H := by
  cases d with
  | int i =>
    cases d2 with
    | int j => obtain rfl : _ = d' := Option.some.inj e; exact ⟨i, j, by rw [h.int, h2.int], fin_v s q (.int _)⟩
    | _ => cases e
  | _ => cases e
end

section
variable {X : Cx} {W : WX} {r : Env} {σ : L2.St} {G H : Hp} {Q : VK} {x y : V} {d d2 d' : D}
theorem ok_isb (s : StRel X.K r σ G H) (h : Pk X.K G H x d) (h2 : Pk X.K G H y d2) (e : sem2 .isb d d2 = some d') (q : Fin1 X W r σ G H d' Q) : ∃ a b, x = .bl a ∧ y = .bl b ∧ Q (.bl (decide (a = b))) H := by
  cases d with
  | bl a =>
    cases d2 with
    | bl b => obtain rfl : _ = d' := Option.some.inj e; exact ⟨a, b, h.bl, h2.bl, by have := fin_v s q (.bl _); rwa [show decide (a = b) = (a == b) by cases a <;> cases b <;> rfl]⟩
    | _ => cases e
  | _ => cases e
theorem ok_nisb (s : StRel X.K r σ G H) (h : Pk X.K G H x d) (h2 : Pk X.K G H y d2) (e : sem2 .nisb d d2 = some d') (q : Fin1 X W r σ G H d' Q) : ∃ a b, x = .bl a ∧ y = .bl b ∧ Q (.bl (!decide (a = b))) H := by
  cases d with
  | bl a =>
    cases d2 with
    | bl b => obtain rfl : _ = d' := Option.some.inj e; exact ⟨a, b, h.bl, h2.bl, by have := fin_v s q (.bl _); rwa [show decide (a = b) = (a == b) by cases a <;> cases b <;> rfl]⟩
    | _ => cases e
  | _ => cases e
theorem and_nat {i j : Int} (hi : 0 ≤ i) (hj : 0 ≤ j) : Builtin.bitAnd i j = ((i.toNat &&& j.toNat : Nat) : Int) := by
  unfold Builtin.bitAnd
  rw [decide_eq_true hi, decide_eq_true hj]
theorem or_nat {i j : Int} (hi : 0 ≤ i) (hj : 0 ≤ j) : Builtin.bitOr i j = ((i.toNat ||| j.toNat : Nat) : Int) := by
  have b : ∀ z : Int, Builtin.bitNot z = -z - 1 := fun _ => rfl
  unfold Builtin.bitOr Builtin.bitAnd
  rw [decide_eq_false (show ¬(0 : Int) ≤ Builtin.bitNot i by rw [b]; omega), decide_eq_false (show ¬(0 : Int) ≤ Builtin.bitNot j by rw [b]; omega)]
  dsimp only
  rw [show Builtin.bitNot (Builtin.bitNot i) = i by rw [b, b]; omega, show Builtin.bitNot (Builtin.bitNot j) = j by rw [b, b]; omega, b, b]
  omega
theorem ok_band (s : StRel X.K r σ G H) (h : Pk X.K G H x d) (h2 : Pk X.K G H y d2) (e : sem2 .band d d2 = some d') (q : Fin1 X W r σ G H d' Q) : rI0 (fun i j => .int (Builtin.bitAnd i j)) x y H Q := by
  cases d with
  | int i =>
    cases d2 with
    | int j =>
      obtain ⟨z, rfl⟩ := ifs e
      simp only [Bool.and_eq_true, decide_eq_true_eq] at z
      exact ⟨i, j, h.int, h2.int, by show Q (.int (Builtin.bitAnd i j)) H; rw [and_nat z.1 z.2]; exact fin_v s q (.int _)⟩
    | _ => cases e
  | _ => cases e
theorem ok_bxor (s : StRel X.K r σ G H) (h : Pk X.K G H x d) (h2 : Pk X.K G H y d2) (e : sem2 .bxor d d2 = some d') (q : Fin1 X W r σ G H d' Q) : rI0 (fun i j => .int (Builtin.bitXor i j)) x y H Q := by
  cases d with
  | int i =>
    cases d2 with
    | int j =>
      obtain ⟨z, rfl⟩ := ifs e
      simp only [Bool.and_eq_true, decide_eq_true_eq] at z
      refine ⟨i, j, h.int, h2.int, ?_⟩
      show Q (.int (Builtin.bitXor i j)) H
      unfold Builtin.bitXor
      rw [and_nat z.1 z.2, or_nat z.1 z.2]; exact fin_v s q (.int _)
    | _ => cases e
  | _ => cases e
end

/-! ### the text of two operands -/
def opEq (a b : Operator) : Bool := match a, b with
  | .Add, .Add => true | .Sub, .Sub => true | .Mult, .Mult => true | .FloorDiv, .FloorDiv => true | .Mod, .Mod => true | .Pow, .Pow => true | .BitAnd, .BitAnd => true | .BitXor, .BitXor => true
  | _, _ => false
theorem opEq_ok {a b : Operator} (h : opEq a b = true) : a = b := by
  cases a <;> cases b <;> first | rfl | cases h
def cmpEq (a b : CmpOp) : Bool := match a, b with
  | .Eq, .Eq => true | .NotEq, .NotEq => true | .Lt, .Lt => true | .LtE, .LtE => true | .Gt, .Gt => true | .GtE, .GtE => true | .In, .In => true | .NotIn, .NotIn => true | .Is, .Is => true | .IsNot, .IsNot => true
  | _, _ => false
theorem cmpEq_ok {a b : CmpOp} (h : cmpEq a b = true) : a = b := by
  cases a <;> cases b <;> first | rfl | cases h
def binOf (o : Operator) : Expr → Option (Expr × Expr)
  | .BinOp a p b _ => if opEq o p then some (a, b) else none
  | _ => none
def cmpOf (o : CmpOp) : Expr → Option (Expr × Expr)
  | .Compare a [p] [b] _ => if cmpEq o p && noSet b then some (a, b) else none
  | _ => none
def ixOf : Expr → Option (Expr × Expr)
  | .Subscript a b _ => if noSlice b then some (a, b) else none
  | _ => none
def bi2 (sc : Scope) (p : P2) (e : Expr) : Option (Expr × Expr) :=
  match p with
  | .add => binOf .Add e | .cat => binOf .Add e | .sub => binOf .Sub e | .mul => binOf .Mult e | .rep => binOf .Mult e | .fdiv => binOf .FloorDiv e | .mod => binOf .Mod e | .pow => binOf .Pow e | .band => binOf .BitAnd e | .bxor => binOf .BitXor e
  | .eq => cmpOf .Eq e | .ne => cmpOf .NotEq e | .lt => cmpOf .Lt e | .le => cmpOf .LtE e | .gt => cmpOf .Gt e | .ge => cmpOf .GtE e | .inn => cmpOf .In e | .nin => cmpOf .NotIn e | .isb => cmpOf .Is e | .nisb => cmpOf .IsNot e
  | .ix => ixOf e | .max2 => call2Of sc "max" e | .min2 => call2Of sc "min" e
theorem binOf_ok {o : Operator} {e : Expr} {c : Expr × Expr} (h : binOf o e = some c) : ∃ p, e = .BinOp c.1 o c.2 p := by
  unfold binOf at h
  split at h
  · next a p b pos =>
    obtain ⟨z, rfl⟩ := ifs h
    obtain rfl := opEq_ok z
    exact ⟨pos, rfl⟩
  · cases h
theorem cmpOf_ok {o : CmpOp} {e : Expr} {c : Expr × Expr} (h : cmpOf o e = some c) : ∃ p, e = .Compare c.1 [o] [c.2] p ∧ noSet c.2 = true := by
  unfold cmpOf at h
  split at h
  · next a p b pos =>
    obtain ⟨z, rfl⟩ := ifs h
    simp only [Bool.and_eq_true] at z
    obtain rfl := cmpEq_ok z.1
    exact ⟨pos, rfl, z.2⟩
  · cases h
theorem ixOf_ok {e : Expr} {c : Expr × Expr} (h : ixOf e = some c) : ∃ p, e = .Subscript c.1 c.2 p ∧ noSlice c.2 = true := by
  unfold ixOf at h
  split at h
  · next a b pos =>
    obtain ⟨z, rfl⟩ := ifs h
    exact ⟨pos, rfl, z⟩
  · cases h
abbrev IsNew2 (p : P2) : Bool := match p with
  | .cat => true | .rep => true | _ => false
section
variable {P : Program} {w : World} {K : PySem.W.Frag} {mg : Str → Option Value} {base : Heap} {N : List String} {sc : Scope} {n : Nat} {W : WX} {X : Cx} {e : Expr} {c : Expr × Expr} {fa fb : Env → Ev Ar}
theorem CtxE.room0 (C : CtxE P w K mg base N sc n W X) : X.A.units + 64 < cLine := by have := C.room.un; omega
theorem CtxE.room1 (C : CtxE P w K mg base N sc n W X) : X.A.units + 65 < cLine := by have := C.room.un; omega
theorem sound2N (C : CtxE P w K mg base N sc n W X) (F : Free mg) {p : P2} (h : bi2 sc p e = some c) (hn : IsNew2 p = true) (ha : PE X c.1 (tX X.K W (rA X.K) fa)) (hb : PE X c.2 (tX X.K W (rA X.K) fb)) :
    PE X e (tX X.K W (rN X.K) (fun r => (fa r).bind fun x r1 => (fb r1).bind fun y r2 => .of r2 (sem2R p r2 x y))) := by
  cases p with
  | cat =>
    obtain ⟨p, rfl⟩ := binOf_ok h
    exact snd_binN ha hb (fun ha hb => pe_op op_cat ha hb) (fun x y d d2 d' r σ G H Q s h h2 e q => ok_cat s h h2 e q)
  | rep =>
    obtain ⟨p, rfl⟩ := binOf_ok h
    exact snd_binN ha hb (fun ha hb => pe_op op_rep ha hb) (fun x y d d2 d' r σ G H Q s h h2 e q => ok_rep s h h2 e q)
  | _ => cases hn
theorem rule_cmp {o : CmpOp} {z : R2} {a b : Expr} {pos : Pos} (ho : OpR X (compareOp o) z) (ns : noSet b = true) {ta tb : TE} (ha : PE X a ta) (hb : PE X b tb) : PE X (.Compare a [o] [b] pos) (tOp z ta tb) := pe_cmpR ho ha hb (noSet_ok ns)
/-- a comparison's rule by values -/
def CmpR (X : Cx) (p : P2) (o : CmpOp) (z : R2) : Prop := OpR X (compareOp o) z ∧ ∀ {W : WX} {r : Env} {σ : L2.St} {G H : Hp} {Q : VK} {x y : V} {d d2 d' : D}, StRel X.K r σ G H → Pk X.K G H x d → Pk X.K G H y d2 → sem2 p d d2 = some d' → Fin1 X W r σ G H d' Q → z x y H Q
theorem cmpR_of (C : CtxE P w K mg base N sc n W X) {p : P2} {o : CmpOp} (h : cop2 p = some o) : ∃ z, CmpR X p o z := by
  cases p <;> first | (cases h; done) | skip
  all_goals obtain rfl : _ = o := Option.some.inj h
  · exact ⟨_, op_eqD C.room0, fun s h h2 e q => ok_eq s h h2 e q⟩
  · exact ⟨_, op_neD C.room0, fun s h h2 e q => ok_ne s h h2 e q⟩
  · exact ⟨_, op_lt, fun s h h2 e q => ok_lt s h h2 e q⟩
  · exact ⟨_, op_le, fun s h h2 e q => ok_le s h h2 e q⟩
  · exact ⟨_, op_gt, fun s h h2 e q => ok_gt s h h2 e q⟩
  · exact ⟨_, op_ge, fun s h h2 e q => ok_ge s h h2 e q⟩
  · exact ⟨_, op_inDT C.room1, fun s h h2 e q => ok_inn s h h2 e q⟩
  · exact ⟨_, op_notInDT C.room1, fun s h h2 e q => ok_nin s h h2 e q⟩
  · exact ⟨_, op_is_bl, fun s h h2 e q => ok_isb s h h2 e q⟩
  · exact ⟨_, op_isnot_bl, fun s h h2 e q => ok_nisb s h h2 e q⟩
theorem sound2c (C : CtxE P w K mg base N sc n W X) {p : P2} {o : CmpOp} (hp : cop2 p = some o) (h : cmpOf o e = some c) (ha : PE X c.1 (tX X.K W (rA X.K) fa)) (hb : PE X c.2 (tX X.K W (rA X.K) fb)) :
    PE X e (tX X.K W (rF X.K) (fun r => (fa r).bind fun x r1 => (fb r1).bind fun y r2 => .of r2 (sem2R p r2 x y))) := by
  obtain ⟨pos, rfl, ns⟩ := cmpOf_ok h
  obtain ⟨z, ho, hz⟩ := cmpR_of C hp
  exact snd_bin ha hb (rule_cmp ho ns) (fun x y d d2 d' r σ G H Q s h h2 e q => hz s h h2 e q)
theorem rule_blt2 (C : CtxE P w K mg base N sc n W X) (F : Free mg) {s : String} {x : Str} {px pos : Pos} {id : String} {rr : List V → Hp → VK → Prop} {a b : Expr} (hc : CallR X (.builtin id) rr) (hv : bootBuiltins (enc s) = some (.builtin id)) (hb : bltB sc s x = true) (n1 : noStar a = true) (n2 : noStar b = true) (hp : plainN (enc s) = true) {ta tb : TE} (ha : PE X a ta) (hb' : PE X b tb) :
    PE X (.Call (.Name x px) [a, b] [] pos) (tOp (fun x y H Q => rr [x, y] H Q) ta tb) := by
  obtain ⟨g, m, rfl⟩ := C.blt F hb
  exact pe_callB hc g m hv (pa_cons ha (pa_cons hb' pa_nil (noStar_ok n2)) (noStar_ok n1)) (plainN_ok hp).2.2 (plainN_ok hp).1 (noStar_ok n1) (backTo_plain (by simp [n2]))
theorem sound2 (C : CtxE P w K mg base N sc n W X) (F : Free mg) {p : P2} (h : bi2 sc p e = some c) (ha : PE X c.1 (tX X.K W (rA X.K) fa)) (hb : PE X c.2 (tX X.K W (rA X.K) fb)) :
    PE X e (tX X.K W (rF X.K) (fun r => (fa r).bind fun x r1 => (fb r1).bind fun y r2 => .of r2 (sem2R p r2 x y))) := by
  by_cases hn : IsNew2 p = true
  · exact snd_froze (sound2N C F h hn ha hb)
  cases p with
  | cat => exact absurd rfl hn
  | rep => exact absurd rfl hn
  | eq => exact sound2c C rfl h ha hb
  | ne => exact sound2c C rfl h ha hb
  | lt => exact sound2c C rfl h ha hb
  | le => exact sound2c C rfl h ha hb
  | gt => exact sound2c C rfl h ha hb
  | ge => exact sound2c C rfl h ha hb
  | inn => exact sound2c C rfl h ha hb
  | nin => exact sound2c C rfl h ha hb
  | isb => exact sound2c C rfl h ha hb
  | nisb => exact sound2c C rfl h ha hb
  | band =>
    obtain ⟨p, rfl⟩ := binOf_ok h
    exact snd_bin ha hb (fun ha hb => pe_op op_and ha hb) (fun x y d d2 d' r σ G H Q s h h2 e q => ok_band s h h2 e q)
  | bxor =>
    obtain ⟨p, rfl⟩ := binOf_ok h
    exact snd_bin ha hb (fun ha hb => pe_op op_xor ha hb) (fun x y d d2 d' r σ G H Q s h h2 e q => ok_bxor s h h2 e q)
  | add =>
    obtain ⟨p, rfl⟩ := binOf_ok h
    exact snd_bin ha hb (fun ha hb => pe_op (OpR.or (OpR.or op_add op_cat) op_catA) ha hb) (fun x y d d2 d' r σ G H Q s h h2 e q => ok_add s h h2 e q)
  | sub =>
    obtain ⟨p, rfl⟩ := binOf_ok h
    exact snd_bin ha hb (fun ha hb => pe_op op_sub ha hb) (fun x y d d2 d' r σ G H Q s h h2 e q => ok_sub s h h2 e q)
  | mul =>
    obtain ⟨p, rfl⟩ := binOf_ok h
    exact snd_bin ha hb (fun ha hb => pe_op (OpR.or op_mul (OpR.or op_mulW op_repT)) ha hb) (fun x y d d2 d' r σ G H Q s h h2 e q => ok_mul s h h2 e q)
  | fdiv =>
    obtain ⟨p, rfl⟩ := binOf_ok h
    exact snd_bin ha hb (fun ha hb => pe_op (OpR.or op_fdivN op_fdivW) ha hb) (fun x y d d2 d' r σ G H Q s h h2 e q => ok_fdiv s h h2 e q)
  | mod =>
    obtain ⟨p, rfl⟩ := binOf_ok h
    exact snd_bin ha hb (fun ha hb => pe_op op_modN ha hb) (fun x y d d2 d' r σ G H Q s h h2 e q => ok_mod s h h2 e q)
  | pow =>
    obtain ⟨p, rfl⟩ := binOf_ok h
    exact snd_bin ha hb (fun ha hb => pe_op op_pow ha hb) (fun x y d d2 d' r σ G H Q s h h2 e q => ok_pow s h h2 e q)
  | ix =>
    obtain ⟨p, rfl, ns⟩ := ixOf_ok h
    exact snd_bin ha hb (fun ha hb => pe_ix (IxR.or ix_list ix_tup) ha hb (noSlice_ok ns)) (fun x y d d2 d' r σ G H Q s h h2 e q => ok_ix s h h2 e q)
  | max2 =>
    obtain ⟨x, px, pos, rfl, hx, n1, n2⟩ := call2Of_ok h
    exact snd_bin ha hb (rule_blt2 C F (call_max2 C.calm) (by decide +kernel) hx n1 n2 (by decide +kernel)) (fun x y d d2 d' r σ G H Q s h h2 e q => ok_max2 s h h2 e q)
  | min2 =>
    obtain ⟨x, px, pos, rfl, hx, n1, n2⟩ := call2Of_ok h
    exact snd_bin ha hb (rule_blt2 C F (call_min2 C.calm) (by decide +kernel) hx n1 n2 (by decide +kernel)) (fun x y d d2 d' r σ G H Q s h h2 e q => ok_min2 s h h2 e q)
end
end CW

set_option Elab.async false
set_option linter.all false
set_option maxRecDepth 100000
/-! Chains, tests, displays, slices, fields. -/
namespace CW
open PySem PySem.Spec PyProof.Rows L2
section
variable {X : Cx} {W : WX} {e a b c : Expr} {fa fb fc : Env → Ev Ar} {p q : P2} {o o' : CmpOp} {z z' : R2} {pos : Pos}
/-- behind a comparison: a truth value -/
theorem cmp_bl {p : P2} {d d2 d' : D} {o : CmpOp} (h : cop2 p = some o) (e : sem2 p d d2 = some d') : ∃ k, d' = .bl k := by
  cases p <;> first | (cases h; done) | skip
  · obtain ⟨_, rfl⟩ := ifs (show (if dOk 40 d && dOk 40 d2 then some (D.bl (deq d d2)) else none) = some d' from by cases d <;> cases d2 <;> exact e); exact ⟨_, rfl⟩
  · obtain ⟨_, rfl⟩ := ifs (show (if dOk 40 d && dOk 40 d2 then some (D.bl (!deq d d2)) else none) = some d' from by cases d <;> cases d2 <;> exact e); exact ⟨_, rfl⟩
  · cases d <;> cases d2 <;> first | (cases e; done) | exact ⟨_, (Option.some.inj e).symm⟩
  · cases d <;> cases d2 <;> first | (cases e; done) | exact ⟨_, (Option.some.inj e).symm⟩
  · cases d <;> cases d2 <;> first | (cases e; done) | exact ⟨_, (Option.some.inj e).symm⟩
  · cases d <;> cases d2 <;> first | (cases e; done) | exact ⟨_, (Option.some.inj e).symm⟩
  · cases d2 <;> first | (cases d <;> cases e; done) | skip
    all_goals (rename_i l; obtain ⟨_, rfl⟩ := ifs (show (if dOk 40 d && dsOk 40 l then some (D.bl (l.any fun z => deq z d)) else none) = some d' from by cases d <;> exact e); exact ⟨_, rfl⟩)
  · cases d2 <;> first | (cases d <;> cases e; done) | skip
    all_goals (rename_i l; obtain ⟨_, rfl⟩ := ifs (show (if dOk 40 d && dsOk 40 l then some (D.bl (!l.any fun z => deq z d)) else none) = some d' from by cases d <;> exact e); exact ⟨_, rfl⟩)
  · cases d <;> cases d2 <;> first | (cases e; done) | exact ⟨_, (Option.some.inj e).symm⟩
  · cases d <;> cases d2 <;> first | (cases e; done) | exact ⟨_, (Option.some.inj e).symm⟩
theorem sem2R_of {p : P2} {r : Env} {A B : Ar} {d' : D} (h : sem2R p r A B = some d') : ∃ d d2, drf r A = some d ∧ drf r B = some d2 ∧ sem2 p d d2 = some d' := by
  unfold sem2R at h
  obtain ⟨d, e2, e3⟩ := Option.bind_eq_some_iff.mp h
  obtain ⟨d2, e4, e5⟩ := Option.bind_eq_some_iff.mp e3
  exact ⟨d, d2, e2, e4, e5⟩
theorem rep_bl {K : PySem.W.Frag} {G : Hp} {v : V} {k : Bool} (h : Rep K G v (.bl k)) : v = .bl k := by cases h; rfl

/-- one comparison, what follows its answer -/
theorem cmp_then (hc : CmpR X p o z) (hp : cop2 p = some o) {r : Env} {σ : L2.St} {G H : Hp} {A B : Ar} {x y : V} (s : StRel X.K r σ G H) (ha : RepA X.K r σ G x A) (hb : RepA X.K r σ G y B) {d' : D} (h : sem2R p r A B = some d') {Q : VK}
    (q : ∀ k G' H', d' = .bl k → Step X.K r σ G H r σ G' H' → Q (.bl k) H') : z x y H Q := by
  obtain ⟨d, d2, e1, e2, e3⟩ := sem2R_of h
  obtain ⟨k, rfl⟩ := cmp_bl hp e3
  exact hc.2 (W := fun _ _ _ _ => False) s (ha.drf s e1) (hb.drf s e2) e3 (fun v G' H' t rv => by
    rw [rep_bl rv]; exact q k G' H' rfl t)

theorem snd_chain (hp : cop2 p = some o) (hq : cop2 q = some o') (h1 : CmpR X p o z) (h2 : CmpR X q o' z') (ns : noSet c = true)
    (ha : PE X a (tX X.K W (rA X.K) fa)) (hb : PE X b (tX X.K W (rA X.K) fb)) (hc : PE X c (tX X.K W (rA X.K) fc)) :
    PE X (.Compare a [o, o'] [b, c] pos) (tX X.K W (rF X.K) (fun r => (fa r).bind fun x r1 => (fb r1).bind fun y r2 => match sem2R p r2 x y with
      | some (.bl true) => (fc r2).bind fun u r3 => .of r3 (sem2R q r3 y u)
      | some (.bl false) => .ok (.bl false) r2
      | _ => .no)) :=
  (pe_chain h1.1 h2.1 ha hb hc (noSet_ok ns)).imp fun σ H Q ⟨r, G, s, w⟩ => ⟨r, G, s, w.seq rmF fun A r1 v G1 H1 t h3 w2 => ⟨r1, G1, t.st, w2.seq rmF fun B r2 u G2 H2 t2 h4 w3 => by
    cases e : sem2R p r2 A B with
    | none => rw [e] at w3; exact w3.elim
    | some d' =>
      refine cmp_then h1 hp t2.st (h3.step t2) h4 e fun k G3 H3 ek t3 => ⟨k, rfl, ?_⟩
      subst ek
      rw [e] at w3
      cases k with
      | false => rw [if_neg (by decide)]; exact w3 _ _ _ t3 (.bl _)
      | true =>
        rw [if_pos rfl]
        refine ⟨r2, G3, t3.st, (w3.shift rmF t3).seq rmF fun C r3 u' G4 H4 t4 h5 w5 => ?_⟩
        obtain ⟨d2, e2, w6⟩ := w5.of
        refine cmp_then h2 hq t4.st ((RepA.step h4 t3).step t4) h5 e2 fun k G5 H5 ek t5 => ?_
        subst ek
        exact w6 _ _ _ t5 (.bl _)⟩⟩
theorem snd_chainT (hp : cop2 p = some o) (hq : cop2 q = some o') (h1 : CmpR X p o z) (h2 : CmpR X q o' z') (ns : noSet c = true)
    (ha : PE X a (tX X.K W (rA X.K) fa)) (hb : PE X b (tX X.K W (rA X.K) fb)) (hc : PE X c (tX X.K W (rA X.K) fc)) :
    PT X (.Compare a [o, o'] [b, c] pos) (tX X.K W rB (fun r => (fa r).bind fun x r1 => (fb r1).bind fun y r2 => match sem2R p r2 x y with
      | some (.bl true) => (fc r2).bind fun u r3 => (match sem2R q r3 y u with
        | some (.bl k) => .ok k r3
        | _ => .no)
      | some (.bl false) => .ok false r2
      | _ => .no)) :=
  (pt_chain h1.1 h2.1 ha hb hc (noSet_ok ns)).imp fun σ H Q ⟨r, G, s, w⟩ => ⟨r, G, s, w.seq rmB fun A r1 v G1 H1 t h3 w2 => ⟨r1, G1, t.st, w2.seq rmB fun B r2 u G2 H2 t2 h4 w3 => by
    cases e : sem2R p r2 A B with
    | none => rw [e] at w3; exact w3.elim
    | some d' =>
      refine cmp_then h1 hp t2.st (h3.step t2) h4 e fun k G3 H3 ek t3 => ⟨k, rfl, ?_⟩
      subst ek
      rw [e] at w3
      cases k with
      | false => rw [if_neg (by decide)]; exact ⟨false, rfl, w3 _ _ _ t3 rfl⟩
      | true =>
        rw [if_pos rfl]
        refine ⟨r2, G3, t3.st, (w3.shift rmB t3).seq rmB fun C r3 u' G4 H4 t4 h5 w5 => ?_⟩
        cases e2 : sem2R q r3 B C with
        | none => rw [e2] at w5; exact w5.elim
        | some d2 =>
          refine cmp_then h2 hq t4.st ((RepA.step h4 t3).step t4) h5 e2 fun k G5 H5 ek t5 => ⟨k, rfl, ?_⟩
          subst ek
          rw [e2] at w5
          exact w5 _ _ _ t5 rfl⟩⟩
theorem snd_cmpT (hp : cop2 p = some o) (h1 : CmpR X p o z) (ns : noSet b = true) (ha : PE X a (tX X.K W (rA X.K) fa)) (hb : PE X b (tX X.K W (rA X.K) fb)) :
    PT X (.Compare a [o] [b] pos) (tX X.K W rB (fun r => (fa r).bind fun x r1 => (fb r1).bind fun y r2 => match sem2R p r2 x y with
      | some (.bl k) => .ok k r2
      | _ => .no)) :=
  (pt_cmpR h1.1 ha hb (noSet_ok ns)).imp fun σ H Q ⟨r, G, s, w⟩ => ⟨r, G, s, w.seq rmB fun A r1 v G1 H1 t h3 w2 => ⟨r1, G1, t.st, w2.seq rmB fun B r2 u G2 H2 t2 h4 w3 => by
    cases e : sem2R p r2 A B with
    | none => rw [e] at w3; exact w3.elim
    | some d' =>
      refine cmp_then h1 hp t2.st (h3.step t2) h4 e fun k G3 H3 ek t3 => ⟨k, rfl, ?_⟩
      subst ek
      rw [e] at w3
      exact w3 _ _ _ t3 rfl⟩⟩
theorem snd_isNT {k : Nat} {p2 : Pos} (ha : PE X a (tX X.K W (rA X.K) fa)) : PT X (.Compare a [.Is] [.Constant .none k p2] pos) (tX X.K W rB (fun r => (fa r).bind fun x r1 => match sem1R .isN r1 x with
      | some (.bl k) => .ok k r1
      | _ => .no)) :=
  (pt_cmp (pc_isN ha)).imp fun σ H Q ⟨r, G, s, w⟩ => ⟨r, G, s, w.seq rmB fun A r1 v G1 H1 t h3 w2 => by
    cases e : sem1R .isN r1 A with
    | none => rw [e] at w2; exact w2.elim
    | some d' =>
      obtain ⟨d, e1, e2⟩ := Option.bind_eq_some_iff.mp e
      refine ok_isN (W := W) (Q := fun x H => ∃ c, x = .bl c ∧ Q c H) t.st (RepA.drf h3 t.st e1) e2 (fun u G' H' t' ru => ?_)
      rw [e] at w2
      cases d' with
      | bl k => exact ⟨k, rep_bl ru, w2 _ _ _ t' rfl⟩
      | _ => exact w2.elim⟩
theorem snd_notNT {k : Nat} {p2 : Pos} (ha : PE X a (tX X.K W (rA X.K) fa)) : PT X (.Compare a [.IsNot] [.Constant .none k p2] pos) (tX X.K W rB (fun r => (fa r).bind fun x r1 => match sem1R .notN r1 x with
      | some (.bl k) => .ok k r1
      | _ => .no)) :=
  (pt_cmp (pc_notN ha)).imp fun σ H Q ⟨r, G, s, w⟩ => ⟨r, G, s, w.seq rmB fun A r1 v G1 H1 t h3 w2 => by
    cases e : sem1R .notN r1 A with
    | none => rw [e] at w2; exact w2.elim
    | some d' =>
      obtain ⟨d, e1, e2⟩ := Option.bind_eq_some_iff.mp e
      refine ok_notN (W := W) (Q := fun x H => ∃ c, x = .bl c ∧ Q c H) t.st (RepA.drf h3 t.st e1) e2 (fun u G' H' t' ru => ?_)
      rw [e] at w2
      cases d' with
      | bl k => exact ⟨k, rep_bl ru, w2 _ _ _ t' rfl⟩
      | _ => exact w2.elim⟩
theorem snd_tr (hp : plainT a = true) (ha : PE X a (tX X.K W (rA X.K) fa)) : PT X a (tX X.K W rB (fun r => (fa r).bind fun x r1 => .of r1 ((drf r1 x).bind tru))) :=
  (pt_truth ha (plainT_ok hp)).imp fun σ H Q ⟨r, G, s, w⟩ => ⟨r, G, s, w.seq rmB fun A r1 v G1 H1 t h3 w2 => by
    obtain ⟨k, e, w3⟩ := w2.of
    obtain ⟨d, e1, e2⟩ := Option.bind_eq_some_iff.mp e
    exact ⟨k, tru_ok' t.st.sub (RepA.drf h3 t.st e1) e2, w3.fin (.refl t.st) rfl⟩⟩
theorem snd_not {f : Env → Ev Bool} (ha : PT X a (tX X.K W rB f)) : PT X (.UnaryOp .Not a pos) (tX X.K W rB (fun r => (f r).bind fun k r1 => .ok (!k) r1)) :=
  (pt_not ha).imp fun σ H Q ⟨r, G, s, w⟩ => ⟨r, G, s, w.seq rmB fun k r1 v G1 H1 t h3 w2 => by
    obtain rfl : v = k := h3
    exact w2.fin (.refl t.st) rfl⟩
theorem _root_.L2.PW.imp {X : Cx} {e : Expr} {t t' : TT} (h : PW X e t) (i : ∀ σ H Q, t' σ H Q → t σ H Q) : PW X e t' := ⟨fun wh pins s σ H Q I q => h.run wh pins s σ H Q I (i σ H Q q)⟩
/-- tests one behind the other -/
theorem snd_and1 {f : Env → Ev Bool} (ha : PT X a (tX X.K W rB f)) : PW X (.BoolOp .And [a] pos) (tX X.K W rB (fun r => (f r).bind fun b r1 => if b = true then .ok true r1 else .ok b r1)) :=
  (pw_and1 ha).imp fun σ H Q ⟨r, G, s, w⟩ => ⟨r, G, s, by
    refine w.seq rmB fun k r1 v G1 H1 t h3 w2 => ?_
    obtain rfl : v = k := h3
    cases v <;> exact w2.fin (.refl t.st) rfl⟩
theorem snd_or1 {f : Env → Ev Bool} (ha : PT X a (tX X.K W rB f)) : PW X (.BoolOp .Or [a] pos) (tX X.K W rB (fun r => (f r).bind fun b r1 => if b = false then .ok false r1 else .ok b r1)) :=
  (pw_or1 ha).imp fun σ H Q ⟨r, G, s, w⟩ => ⟨r, G, s, by
    refine w.seq rmB fun k r1 v G1 H1 t h3 w2 => ?_
    obtain rfl : v = k := h3
    cases v <;> exact w2.fin (.refl t.st) rfl⟩
theorem snd_and {f g : Env → Ev Bool} {rest : List Expr} (ha : PT X a (tX X.K W rB f)) (hb : PW X (.BoolOp .And (b :: rest) pos) (tX X.K W rB g)) :
    PW X (.BoolOp .And (a :: b :: rest) pos) (tX X.K W rB (fun r => (f r).bind fun b r1 => if b = true then g r1 else .ok b r1)) :=
  (pw_and ha hb).imp fun σ H Q ⟨r, G, s, w⟩ => ⟨r, G, s, by
    refine w.seq rmB fun k r1 v G1 H1 t h3 w2 => ?_
    obtain rfl : v = k := h3
    cases v with
    | true => rw [if_pos rfl]; exact ⟨r1, G1, t.st, w2⟩
    | false => rw [if_neg (by decide)]; exact w2.fin (.refl t.st) rfl⟩
theorem snd_or {f g : Env → Ev Bool} {rest : List Expr} (ha : PT X a (tX X.K W rB f)) (hb : PW X (.BoolOp .Or (b :: rest) pos) (tX X.K W rB g)) :
    PW X (.BoolOp .Or (a :: b :: rest) pos) (tX X.K W rB (fun r => (f r).bind fun b r1 => if b = false then g r1 else .ok b r1)) :=
  (pw_or ha hb).imp fun σ H Q ⟨r, G, s, w⟩ => ⟨r, G, s, by
    refine w.seq rmB fun k r1 v G1 H1 t h3 w2 => ?_
    obtain rfl : v = k := h3
    cases v with
    | true => rw [if_pos rfl]; exact w2.fin (.refl t.st) rfl
    | false => rw [if_neg (by decide)]; exact ⟨r1, G1, t.st, w2⟩⟩
/-- values one behind the other -/
theorem snd_bop1 {op : BoolOp} {f : Env → Ev D} (ha : PE X a (tX X.K W (rF X.K) f)) : PE X (.BoolOp op [a] pos) (tX X.K W (rF X.K) f) := pe_one ha
theorem snd_bop {k : Bool} {f g : Env → Ev D} {rest : List Expr} (ha : PE X a (tX X.K W (rF X.K) f)) (hb : PE X (.BoolOp (if k = true then .And else .Or) (b :: rest) pos) (tX X.K W (rF X.K) g)) :
    PE X (.BoolOp (if k = true then .And else .Or) (a :: b :: rest) pos) (tX X.K W (rF X.K) (fun r => (f r).bind fun d r1 => match d with
      | .bl b => if b = k then g r1 else .ok (.bl b) r1
      | _ => .no)) := by
  cases k with
  | true =>
    exact (pe_and ha hb).imp fun σ H Q ⟨r, G, s, w⟩ => ⟨r, G, s, by
      refine w.seq rmF fun d r1 v G1 H1 t h3 w2 => ?_
      cases d with
      | bl c =>
        refine ⟨c, rep_bl h3, ?_⟩
        cases c with
        | true => rw [if_pos rfl]; exact ⟨r1, G1, t.st, w2⟩
        | false => rw [if_neg (by decide)]; exact w2.fin (.refl t.st) (.bl _)
      | _ => exact w2.elim⟩
  | false =>
    exact (pe_or ha hb).imp fun σ H Q ⟨r, G, s, w⟩ => ⟨r, G, s, by
      refine w.seq rmF fun d r1 v G1 H1 t h3 w2 => ?_
      cases d with
      | bl c =>
        refine ⟨c, rep_bl h3, ?_⟩
        cases c with
        | true => rw [if_pos rfl]; exact w2.fin (.refl t.st) (.bl _)
        | false => rw [if_neg (by decide)]; exact ⟨r1, G1, t.st, w2⟩
      | _ => exact w2.elim⟩
theorem snd_ite {f g : Env → Ev D} {k : Env → Ev Bool} (hc : PT X c (tX X.K W rB k)) (ha : PE X a (tX X.K W (rF X.K) f)) (hb : PE X b (tX X.K W (rF X.K) g)) :
    PE X (.IfExp c a b pos) (tX X.K W (rF X.K) (fun r => (k r).bind fun k r1 => if k = true then f r1 else g r1)) :=
  (pe_ifExp hc ha hb).imp fun σ H Q ⟨r, G, s, w⟩ => ⟨r, G, s, by
    refine w.seq rmF fun k r1 v G1 H1 t h3 w2 => ?_
    obtain rfl : v = k := h3
    cases v with
    | true => rw [if_pos rfl]; exact ⟨r1, G1, t.st, w2⟩
    | false => rw [if_neg (by decide)]; exact ⟨r1, G1, t.st, w2⟩⟩

/-! ### displays -/
theorem snd_nil : PA X [] (tX X.K W (rL X.K) (fun r => .ok [] r)) := pa_nil.imp fun σ H Q ⟨r, G, s, w⟩ => w.fin (.refl s) .nil
theorem snd_cons {es : List Expr} {f : Env → Ev D} {g : Env → Ev (List D)} (ns : noStar e = true) (ha : PE X e (tX X.K W (rF X.K) f)) (hb : PA X es (tX X.K W (rL X.K) g)) :
    PA X (e :: es) (tX X.K W (rL X.K) (fun r => (f r).bind fun d r1 => (g r1).bind fun ds r2 => .ok (d :: ds) r2)) :=
  (pa_cons ha hb (noStar_ok ns)).imp fun σ H Q ⟨r, G, s, w⟩ => ⟨r, G, s, w.seq rmL fun d r1 v G1 H1 t h3 w2 => ⟨r1, G1, t.st, w2.seq rmL fun ds r2 vs G2 H2 t2 h4 w3 =>
    w3.fin (.refl t2.st) (.cons (h3.mono t2.ext) h4)⟩⟩
theorem snd_tup {es : List Expr} {k : Nat} {f : Env → Ev (List D)} (h : PA X es (tX X.K W (rL X.K) f)) : PE X (.Tuple es k pos) (tX X.K W (rF X.K) (fun r => (f r).bind fun ds r1 => if ds.length ≤ SZ then .ok (.tup ds) r1 else .no)) :=
  (pe_tup h).imp fun σ H Q ⟨r, G, s, w⟩ => ⟨r, G, s, w.seq rmF fun ds r1 vs G1 H1 t h3 w2 => by
    by_cases z : ds.length ≤ SZ
    · rw [if_pos z] at w2
      exact ⟨by rw [Reps.length h3, ← sz_line]; exact z, fun p hp => fin_tup t.st h3 w2 hp⟩
    · rw [if_neg z] at w2; exact w2.elim⟩
theorem snd_lst {es : List Expr} {f : Env → Ev (List D)} (h : PA X es (tX X.K W (rL X.K) f)) : PE X (.List es pos) (tX X.K W (rN X.K) (fun r => (f r).bind fun ds r1 => if ds.length ≤ SZ then .ok (.lst ds) r1 else .no)) :=
  (pe_lst h).imp fun σ H Q ⟨r, G, s, w⟩ => ⟨r, G, s, w.seq rmN fun ds r1 vs G1 H1 t h3 w2 => by
    by_cases z : ds.length ≤ SZ
    · rw [if_pos z] at w2
      exact ⟨by rw [Reps.length h3, ← sz_line]; exact z, fun p hp => fin_lst t.st h3 w2 hp⟩
    · rw [if_neg z] at w2; exact w2.elim⟩

/-! ### slices -/
theorem PO.imp {e : Option Expr} {t t' : TO} (h : PO X e t) (i : ∀ σ H Q, t' σ H Q → t σ H Q) : PO X e t' := ⟨fun pins s σ H Q I q => h.run pins s σ H Q I (i σ H Q q)⟩
theorem snd_o0 : PO X none (tX X.K W rO (fun r => .ok none r)) := PO.imp po_none fun σ H Q ⟨r, G, s, w⟩ => w.fin (.refl s) rfl
theorem snd_o1 {f : Env → Ev D} (h : PE X e (tX X.K W (rF X.K) f)) : PO X (some e) (tX X.K W rO (fun r => (f r).bind fun d r1 => match d with
    | .int i => .ok (some i) r1
    | _ => .no)) := PO.imp (po_some h) fun σ H Q ⟨r, G, s, w⟩ => ⟨r, G, s, w.seq rmO fun d r1 v G1 H1 t h3 w2 => by
      cases d with
      | int i =>
        cases h3
        exact ⟨i, rfl, w2.fin (.refl t.st) rfl⟩
      | _ => exact w2.elim⟩
theorem cutIx_eq (n d : Nat) (o : Option Int) : cutIx n d o = HT.sIx n d o := by cases o <;> rfl
theorem reps_cut {K : PySem.W.Frag} {G : Hp} {vs : List V} {ds : List D} (r : Reps K G vs ds) (lo hi : Option Int) : Reps K G (cutV vs lo hi) (cutL ds lo hi) := by
  unfold cutV cutL
  rw [cutIx_eq, cutIx_eq, ← r.length]
  exact (r.drop _).take _
theorem snd_sl {nw : Bool} {lo hi : Option Expr} {p2 : Pos} {fl fh : Env → Ev (Option Int)} (ha : PE X a (tX X.K W (rA X.K) fa)) (hl : PO X lo (tX X.K W rO fl)) (hh : PO X hi (tX X.K W rO fh)) :
    PE X (.Subscript a (.Slice lo hi none p2) pos) (tX X.K W (rF X.K) (fun r => (fa r).bind fun x r1 => (fl r1).bind fun l r2 => (fh r2).bind fun h r3 => .of r3 ((drf r3 x).bind fun d => semSl nw d l h))) :=
  (pe_slice (SlR.or sl_list sl_tupA) ha hl hh).imp fun σ H Q ⟨r, G, s, w⟩ => ⟨r, G, s, w.seq rmF fun A r1 v G1 H1 t h3 w2 => ⟨r1, G1, t.st, w2.seq rmF fun l r2 l' G2 H2 t2 h4 w3 => ⟨r2, G2, t2.st, w3.seq rmF fun h r3 h' G3 H3 t3 h5 w4 => by
    obtain rfl : l' = l := h4
    obtain rfl : h' = h := h5
    obtain ⟨d', e, w5⟩ := w4.of
    obtain ⟨d, e1, e2⟩ := Option.bind_eq_some_iff.mp e
    have pk := RepA.drf ((RepA.step h3 t2).step t3) t3.st e1
    cases d with
    | lst l =>
      obtain rfl : _ = d' := Option.some.inj (show some (D.lst (cutL l l' h')) = some d' by cases nw <;> exact e2)
      obtain ⟨a, vs, rfl, e3, rr⟩ := pk.lst t3.st.sub
      exact .inl ⟨a, vs, rfl, SqL.of e3, fun p hp => fin_lst t3.st (reps_cut rr _ _) w5.froze hp⟩
    | tup l =>
      cases nw with
      | true => cases e2
      | false =>
        obtain rfl : _ = d' := Option.some.inj e2
        obtain ⟨a, vs, rfl, e3, rr⟩ := pk.tup
        refine .inr ⟨a, vs, rfl, SqT.of (t3.st.sub _ _ e3), fun z => ?_, fun _ p hp => fin_tup t3.st (reps_cut rr _ _) w5 hp⟩
        have ec : cutV vs l' h' = vs := by
          unfold cutV
          rw [z.1, z.2, List.drop_zero, Nat.sub_zero, List.take_length]
        have rc := reps_cut rr l' h'
        rw [ec] at rc
        exact w5.fin (.refl t3.st) (.tup e3 rc)
    | _ => cases nw <;> cases e2⟩⟩⟩
theorem snd_slN {lo hi : Option Expr} {p2 : Pos} {fl fh : Env → Ev (Option Int)} (ha : PE X a (tX X.K W (rA X.K) fa)) (hl : PO X lo (tX X.K W rO fl)) (hh : PO X hi (tX X.K W rO fh)) :
    PE X (.Subscript a (.Slice lo hi none p2) pos) (tX X.K W (rN X.K) (fun r => (fa r).bind fun x r1 => (fl r1).bind fun l r2 => (fh r2).bind fun h r3 => .of r3 ((drf r3 x).bind fun d => semSl true d l h))) :=
  (pe_slice sl_list ha hl hh).imp fun σ H Q ⟨r, G, s, w⟩ => ⟨r, G, s, w.seq rmN fun A r1 v G1 H1 t h3 w2 => ⟨r1, G1, t.st, w2.seq rmN fun l r2 l' G2 H2 t2 h4 w3 => ⟨r2, G2, t2.st, w3.seq rmN fun h r3 h' G3 H3 t3 h5 w4 => by
    obtain rfl : l' = l := h4
    obtain rfl : h' = h := h5
    obtain ⟨d', e, w5⟩ := w4.of
    obtain ⟨d, e1, e2⟩ := Option.bind_eq_some_iff.mp e
    have pk := RepA.drf ((RepA.step h3 t2).step t3) t3.st e1
    cases d with
    | lst l =>
      obtain rfl : _ = d' := Option.some.inj e2
      obtain ⟨a, vs, rfl, e3, rr⟩ := pk.lst t3.st.sub
      exact ⟨a, vs, rfl, SqL.of e3, fun p hp => fin_lst t3.st (reps_cut rr _ _) w5 hp⟩
    | _ => cases e2⟩⟩⟩

/-! ### fields -/
theorem fld_lookup {K : PySem.W.Frag} {G : Hp} {f : String} : ∀ {fs : List (Str × V)} {ns : List String} {ds : List D} {d : D}, fs.map (·.1) = ns.map enc → Reps K G (fs.map (·.2)) ds → fldOf f ns ds = some d → ∃ v, fs.lookup (enc f) = some v ∧ Rep K G v d
  | [], [], _, _, _, h, e => by cases h; cases e
  | [], _ :: _, _, _, e, _, _ => by cases e
  | _ :: _, [], _, _, e, _, _ => by cases e
  | (g, v) :: fs, n :: ns, ds, d, e, h, q => by
    cases h with
    | cons h r =>
      have e' : g = enc n ∧ fs.map (·.1) = ns.map enc := by simpa using e
      by_cases z : f = n
      · subst z
        simp only [fldOf, beq_self_eq_true, if_pos] at q
        obtain rfl := Option.some.inj q
        exact ⟨v, by rw [e'.1]; simp [List.lookup], h⟩
      · have zb : (f == n) = false := beq_eq_false_iff_ne.mpr z
        simp only [fldOf, zb, Bool.false_eq_true, if_neg, not_false_eq_true] at q
        obtain ⟨v', a, b⟩ := fld_lookup e'.2 r q
        refine ⟨v', ?_, b⟩
        have : (enc f == g) = false := by rw [e'.1, enc_beq]; exact zb
        simp only [List.lookup, this]; exact a
theorem snd_fld {cs : List String} {f : String} (hs : noSuper a = true) (ha : PE X a (tX X.K W (rA X.K) fa)) (hc : ∀ c ∈ cs, Cls X.K (clsA X.K c) ∧ NoAttr X.K (clsA X.K c) (enc f)) :
    PE X (.Attribute a (enc f) pos) (tX X.K W (rF X.K) (fun r => (fa r).bind fun x r1 => match drf r1 x with
      | some (.ins c ns vs) => if cs.contains c then .of r1 (fldOf f ns vs) else .no
      | _ => .no)) :=
  (pe_fld ha (noSuper_ok hs)).imp fun σ H Q ⟨r, G, s, w⟩ => ⟨r, G, s, w.seq rmF fun A r1 v G1 H1 t h3 w2 => by
    cases e : drf r1 A with
    | none => rw [e] at w2; exact w2.elim
    | some d =>
      rw [e] at w2
      cases d with
      | ins c ns ds =>
        dsimp only at w2
        by_cases z : cs.contains c = true
        · rw [if_pos z] at w2
          obtain ⟨d', e2, w3⟩ := w2.of
          obtain ⟨a, dx, fs, rfl, e3, e4, e5⟩ := (RepA.drf h3 t.st e).ins t.st.sub
          obtain ⟨v, e6, e7⟩ := fld_lookup e4 e5 e2
          obtain ⟨c1, c2⟩ := hc c (by simpa using z)
          exact ⟨a, _, dx, fs, v, rfl, e3, c1, c2, e6, w3.fin (.refl t.st) e7⟩
        · rw [if_neg z] at w2; exact w2.elim
      | _ => exact w2.elim⟩
end
end CW

set_option Elab.async false
set_option linter.all false
set_option maxRecDepth 100000
/-! Calls of the text's own defs, methods, classes. -/
namespace CW
open PySem PySem.Spec PyProof.Rows L2

/-! ### arguments -/
/-- an argument's value; H0: the heap ahead of all arguments -/
inductive ArRel (K : PySem.W.Frag) (r : Env) (σ : L2.St) (G H H0 : Hp) : Bool → V → Ar → Prop
  | v {v : V} {d : D} : Rep K G v d → ArRel K r σ G H H0 false v (.v d)
  | r {v : V} {i : Nat} : σ[i]? = some (some v) → ArRel K r σ G H H0 true v (.r i)
  | t {p : Addr} {o : HO} {d : D} : H p = some o → G p = none → ObjRel K G o d → H0 p = none → (∀ i, isO (get r i) = true → σ[i]? ≠ some (some (.ref p))) → ArRel K r σ G H H0 true (.ref p) (.t d)
inductive ArRels (K : PySem.W.Frag) (r : Env) (σ : L2.St) (G H H0 : Hp) : List Bool → List V → List Ar → Prop
  | nil : ArRels K r σ G H H0 [] [] []
  | cons {m : Bool} {ms : List Bool} {v : V} {vs : List V} {a : Ar} {as : List Ar} : ArRel K r σ G H H0 m v a → (∀ d, a = .t d → ∀ d', (v, Ar.t d') ∉ vs.zip as) → ArRels K r σ G H H0 ms vs as → ArRels K r σ G H H0 (m :: ms) (v :: vs) (a :: as)
section
variable {K : PySem.W.Frag} {r r1 r' r0 : Env} {σ : L2.St} {G G1 G' G0 H H1 H' H0 : Hp} {m : Bool} {ms : List Bool} {v : V} {vs : List V} {a : Ar} {as : List Ar} {ds outs : List D} {rho rho1 : Env} {p : Addr}
theorem ArRel.step (h : ArRel K r σ G H H0 m v a) (s : Step K r σ G H r1 σ G1 H1) : ArRel K r1 σ G1 H1 H0 m v a := by
  cases h with
  | v h => exact .v (h.mono s.ext)
  | r h => exact .r h
  | t h1 h2 h3 h4 h5 =>
    have no : ¬ OwA r σ _ := fun ⟨i, b, d, e, q⟩ => h5 i (by rw [e]; rfl) q
    obtain ⟨e, g⟩ := s.frame _ (by rw [h1]; intro z; cases z) no
    refine .t (e.trans h1) (g h2) (h3.mono s.ext) h4 fun i hi q => ?_
    rcases s.ownI _ ⟨i, hi, q⟩ with ⟨j, hj, qj⟩ | z
    · exact h5 j hj qj
    · rw [h1] at z; cases z
theorem ArRels.step (h : ArRels K r σ G H H0 ms vs as) (s : Step K r σ G H r1 σ G1 H1) : ArRels K r1 σ G1 H1 H0 ms vs as := by
  induction h with
  | nil => exact .nil
  | cons h hd _ ih => exact .cons (h.step s) hd ih
theorem ArRel.back (h : ArRel K r σ G H H1 m v a) (l : ∀ a, H0 a ≠ none → H1 a ≠ none) : ArRel K r σ G H H0 m v a := by
  cases h with
  | v h => exact .v h
  | r h => exact .r h
  | t h1 h2 h3 h4 h5 => exact .t h1 h2 h3 (Classical.byContradiction fun z => l _ z h4) h5
theorem ArRels.back (h : ArRels K r σ G H H1 ms vs as) (l : ∀ a, H0 a ≠ none → H1 a ≠ none) : ArRels K r σ G H H0 ms vs as := by
  induction h with
  | nil => exact .nil
  | cons h hd _ ih => exact .cons (h.back l) hd ih
def rAr (K : PySem.W.Frag) (m : Bool) : Rl V Ar := fun H σ r' G' H' v a => ArRel K r' σ G' H' H m v a
def rAs (K : PySem.W.Frag) (ms : List Bool) : Rl (List V) (List Ar) := fun H σ r' G' H' vs as => ArRels K r' σ G' H' H ms vs as
theorem rmAr {K : PySem.W.Frag} {m : Bool} : RM (rAr K m) := fun _ _ _ _ _ _ _ _ l h => h.back l
theorem rmAs {K : PySem.W.Frag} {ms : List Bool} : RM (rAs K ms) := fun _ _ _ _ _ _ _ _ l h => h.back l

theorem ArRels.len (h : ArRels K r σ G H H0 ms vs as) : vs.length = ms.length ∧ as.length = ms.length := by
  induction h with
  | nil => exact ⟨rfl, rfl⟩
  | cons _ _ _ ih => exact ⟨congrArg Nat.succ ih.1, congrArg Nat.succ ih.2⟩

theorem StRel.cons {x : Sl} {w : Option V} (s : StRel K r σ G H) (hx : SlRel K G H (some w) x) (hj : isO x = true → ∀ p, w = some (.ref p) → ¬ OwI r σ p) : StRel K (x :: r) (w :: σ) G H := by
  refine ⟨congrArg Nat.succ s.len, s.sub, fun i => ?_, fun i j p hi hj' ei ej => ?_⟩
  · cases i with
    | zero => exact hx
    | succ i => exact s.sl i
  · cases i with
    | zero =>
      cases j with
      | zero => rfl
      | succ j => exact absurd ⟨j, hj', by simpa using ej⟩ (hj hi p (by simpa using ei))
    | succ i =>
      cases j with
      | zero => exact absurd ⟨i, hi, by simpa using ei⟩ (hj hj' p (by simpa using ej))
      | succ j => exact congrArg Nat.succ (s.inj i j p hi hj' (by simpa using ei) (by simpa using ej))
theorem OwI.cons {x : Sl} {w : Option V} (h : OwI (x :: r) (w :: σ) p) : (isO x = true ∧ w = some (.ref p)) ∨ OwI r σ p := by
  obtain ⟨i, hi, e⟩ := h
  cases i with
  | zero => exact .inl ⟨hi, by simpa using e⟩
  | succ i => exact .inr ⟨i, hi, by simpa using e⟩

theorem initE_cons {m : Bool} {ms : List Bool} {d : D} {ds : List D} {rho : Env} (h : initE (m :: ms) (d :: ds) = some rho) : ∃ r', initE ms ds = some r' ∧ rho = (if m then Sl.ow true d else Sl.va d) :: r' := by
  simp only [initE] at h
  obtain ⟨r', e, q⟩ := Option.map_eq_some_iff.mp h
  exact ⟨r', e, q.symm⟩
theorem arDs_cons {a : Ar} {as : List Ar} {ds : List D} (h : arDs r (a :: as) = some ds) : ∃ d ds', arD r a = some d ∧ arDs r as = some ds' ∧ ds = d :: ds' := by
  simp only [arDs] at h
  obtain ⟨d, e, q⟩ := Option.bind_eq_some_iff.mp h
  obtain ⟨ds', e2, q2⟩ := Option.map_eq_some_iff.mp q
  exact ⟨d, ds', e, e2, q2.symm⟩
theorem nodupN_cons {i : Nat} {l : List Nat} (h : nodupN (i :: l) = true) : i ∉ l ∧ nodupN l = true := by
  simp only [nodupN, Bool.and_eq_true, Bool.not_eq_true'] at h
  exact ⟨fun z => by have := h.1; simp [z] at this, h.2⟩
theorem arD_ow {i : Nat} {d : D} (h : arD r (.r i) = some d) : ∃ b, get r i = .ow b d := by
  simp only [arD] at h
  cases q : get r i with
  | ow b x => rw [q] at h; exact ⟨b, by rw [Option.some.inj h]⟩
  | _ => rw [q] at h; cases h

theorem ArRels.temp (h : ArRels K r σ G H H0 ms vs as) {d : D} (hm : (V.ref p, Ar.t d) ∈ vs.zip as) : H0 p = none ∧ ∀ i, isO (get r i) = true → σ[i]? ≠ some (some (.ref p)) := by
  induction h with
  | nil => cases hm
  | @cons m ms v vs a as h2 hd hs ih =>
    rw [List.zip_cons_cons] at hm
    rcases List.mem_cons.mp hm with z | z
    · injection z with z1 z2
      subst z1; subst z2
      cases h2 with
      | t _ _ _ h4 h5 => exact ⟨h4, h5⟩
    · exact ih z

/-- the arguments as the callee's slots -/
theorem args_in (s : StRel K r σ G H) (h : ArRels K r σ G H H0 ms vs as) : ∀ {ds : List D}, arDs r as = some ds → nodupN (refs as) = true → ∃ rho, initE ms ds = some rho ∧ StRel K rho (vs.map some) G H ∧
    ∀ p, OwI rho (vs.map some) p → (∃ i ∈ refs as, σ[i]? = some (some (.ref p)) ∧ ∃ b d, get r i = .ow b d) ∨ ∃ d, (V.ref p, Ar.t d) ∈ vs.zip as := by
  induction h with
  | nil =>
    intro ds e _
    obtain rfl : [] = ds := Option.some.inj e
    exact ⟨[], rfl, ⟨rfl, s.sub, fun i => trivial, fun i j p hi => by cases hi⟩, fun p ⟨i, hi, _⟩ => by cases hi⟩
  | @cons m ms v vs a as h hd hs ih =>
    intro ds e nd
    obtain ⟨d, ds', e1, e2, rfl⟩ := arDs_cons e
    have nd' : nodupN (refs as) = true := by
      cases a with
      | r i => exact (nodupN_cons nd).2
      | v => exact nd
      | t => exact nd
    obtain ⟨rho, f1, f2, f3⟩ := ih e2 nd'
    refine ⟨(if m then Sl.ow true d else Sl.va d) :: rho, by simp only [initE, f1, Option.map_some], ?_, fun p o => ?_⟩
    · cases h with
      | @v v d' h =>
        obtain rfl : d' = d := Option.some.inj e1
        exact f2.cons ⟨_, rfl, h⟩ (fun z => nomatch z)
      | @r v i h =>
        obtain ⟨b, g⟩ := arD_ow e1
        obtain ⟨p, o, q1, q2, q3, q4⟩ := s.owned g
        have ev : v = .ref p := by rw [q1] at h; injection h with h; injection h with h; exact h.symm
        refine f2.cons ⟨p, o, by rw [ev], q2, q3, q4⟩ fun _ p' ep oi => ?_
        have epp : p' = p := by rw [ev] at ep; injection ep with ep; injection ep with ep; exact ep.symm
        subst epp
        rcases f3 _ oi with ⟨j, hj, qj, b', d', gj⟩ | ⟨d', hm⟩
        · have : i = j := s.inj i j _ (by rw [g]; rfl) (by rw [gj]; rfl) q1 qj
          subst this
          exact (nodupN_cons nd).1 hj
        · exact (ArRels.temp hs hm).2 i (by rw [g]; rfl) q1
      | @t p o d' h1 h2 h3 h4 h5 =>
        obtain rfl : d' = d := Option.some.inj e1
        refine f2.cons ⟨p, o, rfl, h1, h2, h3⟩ fun _ p' ep oi => ?_
        have epp : p' = p := by injection ep with ep; injection ep with ep; exact ep.symm
        subst epp
        rcases f3 _ oi with ⟨j, hj, qj, b', d2, gj⟩ | ⟨d2, hm⟩
        · exact h5 j (by rw [gj]; rfl) qj
        · exact hd _ rfl d2 hm
    · rcases OwI.cons o with ⟨hi, ev⟩ | o
      · cases h with
        | v h => cases hi
        | @r v i h =>
          obtain ⟨b, g⟩ := arD_ow e1
          refine .inl ⟨i, List.mem_cons_self, ?_, b, d, g⟩
          injection ev with ev
          rw [h, ev]
        | @t p' o d' h1 h2 h3 h4 h5 =>
          injection ev with ev
          exact .inr ⟨d', by rw [← ev]; simp⟩
      · rcases f3 _ o with ⟨j, hj, rest⟩ | ⟨d2, hm⟩
        · refine .inl ⟨j, ?_, rest⟩
          cases a with
          | r i => exact List.mem_cons_of_mem _ hj
          | v => exact hj
          | t => exact hj
        · exact .inr ⟨d2, by simp [hm]⟩

/-- the slots behind the call -/
theorem outTo_get : ∀ {ms : List Bool} {as : List Ar} {outs : List D} {rho1 r r' : Env}, outTo as outs r = some r' → initE ms outs = some rho1 → nodupN (refs as) = true →
    r'.length = r.length ∧ ∀ i, (i ∉ refs as → get r' i = get r i) ∧ (i ∈ refs as → ∃ (b : Bool) (d d' : D) (k : Nat), get r i = .ow b d ∧ get r' i = .ow b d' ∧ as[k]? = some (Ar.r i) ∧ outs[k]? = some d')
  | ms, [], [], rho1, r, r', h, _, _ => by
    obtain rfl : r = r' := Option.some.inj h
    exact ⟨rfl, fun i => ⟨fun _ => rfl, fun z => by cases z⟩⟩
  | ms, [], _ :: _, rho1, r, r', h, _, _ => by cases h
  | [], _ :: _, d :: _, rho1, r, r', _, h, _ => by cases h
  | ms, .r i :: as, [], rho1, r, r', h, _, _ => by cases h
  | ms, .v _ :: as, [], rho1, r, r', h, _, _ => by cases h
  | ms, .t _ :: as, [], rho1, r, r', h, _, _ => by cases h
  | m :: ms, .v x :: as, d :: ds, rho1, r, r', h, hi, nd => by
    obtain ⟨r2, e, _⟩ := initE_cons hi
    obtain ⟨l, f⟩ := outTo_get (ms := ms) (as := as) (outs := ds) h e nd
    refine ⟨l, fun i => ⟨(f i).1, fun hi => ?_⟩⟩
    obtain ⟨b, d1, d2, k, a1, a2, a3, a4⟩ := (f i).2 hi
    exact ⟨b, d1, d2, k + 1, a1, a2, a3, a4⟩
  | m :: ms, .t x :: as, d :: ds, rho1, r, r', h, hi, nd => by
    obtain ⟨r2, e, _⟩ := initE_cons hi
    obtain ⟨l, f⟩ := outTo_get (ms := ms) (as := as) (outs := ds) h e nd
    refine ⟨l, fun i => ⟨(f i).1, fun hi => ?_⟩⟩
    obtain ⟨b, d1, d2, k, a1, a2, a3, a4⟩ := (f i).2 hi
    exact ⟨b, d1, d2, k + 1, a1, a2, a3, a4⟩
  | m :: ms, .r j :: as, d :: ds, rho1, r, r', h, hi, nd => by
    obtain ⟨r2, e, _⟩ := initE_cons hi
    obtain ⟨nj, nd'⟩ := nodupN_cons nd
    simp only [outTo] at h
    cases q : get r j with
    | ow b x =>
      rw [q] at h
      have hj : j < r.length := get_lt (by rw [q]; intro z; cases z)
      obtain ⟨l, f⟩ := outTo_get (ms := ms) (as := as) (outs := ds) h e nd'
      refine ⟨by rw [l, put_len], fun i => ⟨fun ni => ?_, fun hi => ?_⟩⟩
      · have n1 : i ≠ j := fun z => ni (by rw [z]; exact List.mem_cons_self)
        have n2 : i ∉ refs as := fun z => ni (List.mem_cons_of_mem _ z)
        rw [(f i).1 n2, get_put _ _ _ _ hj, if_neg n1]
      · by_cases z : i = j
        · subst z
          exact ⟨b, x, d, 0, q, by rw [(f i).1 nj, get_put _ _ _ _ hj]; exact if_pos rfl, rfl, rfl⟩
        · have n2 : i ∈ refs as := (List.mem_cons.mp hi).resolve_left z
          obtain ⟨b1, d1, d2, k, a1, a2, a3, a4⟩ := (f i).2 n2
          rw [get_put _ _ _ _ hj, if_neg z] at a1
          exact ⟨b1, d1, d2, k + 1, a1, a2, a3, a4⟩
    | _ => rw [q] at h; cases h
theorem initE_get : ∀ {ms : List Bool} {ds : List D} {rho : Env} {k : Nat} {d : D}, initE ms ds = some rho → ds[k]? = some d → ∃ m, ms[k]? = some m ∧ get rho k = (if m then Sl.ow true d else Sl.va d)
  | [], [], rho, k, d, _, e => by simp at e
  | [], _ :: _, _, _, _, h, _ => by cases h
  | _ :: _, [], _, _, _, h, _ => by cases h
  | m :: ms, d :: ds, rho, 0, x, h, e => by
    obtain ⟨r2, _, rfl⟩ := initE_cons h
    obtain rfl : d = x := by simpa using e
    exact ⟨m, rfl, rfl⟩
  | m :: ms, d :: ds, rho, k + 1, x, h, e => by
    obtain ⟨r2, e2, rfl⟩ := initE_cons h
    obtain ⟨m', a, b⟩ := initE_get (k := k) e2 (by simpa using e)
    exact ⟨m', by simpa using a, b⟩
theorem ArRels.at (h : ArRels K r σ G H H0 ms vs as) : ∀ {k : Nat} {i : Nat}, as[k]? = some (Ar.r i) → ms[k]? = some true ∧ ∃ v, vs[k]? = some v ∧ σ[i]? = some (some v) := by
  induction h with
  | nil => intro k i e; simp at e
  | @cons m ms v vs a as h hd hs ih =>
    intro k i e
    cases k with
    | zero =>
      have e' : a = Ar.r i := by simpa using e
      subst e'
      cases h with
      | r h => exact ⟨rfl, _, rfl, h⟩
    | succ k =>
      obtain ⟨a, v, b, c⟩ := ih (k := k) (i := i) (by simpa using e)
      exact ⟨by simpa using a, v, by simpa using b, c⟩
/-- behind a call the caller's own slots -/
theorem args_out (b : Step K r0 σ G0 H0 r σ G H) (h : ArRels K r σ G H H0 ms vs as) (e : arDs r as = some ds) (nd : nodupN (refs as) = true) (e0 : initE ms ds = some rho)
    (own : ∀ p, OwI rho (vs.map some) p → (∃ i ∈ refs as, σ[i]? = some (some (.ref p)) ∧ ∃ b d, get r i = .ow b d) ∨ ∃ d, (V.ref p, Ar.t d) ∈ vs.zip as)
    (c : Step K rho (vs.map some) G H rho1 (vs.map some) G' H') (e1 : initE ms outs = some rho1) (eo : outTo as outs r = some r') : Step K r0 σ G0 H0 r' σ G' H' := by
  have s := b.st
  obtain ⟨len, og⟩ := outTo_get (ms := ms) eo e1 nd
  have kind : ∀ i, isO (get r' i) = true → isO (get r i) = true := fun i hi => by
    by_cases z : i ∈ refs as
    · obtain ⟨b, d, d', k, a1, a2, _⟩ := (og i).2 z
      rw [a1]; rfl
    · rw [(og i).1 z] at hi; exact hi
  have refs_ow : ∀ i, i ∈ refs as → ∃ b d, get r i = .ow b d := fun i z => by
    obtain ⟨b, d, d', k, a1, _⟩ := (og i).2 z
    exact ⟨b, d, a1⟩
  have notOwn : ∀ i q, i ∉ refs as → isO (get r i) = true → σ[i]? = some (some (.ref q)) → ¬ OwA rho (vs.map some) q := fun i q ni hi ei o => by
    rcases own q o.i with ⟨j, hj, qj, b', d', gj⟩ | ⟨d', hm⟩
    · have : i = j := s.inj i j q hi (by rw [gj]; rfl) ei qj
      subst this
      exact ni hj
    · exact (h.temp hm).2 i hi ei
  have sl : ∀ i, SlRel K G' H' σ[i]? (get r' i) := fun i => by
    by_cases z : i ∈ refs as
    · obtain ⟨b, d, d', k, a1, a2, a3, a4⟩ := (og i).2 z
      obtain ⟨mk, v, vk, sv⟩ := h.at a3
      obtain ⟨m, m1, m2⟩ := initE_get e1 a4
      rw [mk] at m1
      obtain rfl : true = m := Option.some.inj m1
      obtain ⟨p, o, q1, q2, q3, q4⟩ := c.st.owned m2
      rw [a2, sv]
      have : (vs.map some)[k]? = some (some v) := by rw [List.getElem?_map, vk]; rfl
      rw [this] at q1
      injection q1 with q1; injection q1 with q1
      exact ⟨p, o, by rw [q1], q2, q3, q4⟩
    · rw [(og i).1 z]
      have hs := s.sl i
      cases q : get r i with
      | un => trivial
      | va d => rw [q] at hs; obtain ⟨x, e, m⟩ := hs; exact ⟨x, e, m.mono c.ext⟩
      | ow b d =>
        rw [q] at hs; obtain ⟨a, ob, e, m, g, t⟩ := hs
        obtain ⟨f1, f2⟩ := c.frame a (by rw [m]; intro z; cases z) (notOwn i a z (by rw [q]; rfl) e)
        exact ⟨a, ob, e, f1.trans m, f2 g, t.mono c.ext⟩
      | lk b d =>
        rw [q] at hs; obtain ⟨a, ob, e, m, g, t⟩ := hs
        obtain ⟨f1, f2⟩ := c.frame a (by rw [m]; intro z; cases z) (notOwn i a z (by rw [q]; rfl) e)
        exact ⟨a, ob, e, f1.trans m, f2 g, t.mono c.ext⟩
  have owA : ∀ p, OwA r' σ p → OwA r σ p := fun p ⟨i, b, d, g, q⟩ => by
    by_cases z : i ∈ refs as
    · obtain ⟨b', d', a1⟩ := refs_ow i z
      exact ⟨i, b', d', a1, q⟩
    · rw [(og i).1 z] at g; exact ⟨i, b, d, g, q⟩
  refine ⟨⟨by rw [len]; exact s.len, c.st.sub, sl, fun i j p hi hj => s.inj i j p (kind i hi) (kind j hj)⟩, b.ext.trans c.ext, fun a h => c.live a (b.live a h), fun a h0 no => ?_, fun p o => b.own p (owA p o), fun p ⟨i, hi, q⟩ => b.ownI p ⟨i, kind i hi, q⟩, fun i d g => ?_, fun i x d g => ?_⟩
  · obtain ⟨f1, f2⟩ := b.frame a h0 no
    have n2 : ¬ OwA rho (vs.map some) a := fun o => by
      rcases own a o.i with ⟨j, hj, qj, b', d', gj⟩ | ⟨d', hm⟩
      · rcases b.own a ⟨j, b', d', gj, qj⟩ with z | z
        · exact no z
        · exact h0 z
      · exact h0 (h.temp hm).1
    obtain ⟨g1, g2⟩ := c.frame a (by rw [f1]; exact h0) n2
    exact ⟨g1.trans f1, fun z => g2 (f2 z)⟩
  · obtain ⟨_, d1, g1⟩ := b.lent i d g
    refine ⟨rfl, ?_⟩
    by_cases z : i ∈ refs as
    · obtain ⟨b, d, d', k, a1, a2, _⟩ := (og i).2 z
      rw [g1] at a1
      injection a1 with a1 _
      exact ⟨d', by rw [a2, ← a1]⟩
    · exact ⟨d1, by rw [(og i).1 z]; exact g1⟩
  · obtain ⟨_, g1⟩ := b.lock i x d g
    refine ⟨rfl, ?_⟩
    have z : i ∉ refs as := fun z => by
      obtain ⟨b', d', a1⟩ := refs_ow i z
      rw [g1] at a1; cases a1
    rw [(og i).1 z]; exact g1
end

/-! ### what a def promises -/
def fA (K : PySem.W.Frag) (f : Fd) : Addr := match f.cls with
  | none => He.ga K (enc f.fn)
  | some c => He.ma K (clsA K c) (enc f.fn)
def RetP (K : PySem.W.Frag) (ms : List Bool) (nw : Bool) (rho : Env) (σ : L2.St) (G H : Hp) (m : Rs) (Q : VK) (E : XK) : Prop :=
  match m with
  | .ret d outs => ∀ rho1 v G' H', initE ms outs = some rho1 → Step K rho σ G H rho1 σ G' H' → (if nw = true then rN K H σ rho1 G' H' v d else Rep K G' v d) → Q v H'
  | .exc x outs => ∀ rho1 dx G' H', initE ms outs = some rho1 → Step K rho σ G H rho1 σ G' H' → ExAt K G' H' dx x → E (.ref (clsA K x.cls)) (some dx) H'
  | .no => False
def spF (K : PySem.W.Frag) (f : Fd) (c : List D → Rs) : Sp := fun vs H Q E => vs.length = f.ms.length ∧ ∃ ds rho G, initE f.ms ds = some rho ∧ StRel K rho (vs.map some) G H ∧ RetP K f.ms f.nw rho (vs.map some) G H (c ds) Q E
/-- a def's parameters' names -/
def Fd.ps (f : Fd) : List Str := (f.N.map enc).take f.ms.length
structure FOk (P : Program) (w : World) (K : PySem.W.Frag) (mg : Str → Option Value) (base : Heap) (k : Nat) (f : Fd) (c : List D → Rs) : Prop where
  ex : ∃ fd, FnOk P w K mg base (L2.CX P w) k (fA K f) fd f.ps (spF K f c) ∧ Binds K fd f.ps []
end CW

set_option Elab.async false
set_option linter.all false
set_option maxRecDepth 100000
namespace CW
open PySem PySem.Spec PyProof.Rows L2

/-! ### the layer's call rules, what is raised being wished for at the caller's slots -/
section
variable {X : Cx} {CX : CXT} {k : Nat} {f C : Addr} {fd : FuncData} {ps : List Str} {sp : Sp} {E : L2.St → XK} {x m : Str} {p pos apos : Pos} {e o : Expr} {es : List Expr} {ta : TE} {t : TA}
theorem pe_call0S (F : FnOk X.prog X.w X.K X.mg X.base CX k f fd ps sp) (hr : Room k X.A) (hg : Gl X x) (hm : X.mg x = some (.ref f)) (hk : PySem.W.keepIn X.K (.ref f) = true) (hb : Binds X.K fd ps []) (hx : ∀ σ, PassesAt CX X σ (E σ))
    (hdb : (x == ("__debug__" : Str)) = false) : PE X (.Call (.Name x p) [] [] pos) (fun σ H Q => sp [] H Q (E σ)) := by
  refine ⟨fun pins s σ H Q I h => ?_⟩
  refine wpAny_Call_Name_kw (ld_glob I hg hm ?_ hdb)
  exact PySem.W.callWith_K0 I.kIn hk (run_fnSD (us := []) F hr hb .nil (hx σ) I .nil h)
theorem meth_eval {env : PySem.Env} {args : List Expr} (hs : noSuper o = true) (ha : args.all noStar = true) (hl : args.length < 30) (hp : (apos.endLine == pos.line) = true) :
    eval (.Call (.Attribute o m apos) args [] pos) env = (do
      let ov ← eval o env
      standAt apos.atName
      let (f, first) ← holding [ov] (getMethod ov m (plainOf o env))
      callWith pos f first (backTo pos (starEach args env)) (backToKw pos (keywordEach [] env))) := by
  have hf : methodCallForm (args.length + ([] : List Keyword).length) (backTo pos (starEach args env)) (backToKw pos (keywordEach [] env)) = true := by
    unfold methodCallForm
    have h1 : (backTo pos (starEach args env)).all (fun x => !x.1) = true := by
      have := backTo_plain (pos := pos) (env := env) ha
      rw [List.all_eq_true]
      intro y hy
      rw [List.any_eq_false] at this
      simpa using this y hy
    have h2 : (backToKw pos (keywordEach [] env)) = [] := rfl
    rw [h1, h2]
    simp only [List.all_nil, List.isEmpty_nil, Bool.and_true, Bool.true_and, if_true, List.length_nil, Nat.add_zero, decide_eq_true_eq]
    exact hl
  show (do
    let ov ← attributeBase o m env (eval o env)
    standAt apos.atName
    methodCall o m apos pos env ov (args.length + ([] : List Keyword).length) (backTo pos (starEach args env)) (backToKw pos (keywordEach [] env))) = _
  rw [noSuper_ok hs]
  congr 1
  funext ov
  congr 1
  funext _
  exact mcall_line hf hp
theorem pe_meth0S {ι : Type} {C f : ι → Addr} {fd : ι → FuncData} {ps : ι → List Str} {sp : ι → Sp} (he : PE X o ta) (c : ∀ i, Cls X.K (C i)) (hm : ∀ i, Meth X.K (C i) m (f i)) (F : ∀ i, FnOk X.prog X.w X.K X.mg X.base CX k (f i) (fd i) (ps i) (sp i)) (hr : Room k X.A) (hb : ∀ i, Binds X.K (fd i) (ps i) []) (hx : ∀ σ, PassesAt CX X σ (E σ))
    (hs : noSuper o = true) (hp : (apos.endLine == pos.line) = true) :
    PE X (.Call (.Attribute o m apos) [] [] pos) (fun σ H Q => ta σ H fun x H1 => ∃ i a dx fs, x = .ref a ∧ H1 a = some (.ins (C i) dx fs) ∧ fs.lookup m = none ∧ sp i [x] H1 Q (E σ)) := by
  refine ⟨fun pins s σ H Q I h => ?_⟩
  refine PySem.W.methodCall_KW (pl := plainOf o X.env) (thn (he.run pins s σ H _ I h) fun u s1 ⟨x, H1, I1, rx, i, a, dx, fs, ex, ea, l, q⟩ => ?_) (meth_eval hs rfl (by decide) hp)
  subst ex
  obtain rfl : u = Value.ref a := rx
  refine getmeth_ok I1 ea (c i) (hm i) l ?_
  refine PySem.W.callWith_K0 (first := [.ref a]) I1.kIn (hm i).kp ?_
  exact run_fnSD (us := [.ref a]) (vs := [.ref a]) (dvs := []) (F i) hr (hb i) .nil (hx σ) I1 (.cons rfl .nil) q
theorem pe_methS {ι : Type} {C f : ι → Addr} {fd : ι → FuncData} {ps : ι → List Str} {sp : ι → Sp} (he : PE X o ta) (c : ∀ i, Cls X.K (C i)) (hm : ∀ i, Meth X.K (C i) m (f i)) (F : ∀ i, FnOk X.prog X.w X.K X.mg X.base CX k (f i) (fd i) (ps i) (sp i)) (hr : Room k X.A) (hb : ∀ i, Binds X.K (fd i) (ps i) []) (hx : ∀ σ, PassesAt CX X σ (E σ)) (ha : PA X (e :: es) t)
    (hs : noSuper o = true) (h1 : noStar e = true) (h2 : es.all noStar = true) (hl : (e :: es).length < 30) (hp : (apos.endLine == pos.line) = true) :
    PE X (.Call (.Attribute o m apos) (e :: es) [] pos) (fun σ H Q => ta σ H fun x H1 => ∃ i a dx fs, x = .ref a ∧ H1 a = some (.ins (C i) dx fs) ∧ fs.lookup m = none ∧ t σ H1 fun vs H2 => sp i (x :: vs) H2 Q (E σ)) := by
  refine ⟨fun pins s σ H Q I h => ?_⟩
  refine PySem.W.methodCall_KW (pl := plainOf o X.env) (thn (he.run pins s σ H _ I h) fun u s1 ⟨x, H1, I1, rx, i, a, dx, fs, ex, ea, l, q⟩ => ?_) (meth_eval hs (by simp [h1]; simpa using h2) hl hp)
  subst ex
  obtain rfl : u = Value.ref a := rx
  refine getmeth_ok I1 ea (c i) (hm i) l ?_
  refine PySem.W.callWith_K (first := [.ref a]) (h₀ := X.base) I.ok.mod.kin (hm i).kp (thn (ha.run pos pins s1 σ H1 _ I1 q) fun us s2 ⟨vs, H2, I2, r, q2⟩ => ⟨I2.kIn, ?_⟩) (noStar_ok h1) (backTo_plain h2)
  exact run_fnSD (us := .ref a :: us) (vs := .ref a :: vs) (dvs := []) (F i) hr (hb i) .nil (hx σ) I2 (.cons rfl r) (by rw [List.append_nil]; exact q2)
/-- C(..) runs -/
theorem run_makeS {pins : List (Addr × Obj)} {σ : L2.St} {H : Hp} {s : Shared} {Q : VK} {us : List Value} {vs : List V} (M : Mk X.K C f) (F : FnOk X.prog X.w X.K X.mg X.base CX k f fd ps sp) (hr : Room (k + 1) X.A) (hb : Binds X.K fd ps [])
    (hx : PassesAt CX X σ (E σ)) (I : Inv X pins σ H s) (r : Vals vs us)
    (h : ∀ x dx, H x = none → H dx = none → dx ≠ x → sp (.ref x :: vs) (upd (upd H dx (.own x)) x (.ins C dx [])) (fun v H2 => v = .non ∧ Q (.ref x) H2) (E σ)) :
    wpAny (model X.prog X.w) X.A (call (.ref C) us) (EP X pins σ Q) X.xe s := by
  have hq := h (s.heap.objs.size + 1) s.heap.objs.size (I.hok.fresh (Nat.le_succ _)) (I.hok.fresh (Nat.le_refl _)) (Nat.ne_of_lt (Nat.lt_succ_self _))
  have I2 := Inv.made (C := C) I
  have r2 : Vals (V.ref (s.heap.objs.size + 1) :: vs) (Value.ref (s.heap.objs.size + 1) :: us) := .cons rfl r
  have hl : (Value.ref (s.heap.objs.size + 1) :: us).length = ps.length := by
    rw [← r2.length]; exact F.len _ _ _ _ hq
  have hbb := hb _ (Value.ref (s.heap.objs.size + 1) :: us) I2.kIn (by rw [List.append_nil]; exact hl)
  rw [List.append_nil] at hbb
  refine wpAny_call (make_map (f := f) I.kIn M.makes M.init (beq_iff_eq.mp M.fn) (codeAny_mono (F.run _ X.stack _ _ ⟨Value.ref (s.heap.objs.size + 1) :: us, []⟩ _ _ _ (E σ) (hr.make C us [])
    (I2.env0.make C us []) hbb r2 hq) fun r s' hq' => ?_))
  cases r with
  | error e => exact hx pins _ _ e s' I2 hq'
  | ok fl =>
    cases fl with
    | ret u =>
      obtain ⟨v, H', I3, rv, ev, q3⟩ := I2.after hq'
      subst ev
      exact ⟨rv, ⟨V.ref (s.heap.objs.size + 1), H', I3, rfl, q3⟩⟩
    | next => exact False.elim hq'
    | brk => exact False.elim hq'
    | cont => exact False.elim hq'
def tMakeS (C : Addr) (sp : Sp) (E : L2.St → XK) (t : TA) : TE := fun σ H Q => t σ H fun vs H1 => ∀ x dx, H1 x = none → H1 dx = none → dx ≠ x →
  sp (.ref x :: vs) (upd (upd H1 dx (.own x)) x (.ins C dx [])) (fun v H2 => v = .non ∧ Q (.ref x) H2) (E σ)
theorem pe_makeS (M : Mk X.K C f) (F : FnOk X.prog X.w X.K X.mg X.base CX k f fd ps sp) (hr : Room (k + 1) X.A) (hg : Gl X x) (hm : X.mg x = some (.ref C)) (hb : Binds X.K fd ps []) (hx : ∀ σ, PassesAt CX X σ (E σ)) (ha : PA X (e :: es) t)
    (hdb : (x == ("__debug__" : Str)) = false) (h1 : noStar e = true) (h2 : es.all noStar = true) : PE X (.Call (.Name x p) (e :: es) [] pos) (tMakeS C sp E t) := by
  refine ⟨fun pins s σ H Q I h => ?_⟩
  refine wpAny_Call_Name_kw (ld_glob I hg hm ?_ hdb)
  refine PySem.W.callWith_K (h₀ := X.base) I.ok.mod.kin M.kp (thn (ha.run pos pins s σ H _ I h) fun us s1 ⟨vs, H1, I1, r, q⟩ => ⟨I1.kIn, ?_⟩) (noStar_ok h1) (backTo_plain h2)
  exact run_makeS M F hr hb (hx σ) I1 r q
/-- == of two instances by an own __eq__ -/
theorem op_own {sp : Sp} (F : FnOk X.prog X.w X.K X.mg X.base CX k f fd ps sp) (hr : Room k X.A) (hs : PySem.W.findIn X.K (.ref C) "__eq__" = some (some (.ref f))) (hf : PySem.W.isFn X.K (.ref f) = true) (hb : Binds X.K fd ps []) (hx : ∀ σ, PassesAt CX X σ (E σ)) (hE : ∀ σ, E σ = E []) :
    OpR X (compareOp .Eq) (fun x y H Q => ∃ a b dx dy fs gs, x = .ref a ∧ y = .ref b ∧ H a = some (.ins C dx fs) ∧ H b = some (.ins C dy gs) ∧ sp [x, y] H (fun v H' => (∃ k, v = .bl k) ∧ Q v H') (E [])) := by
  intro pins s σ H x y u v Q I rx ry d
  obtain ⟨a, b, dx, dy, fs, gs, rfl, rfl, ha, hb', hsp⟩ := d
  cases rx
  cases ry
  obtain ⟨mA, J, _⟩ := ins_get I.hok ha
  obtain ⟨mB, J', _⟩ := ins_get I.hok hb'
  obtain ⟨od, J, _⟩ := J.look
  obtain ⟨od', J', _⟩ := J'.look
  obtain ⟨m, hF⟩ := I.fr
  show wpAny (model X.prog X.w) X.A (richCompare .Eq (.ref a) (.ref b)) (EP X pins σ Q) X.xe s
  refine PySem.W.cmp_K (op := .Eq) (tb := .ref C) hr.units0 hF I.ok.mod.kin J J'.type (by simp [PySem.W.notFirst]) hs hf ?_
  have hl := F.len _ _ _ _ hsp
  have r2 : Vals [V.ref a, V.ref b] [Value.ref a, Value.ref b] := .cons rfl (.cons rfl .nil)
  refine wpAny_call (codeAny_mono (F.run X.A X.stack s H ⟨[.ref a, .ref b], []⟩ [.ref a, .ref b] [.ref a, .ref b] _ (E []) hr I.env0 (by
    have := hb s [.ref a, .ref b] I.kIn (by simpa using hl)
    simpa using this) r2 hsp) fun r s' hq => ?_)
  cases r with
  | error e =>
    have := hx σ
    rw [hE σ] at this
    exact this pins H s e s' I hq
  | ok fl =>
    cases fl with
    | ret w =>
      obtain ⟨z, H', I', rz, ⟨k, ez⟩, q⟩ := I.after hq
      subst ez
      cases rz
      exact ⟨.bl k, H', I', rfl, q⟩
    | next => exact False.elim hq
    | brk => exact False.elim hq
    | cont => exact False.elim hq
end
end CW

set_option Elab.async false
set_option linter.all false
set_option maxRecDepth 100000
namespace CW
open PySem PySem.Spec PyProof.Rows L2

section
variable {α β α1 β1 : Type} {K : PySem.W.Frag} {W : WX} {R : Rl β α} {R1 : Rl β1 α1} {r : Env} {σ : L2.St} {G H : Hp} {Q : β → Hp → Prop}
/-- one step, what follows told from the start on -/
theorem PX.seq0 {m : Ev α1} {k : α1 → Env → Ev α} (h : PX K W R r σ G H (m.bind k) Q) {Z : β1 → Hp → Prop}
    (hz : ∀ a r1 b G1 H1, m = .ok a r1 → Step K r σ G H r1 σ G1 H1 → R1 H σ r1 G1 H1 b a → PX K W R r σ G H (k a r1) Q → Z b H1) : PX K W R1 r σ G H m Z := by
  cases m with
  | ok a r' => exact fun b G' H' t q => hz a r' b G' H' rfl t q h
  | ex x r' => exact h
  | no => exact h
end
section
variable {K : PySem.W.Frag} {W : WX} {r r0 r' : Env} {σ : L2.St} {G G0 H H0 : Hp} {Q : VK} {ms : List Bool} {vs : List V} {as : List Ar} {ds : List D}
def rD (K : PySem.W.Frag) (nw : Bool) : Rl V D := fun H σ r' G' H' v d => if nw = true then rN K H σ r' G' H' v d else Rep K G' v d
theorem rmD {nw : Bool} : RM (rD K nw) := fun H H1 σ r' G' H' v d l h => by
  unfold rD at h ⊢
  cases nw with
  | true => rw [if_pos rfl] at h ⊢; exact rmN _ _ _ _ _ _ _ _ l h
  | false => rw [if_neg (by decide)] at h ⊢; exact h
/-- a call: the promise of the def -/
theorem call_ret {nw : Bool} (b : Step K r0 σ G0 H0 r σ G H) (h : ArRels K r σ G H H0 ms vs as) (e : arDs r as = some ds) (nd : nodupN (refs as) = true) {m : Rs}
    (q : PX K W (rD K nw) r0 σ G0 H0 (match m with
      | .ret d outs => (match outTo as outs r with
        | some r' => Ev.ok d r'
        | none => .no)
      | .exc x outs => (match outTo as outs r with
        | some r' => .ex x r'
        | none => .no)
      | .no => .no) Q) :
    ∃ rho, initE ms ds = some rho ∧ StRel K rho (vs.map some) G H ∧ RetP K ms nw rho (vs.map some) G H m Q (WE W σ) := by
  obtain ⟨rho, e0, st, own⟩ := args_in b.st h e nd
  refine ⟨rho, e0, st, ?_⟩
  cases m with
  | ret d outs =>
    intro rho1 v G' H' e1 c rv
    cases eo : outTo as outs r with
    | none => simp only [eo] at q; exact q.elim
    | some r' =>
      simp only [eo] at q
      have s2 := args_out b h e nd e0 own c e1 eo
      refine q v G' H' s2 ?_
      unfold rD
      cases nw with
      | false => rw [if_neg (by decide)] at rv ⊢; exact rv
      | true =>
        rw [if_pos rfl] at rv ⊢
        obtain ⟨⟨p, o, rfl, h1, h2, h3, h4⟩, nf⟩ := rv
        refine ⟨⟨p, o, rfl, h1, h2, h3, Classical.byContradiction fun z => b.live p z h4⟩, fun i hi ei => ?_⟩
        obtain ⟨_, og⟩ := outTo_get (ms := ms) eo e1 nd
        have hi' : isO (get r i) = true := by
          by_cases z : i ∈ refs as
          · obtain ⟨b, d, d', k, a1, _⟩ := (og i).2 z
            rw [a1]; rfl
          · rw [(og i).1 z] at hi; exact hi
        exact New.cold (H' := H) b.st (fun _ _ => rfl) h4 i hi' ei
  | exc x outs =>
    intro rho1 dx G' H' e1 c xa
    cases eo : outTo as outs r with
    | none => simp only [eo] at q; exact q.elim
    | some r' =>
      simp only [eo] at q
      exact q dx G' H' (args_out b h e nd e0 own c e1 eo) xa
  | no => exact q
theorem callA_ok {cf : CF} {f : String} {nw : Bool} (b : Step K r0 σ G0 H0 r σ G H) (h : ArRels K r σ G H H0 ms vs as) (q : PX K W (rD K nw) r0 σ G0 H0 (callA cf f as r) Q) :
    ∃ ds rho, arDs r as = some ds ∧ initE ms ds = some rho ∧ StRel K rho (vs.map some) G H ∧ RetP K ms nw rho (vs.map some) G H (cf f ds) Q (WE W σ) := by
  unfold callA at q
  cases nd : nodupN (refs as) with
  | false => simp only [nd] at q; exact q.elim
  | true =>
    cases e : arDs r as with
    | none => simp only [nd, e] at q; exact q.elim
    | some ds =>
      simp only [nd, e] at q
      obtain ⟨rho, a, c, d⟩ := call_ret b h e nd q
      exact ⟨ds, rho, rfl, a, c, d⟩
end

section
variable {X : Cx} {W : WX} {e a : Expr} {es : List Expr} {pos : Pos} {cf : CF}
theorem snd_args0 : PA X [] (tX X.K W (rAs X.K []) (fun r => .ok [] r)) := pa_nil.imp fun σ H Q ⟨r, G, s, w⟩ => w.fin (.refl s) .nil
theorem snd_args {m : Bool} {ms : List Bool} {f : Env → Ev Ar} {g : Env → Ev (List Ar)} (ns : noStar e = true) (ha : PE X e (tX X.K W (rAr X.K m) f)) (hb : PA X es (tX X.K W (rAs X.K ms) g)) :
    PA X (e :: es) (tX X.K W (rAs X.K (m :: ms)) (fun r => (f r).bind fun d r1 => (g r1).bind fun ds r2 => .ok (d :: ds) r2)) :=
  (pa_cons ha hb (noStar_ok ns)).imp fun σ H Q ⟨r, G, s, w⟩ => ⟨r, G, s, w.seq0 fun a r1 v G1 H1 _ t h3 w2 => by
    have h3' : ArRel X.K r1 σ G1 H1 H m v a := h3
    refine ⟨r1, G1, t.st, ?_⟩
    cases eg : g r1 with
    | no => rw [eg] at w2; exact w2.elim
    | ex x r2 =>
      rw [eg] at w2
      exact fun dx G' H' t2 xa => w2 dx G' H' (t.trans t2) xa
    | ok as r2 =>
      rw [eg] at w2
      intro vs G2 H2 t2 h4
      have h4' : ArRels X.K r2 σ G2 H2 H1 ms vs as := h4
      refine w2 (v :: vs) G2 H2 (t.trans t2) (.cons (h3'.step t2) (fun d ed d' hm => ?_) (h4'.back fun a z => t.live a z))
      subst ed
      cases h3' with
      | t h1 h2 h3 h5 h6 =>
        have := (h4'.temp hm).1
        rw [h1] at this; cases this⟩
theorem snd_argV {f : Env → Ev D} (h : PE X e (tX X.K W (rF X.K) f)) : PE X e (tX X.K W (rAr X.K false) (fun r => (f r).bind fun d r1 => .ok (.v d) r1)) :=
  h.imp fun σ H Q ⟨r, G, s, w⟩ => ⟨r, G, s, w.seq rmAr fun d r1 v G1 H1 t h3 w2 => w2.fin (.refl t.st) (.v h3)⟩
theorem snd_argT {f : Env → Ev D} (h : PE X e (tX X.K W (rN X.K) f)) : PE X e (tX X.K W (rAr X.K true) (fun r => (f r).bind fun d r1 => .ok (.t d) r1)) :=
  h.imp fun σ H Q ⟨r, G, s, w⟩ => ⟨r, G, s, w.seq0 fun d r1 v G1 H1 _ t h3 w2 => by
    obtain ⟨⟨p, o, rfl, h1, h2, h4, h5⟩, nf⟩ := h3
    exact w2 _ G1 H1 t (.t h1 h2 h4 h5 nf)⟩
theorem snd_argR {i : Nat} {x : Str} (h : PE X (.Name x pos) (tVar i)) : PE X (.Name x pos) (tX X.K W (rAr X.K true) (fun r => match get r i with
      | .ow _ _ => .ok (.r i) r
      | _ => .no)) :=
  h.imp fun σ H Q ⟨r, G, s, q⟩ => by
    dsimp only at q
    cases z : get r i with
    | ow b d =>
      rw [z] at q
      obtain ⟨p, o, e1, e2, _⟩ := s.owned z
      exact ⟨_, e1, q.fin (.refl s) (.r e1)⟩
    | _ => rw [z] at q; exact q.elim

/-- f(..) -/
theorem snd_call {k : Nat} {f : Fd} {g : Env → Ev (List Ar)} {x : Str} {px : Pos} (F : FOk X.prog X.w X.K X.mg X.base k f (cf f.name)) (hr : Room k X.A) (hg : Gl X x) (hm : X.mg x = some (.ref (fA X.K f))) (hk : PySem.W.keepIn X.K (.ref (fA X.K f)) = true)
    (hx : ∀ σ, PassesAt (L2.CX X.prog X.w) X σ (WE W σ)) (hdb : (x == ("__debug__" : Str)) = false) (ns : es.all noStar = true) (ha : PA X es (tX X.K W (rAs X.K f.ms) g)) (g0 : es = [] → f.ms = [] ∧ ∀ r, g r = .ok [] r) :
    PE X (.Call (.Name x px) es [] pos) (tX X.K W (rD X.K f.nw) (fun r => (g r).bind fun as r1 => callA cf f.name as r1)) := by
  obtain ⟨fd, F1, F2⟩ := F.ex
  cases es with
  | nil =>
    obtain ⟨e1, e2⟩ := g0 rfl
    refine (pe_call0S (E := WE W) F1 hr hg hm hk F2 hx hdb).imp fun σ H Q ⟨r, G, s, w⟩ => ?_
    dsimp only at w
    rw [e2 r] at w
    obtain ⟨ds, rho, a1, a2, a3, a4⟩ := callA_ok (ms := f.ms) (vs := []) (Step.refl s) (by rw [e1]; exact .nil) w
    exact ⟨by rw [e1]; rfl, ds, rho, G, a2, a3, a4⟩
  | cons e es =>
    have ns' : noStar e = true ∧ es.all noStar = true := by simpa using ns
    refine (pe_callSD (dvs := []) (E := WE W) F1 hr hg hm hk F2 .nil hx ha hdb (noStar_ok ns'.1) (backTo_plain ns'.2)).imp fun σ H Q ⟨r, G, s, w⟩ => ⟨r, G, s, w.seq0 fun as r1 vs G1 H1 _ t h3 w2 => ?_⟩
    have h3' : ArRels X.K r1 σ G1 H1 H f.ms vs as := h3
    obtain ⟨ds, rho, a1, a2, a3, a4⟩ := callA_ok t h3' w2
    rw [List.append_nil]
    exact ⟨h3'.len.1, ds, rho, G1, a2, a3, a4⟩

/-- C(..) -/
theorem snd_make {k : Nat} {f : Fd} {c : String} {ms : List Bool} {g : Env → Ev (List Ar)} {x : Str} {px : Pos} (M : Mk X.K (clsA X.K c) (fA X.K f)) (F : FOk X.prog X.w X.K X.mg X.base k f (cf f.name)) (hr : Room (k + 1) X.A) (hg : Gl X x) (hm : X.mg x = some (.ref (clsA X.K c)))
    (hn : f.name = c ++ ".__init__") (hms : f.ms = true :: ms) (hnw : f.nw = false)
    (hx : ∀ σ, PassesAt (L2.CX X.prog X.w) X σ (WE W σ)) (hdb : (x == ("__debug__" : Str)) = false) (n1 : noStar e = true) (n2 : es.all noStar = true) (ha : PA X (e :: es) (tX X.K W (rAs X.K ms) g)) :
    PE X (.Call (.Name x px) (e :: es) [] pos) (tX X.K W (rN X.K) (fun r => (g r).bind fun as r1 => match nodupN (refs as), arDs r1 as with
    | true, some ds => (match cf (c ++ ".__init__") (.ins c [] [] :: ds) with
      | .ret .non (o :: outs) => (match outTo as outs r1 with
        | some r2 => .ok o r2
        | none => .no)
      | .exc x (_ :: outs) => (match outTo as outs r1 with
        | some r2 => .ex x r2
        | none => .no)
      | _ => .no)
    | _, _ => .no)) := by
  obtain ⟨fd, F1, F2⟩ := F.ex
  refine (pe_makeS (E := WE W) M F1 hr hg hm F2 hx ha hdb n1 n2).imp fun σ H Q ⟨r, G, s, w⟩ => ⟨r, G, s, w.seq0 fun as r1 vs G1 H1 _ t h3 w2 => ?_⟩
  intro p dx np nd ne
  have h3' : ArRels X.K r1 σ G1 H1 H ms vs as := h3
  have npd : (upd H1 dx (.own p)) p = none := by rw [upd_ne (Ne.symm ne)]; exact np
  have t1 := t.trans ((Step.fresh t.st nd (o := .own p)))
  have t2 := t1.trans (Step.fresh t1.st npd (o := .ins (clsA X.K c) dx []))
  have tt := (Step.fresh t.st nd (o := .own p)).trans (Step.fresh t1.st npd (o := .ins (clsA X.K c) dx []))
  have hp0 : H p = none := Classical.byContradiction fun z => t.live p z np
  have gp : G1 p = none := t.st.sub.free np
  have h4 : ArRels X.K r1 σ G1 (upd (upd H1 dx (.own p)) p (.ins (clsA X.K c) dx [])) H (true :: ms) (.ref p :: vs) (.t (.ins c [] []) :: as) := by
    refine .cons (.t upd_same gp ⟨dx, [], rfl, rfl, .nil⟩ hp0 (New.cold (H' := H1) t.st (fun _ _ => rfl) np)) (fun d ed d' hm => ?_) (h3'.step tt)
    have : ∀ {ms : List Bool} {vs : List V} {as : List Ar}, ArRels X.K r1 σ G1 H1 H ms vs as → (V.ref p, Ar.t d') ∈ vs.zip as → False := by
      intro ms vs as hs hm
      induction hs with
      | nil => cases hm
      | @cons m ms v vs a as h2 hd hs ih =>
        rw [List.zip_cons_cons] at hm
        rcases List.mem_cons.mp hm with z | z
        · injection z with z1 z2
          subst z1; subst z2
          cases h2 with
          | t h1 _ _ _ _ => rw [np] at h1; cases h1
        · exact ih z
    exact this h3' hm
  have e4 := h4.len.1
  refine ⟨by rw [hms]; exact e4, ?_⟩
  cases nd' : nodupN (refs as) with
  | false => simp only [nd'] at w2; exact w2.elim
  | true =>
    cases e : arDs r1 as with
    | none => simp only [nd', e] at w2; exact w2.elim
    | some ds =>
      simp only [nd', e] at w2
      have eds : arDs r1 (.t (.ins c [] []) :: as) = some (.ins c [] [] :: ds) := by simp only [arDs, arD, e, Option.bind_some, Option.map_some]
      have ndr : nodupN (refs (.t (.ins c [] []) :: as)) = true := nd'
      obtain ⟨rho, e0, st, own⟩ := args_in t2.st h4 eds ndr
      refine ⟨_, rho, G1, by rw [hms]; exact e0, st, ?_⟩
      rw [hn, hms]
      cases em : cf (c ++ ".__init__") (.ins c [] [] :: ds) with
      | no => simp only [em] at w2; exact w2.elim
      | exc x outs =>
        simp only [em] at w2
        intro rho1 dx' G' H' e1 cst xa
        cases outs with
        | nil => exact w2.elim
        | cons o outs =>
          dsimp only at w2
          cases eo : outTo as outs r1 with
          | none => simp only [eo] at w2; exact w2.elim
          | some r2 =>
            simp only [eo] at w2
            have eo' : outTo (.t (.ins c [] []) :: as) (o :: outs) r1 = some r2 := eo
            exact w2 dx' G' H' (args_out t2 h4 eds ndr e0 own cst e1 eo') xa
      | ret d outs =>
        simp only [em] at w2
        intro rho1 v G' H' e1 cst rv
        cases d with
        | non =>
          cases outs with
          | nil => exact w2.elim
          | cons o outs =>
            dsimp only at w2
            cases eo : outTo as outs r1 with
            | none => simp only [eo] at w2; exact w2.elim
            | some r2 =>
              simp only [eo] at w2
              have eo' : outTo (.t (.ins c [] []) :: as) (o :: outs) r1 = some r2 := eo
              have st2 := args_out t2 h4 eds ndr e0 own cst e1 eo'
              rw [hnw, if_neg (by decide)] at rv
              have ev : v = .non := by cases rv; rfl
              refine ⟨ev, w2 _ G' H' st2 ?_⟩
              obtain ⟨m, m1, m2⟩ := initE_get (k := 0) e1 rfl
              obtain rfl : true = m := Option.some.inj m1
              obtain ⟨p', o', q1, q2, q3, q4⟩ := cst.st.owned m2
              have : p' = p := by
                have q1' : some (some (V.ref p)) = some (some (V.ref p')) := q1
                injection q1' with q1'; injection q1' with q1'; injection q1' with q1'; exact q1'.symm
              subst this
              refine ⟨⟨p', o', rfl, q2, q3, q4, hp0⟩, fun i hi ei => ?_⟩
              obtain ⟨_, og⟩ := outTo_get (ms := true :: ms) eo' e1 ndr
              have hi' : isO (get r1 i) = true := by
                by_cases z : i ∈ refs (.t (.ins c [] []) :: as)
                · obtain ⟨b, d, d', k, a1, _⟩ := (og i).2 z
                  rw [a1]; rfl
                · rw [(og i).1 z] at hi; exact hi
              exact New.cold (H' := H1) t.st (fun _ _ => rfl) np i hi' ei
        | _ => exact w2.elim
end
end CW

set_option Elab.async false
set_option linter.all false
set_option maxRecDepth 100000
namespace CW
open PySem PySem.Spec PyProof.Rows L2
section
variable {K : PySem.W.Frag} {r : Env} {σ : L2.St} {G H H0 : Hp}
theorem no_lookup {m : String} : ∀ {fs : List (Str × V)} {ns : List String}, fs.map (·.1) = ns.map enc → ns.contains m = false → fs.lookup (enc m) = none
  | [], [], _, _ => rfl
  | [], _ :: _, e, _ => by cases e
  | _ :: _, [], e, _ => by cases e
  | (g, v) :: fs, n :: ns, e, h => by
    have e' : g = enc n ∧ fs.map (·.1) = ns.map enc := by simpa using e
    have h' : ¬ m = n ∧ ¬ m ∈ ns := by simpa using h
    have : (enc m == g) = false := by rw [e'.1, enc_beq]; exact beq_eq_false_iff_ne.mpr h'.1
    simp only [List.lookup, this]
    exact no_lookup e'.2 (by simpa using h'.2)
theorem ArRel.ins {m : Bool} {v : V} {o : Ar} {c : String} {ns : List String} {vs : List D} (s : StRel K r σ G H) (h : ArRel K r σ G H H0 m v o) (e : arD r o = some (.ins c ns vs)) :
    ∃ a dx fs, v = .ref a ∧ H a = some (.ins (clsA K c) dx fs) ∧ fs.map (·.1) = ns.map enc := by
  cases h with
  | @v v d h =>
    obtain rfl : d = _ := Option.some.inj e
    cases h with
    | ins e1 e2 _ => exact ⟨_, _, _, rfl, s.sub _ _ e1, e2⟩
  | @r v i h =>
    obtain ⟨b, g⟩ := arD_ow e
    obtain ⟨p, ob, q1, q2, q3, dx, fs, q4, q5, _⟩ := s.owned g
    rw [q1] at h
    have : v = .ref p := by injection h with h; injection h with h; exact h.symm
    subst this; subst q4
    exact ⟨p, dx, fs, rfl, q2, q5⟩
  | @t p ob d h1 h2 h3 _ _ =>
    obtain rfl : d = _ := Option.some.inj e
    obtain ⟨dx, fs, q4, q5, _⟩ := h3
    subst q4
    exact ⟨p, dx, fs, rfl, h1, q5⟩
end
section
variable {X : Cx} {W : WX} {e a b : Expr} {es : List Expr} {pos apos : Pos} {cf : CF}
/-- o.m(..) -/
theorem snd_meth {k : Nat} {cs : List String} {m : String} {m0 nw : Bool} {ms : List Bool} {fo : Env → Ev Ar} {g : Env → Ev (List Ar)}
    (hf : ∀ c ∈ cs, ∃ f : Fd, f.name = c ++ "." ++ m ∧ f.ms = m0 :: ms ∧ f.nw = nw ∧ Cls X.K (clsA X.K c) ∧ Meth X.K (clsA X.K c) (enc m) (fA X.K f) ∧ FOk X.prog X.w X.K X.mg X.base k f (cf f.name)) (hr : Room k X.A)
    (hx : ∀ σ, PassesAt (L2.CX X.prog X.w) X σ (WE W σ)) (hs : noSuper a = true) (ns : es.all noStar = true) (hl : es.length < 30) (hp : (apos.endLine == pos.line) = true)
    (ho : PE X a (tX X.K W (rAr X.K m0) fo)) (ha : PA X es (tX X.K W (rAs X.K ms) g)) (g0 : es = [] → ms = [] ∧ ∀ r, g r = .ok [] r) :
    PE X (.Call (.Attribute a (enc m) apos) es [] pos) (tX X.K W (rD X.K nw) (fun r => (fo r).bind fun o r1 => (match arD r1 o with
    | some (.ins c ns _) => if cs.contains c && !ns.contains m then (g r1).bind fun as r2 => callA cf (c ++ "." ++ m) (o :: as) r2 else .no
    | _ => .no))) := by
  have hf' : ∀ i : {c // c ∈ cs}, ∃ f : Fd, f.name = i.1 ++ "." ++ m ∧ f.ms = m0 :: ms ∧ f.nw = nw ∧ Cls X.K (clsA X.K i.1) ∧ Meth X.K (clsA X.K i.1) (enc m) (fA X.K f) ∧ ∃ fd, FnOk X.prog X.w X.K X.mg X.base (L2.CX X.prog X.w) k (fA X.K f) fd f.ps (spF X.K f (cf f.name)) ∧ Binds X.K fd f.ps [] := fun i => by
    obtain ⟨f, a1, a2, a3, a4, a5, a6⟩ := hf i.1 i.2
    exact ⟨f, a1, a2, a3, a4, a5, a6.ex⟩
  let F := fun i => Classical.choose (hf' i)
  have hF := fun i => Classical.choose_spec (hf' i)
  let fd := fun i => Classical.choose (hF i).2.2.2.2.2
  have hfd := fun i => Classical.choose_spec (hF i).2.2.2.2.2
  cases es with
  | nil =>
    obtain ⟨e1, e2⟩ := g0 rfl
    refine (pe_meth0S (E := WE W) (C := fun i : {c // c ∈ cs} => clsA X.K i.1) (f := fun i => fA X.K (F i)) (fd := fd) (ps := fun i => (F i).ps) (sp := fun i => spF X.K (F i) (cf (F i).name)) ho (fun i => (hF i).2.2.2.1) (fun i => (hF i).2.2.2.2.1) (fun i => (hfd i).1) hr (fun i => (hfd i).2) hx hs hp).imp fun σ H Q ⟨r, G, s, w⟩ => ⟨r, G, s, w.seq0 fun o r1 v G1 H1 _ t h3 w2 => ?_⟩
    have h3' : ArRel X.K r1 σ G1 H1 H m0 v o := h3
    cases eo : arD r1 o with
    | none => rw [eo] at w2; exact w2.elim
    | some d =>
      rw [eo] at w2
      cases d with
      | ins c nms vs =>
        dsimp only at w2
        cases ec : (cs.contains c && !nms.contains m) with
        | false => rw [ec, if_neg (by decide)] at w2; exact w2.elim
        | true =>
          rw [ec, if_pos rfl, e2 r1] at w2
          simp only [Bool.and_eq_true, Bool.not_eq_true'] at ec
          obtain ⟨a, dx, fs, rfl, q2, q3⟩ := h3'.ins t.st eo
          have hi : c ∈ cs := by simpa using ec.1
          refine ⟨⟨c, hi⟩, a, dx, fs, rfl, q2, no_lookup q3 ec.2, ?_⟩
          obtain ⟨f1, f2, f3, _⟩ := hF ⟨c, hi⟩
          have h4 : ArRels X.K r1 σ G1 H1 H (m0 :: ms) [.ref a] [o] := .cons h3' (fun _ _ _ hm => by cases hm) (by rw [e1]; exact .nil)
          have w3 : PX X.K W (rD X.K nw) r σ G H (callA cf (c ++ "." ++ m) [o] r1) Q := w2
          obtain ⟨ds, rho, a1, a2, a3, a4⟩ := callA_ok t h4 w3
          show spF X.K (F ⟨c, hi⟩) (cf (F ⟨c, hi⟩).name) [.ref a] H1 Q (WE W σ)
          refine ⟨by rw [show (F ⟨c, hi⟩).ms = m0 :: ms from f2, e1]; rfl, ds, rho, G1, by rw [show (F ⟨c, hi⟩).ms = m0 :: ms from f2]; exact a2, a3, ?_⟩
          rw [show (F ⟨c, hi⟩).ms = m0 :: ms from f2, show (F ⟨c, hi⟩).nw = nw from f3, show (F ⟨c, hi⟩).name = _ from f1]
          exact a4
      | _ => exact w2.elim
  | cons e es =>
    have ns' : noStar e = true ∧ es.all noStar = true := by simpa using ns
    refine (pe_methS (E := WE W) (C := fun i : {c // c ∈ cs} => clsA X.K i.1) (f := fun i => fA X.K (F i)) (fd := fd) (ps := fun i => (F i).ps) (sp := fun i => spF X.K (F i) (cf (F i).name)) ho (fun i => (hF i).2.2.2.1) (fun i => (hF i).2.2.2.2.1) (fun i => (hfd i).1) hr (fun i => (hfd i).2) hx ha hs ns'.1 ns'.2 hl hp).imp fun σ H Q ⟨r, G, s, w⟩ => ⟨r, G, s, w.seq0 fun o r1 v G1 H1 _ t h3 w2 => ?_⟩
    have h3' : ArRel X.K r1 σ G1 H1 H m0 v o := h3
    cases eo : arD r1 o with
    | none => rw [eo] at w2; exact w2.elim
    | some d =>
      rw [eo] at w2
      cases d with
      | ins c nms vs =>
        dsimp only at w2
        cases ec : (cs.contains c && !nms.contains m) with
        | false => rw [ec, if_neg (by decide)] at w2; exact w2.elim
        | true =>
          rw [ec, if_pos rfl] at w2
          simp only [Bool.and_eq_true, Bool.not_eq_true'] at ec
          obtain ⟨a, dx, fs, rfl, q2, q3⟩ := h3'.ins t.st eo
          have hi : c ∈ cs := by simpa using ec.1
          refine ⟨⟨c, hi⟩, a, dx, fs, rfl, q2, no_lookup q3 ec.2, r1, G1, t.st, ?_⟩
          obtain ⟨f1, f2, f3, _⟩ := hF ⟨c, hi⟩
          cases eg : g r1 with
          | no => rw [eg] at w2; exact w2.elim
          | ex x r2 =>
            rw [eg] at w2
            exact fun dx G' H' t2 xa => w2 dx G' H' (t.trans t2) xa
          | ok as r2 =>
            rw [eg] at w2
            intro vs G2 H2 t2 h5
            have h5' : ArRels X.K r2 σ G2 H2 H1 ms vs as := h5
            have h4 : ArRels X.K r2 σ G2 H2 H (m0 :: ms) (.ref a :: vs) (o :: as) := .cons (h3'.step t2) (fun d ed d' hm => by
              subst ed
              cases h3' with
              | t h1 h2 h3 h5 h6 =>
                have := (h5'.temp hm).1
                rw [h1] at this; cases this) (h5'.back fun a z => t.live a z)
            have w3 : PX X.K W (rD X.K nw) r σ G H (callA cf (c ++ "." ++ m) (o :: as) r2) Q := w2
            obtain ⟨ds, rho, a1, a2, a3, a4⟩ := callA_ok (t.trans t2) h4 w3
            show spF X.K (F ⟨c, hi⟩) (cf (F ⟨c, hi⟩).name) (.ref a :: vs) H2 Q (WE W σ)
            refine ⟨by rw [show (F ⟨c, hi⟩).ms = m0 :: ms from f2]; exact h4.len.1, ds, rho, G2, by rw [show (F ⟨c, hi⟩).ms = m0 :: ms from f2]; exact a2, a3, ?_⟩
            rw [show (F ⟨c, hi⟩).ms = m0 :: ms from f2, show (F ⟨c, hi⟩).nw = nw from f3, show (F ⟨c, hi⟩).name = _ from f1]
            exact a4
      | _ => exact w2.elim

/-- == of two instances -/
theorem eqo_read {c : String} {f : Fd} {fa fb : Env → Ev D} (hn : f.name = c ++ ".__eq__") (hms : f.ms = [false, false]) (hnw : f.nw = false) {σ : L2.St} {H : Hp} {Q : VK} (w : tX X.K W (rF X.K) (fun r => (fa r).bind fun x r1 => (fb r1).bind fun y r2 => eqoR cf c false x y r2) σ H Q) :
    tOp (fun x y H Q => ∃ a b dx dy fs gs, x = .ref a ∧ y = .ref b ∧ H a = some (.ins (clsA X.K c) dx fs) ∧ H b = some (.ins (clsA X.K c) dy gs) ∧ spF X.K f (cf f.name) [x, y] H (fun v H' => (∃ k, v = .bl k) ∧ Q v H') (fun _ _ _ => False)) (tX X.K W (rF X.K) fa) (tX X.K W (rF X.K) fb) σ H Q := by
  obtain ⟨r, G, s, w⟩ := w
  refine ⟨r, G, s, w.seq0 fun x r1 v G1 H1 _ t h3 w2 => ⟨r1, G1, t.st, ?_⟩⟩
  cases eb : fb r1 with
  | no => rw [eb] at w2; exact w2.elim
  | ex x r2 =>
    rw [eb] at w2
    exact fun dx G' H' t2 xa => w2 dx G' H' (t.trans t2) xa
  | ok y r2 =>
    rw [eb] at w2
    intro u G2 H2 t2 h4
    have h3' : Rep X.K G1 v x := h3
    have h4' : Rep X.K G2 u y := h4
    cases x with
    | ins c1 n1 v1 =>
      cases y with
      | ins c2 n2 v2 =>
        dsimp only [Ev.bind, eqoR] at w2
        cases ec : (c1 == c && c2 == c) with
        | false => rw [ec, if_neg (by decide)] at w2; exact w2.elim
        | true =>
          rw [ec, if_pos rfl] at w2
          have ec' : c1 = c ∧ c2 = c := by simpa using ec
          obtain ⟨rfl, rfl⟩ := ec'
          have h5 := h3'.mono t2.ext
          obtain ⟨a, dx, fs, rfl, q1, _⟩ := Pk.ins (Or.inl h5) t2.st.sub
          obtain ⟨b, dy, gs, rfl, q2, _⟩ := Pk.ins (Or.inl h4') t2.st.sub
          refine ⟨a, b, dx, dy, fs, gs, rfl, rfl, q1, q2, by rw [hms]; rfl, [.ins c2 n1 v1, .ins c2 n2 v2], [.va (.ins c2 n1 v1), .va (.ins c2 n2 v2)], G2, by rw [hms]; rfl, ?_, ?_⟩
          · refine StRel.cons (StRel.cons (r := []) (σ := []) ⟨rfl, t2.st.sub, fun i => trivial, fun i j p hi => by cases hi⟩ ⟨_, rfl, h4'⟩ (fun z => nomatch z)) ⟨_, rfl, h5⟩ (fun z => nomatch z)
          · rw [hn, hms, hnw]
            cases em : cf (c2 ++ ".__eq__") [.ins c2 n1 v1, .ins c2 n2 v2] with
            | no => rw [em] at w2; exact w2.elim
            | exc x outs => rw [em] at w2; exact w2.elim
            | ret d outs =>
              rw [em] at w2
              cases d with
              | bl k =>
                intro rho1 v' G' H' e1 cst rv
                rw [if_neg (by decide)] at rv
                have hl : outs.length = 2 := by
                  cases outs with
                  | nil => cases e1
                  | cons o1 o2 =>
                    cases o2 with
                    | nil => simp [initE] at e1
                    | cons o3 o4 =>
                      cases o4 with
                      | nil => rfl
                      | cons => simp [initE] at e1
                have eo : outTo [.v (.ins c2 n1 v1), .v (.ins c2 n2 v2)] outs r2 = some r2 := by
                  match outs, hl with
                  | [_, _], _ => rfl
                have ars : ArRels X.K r2 σ G2 H2 H [false, false] [.ref a, .ref b] [.v (.ins c2 n1 v1), .v (.ins c2 n2 v2)] :=
                  .cons (.v h5) (fun d ed => by cases ed) (.cons (.v h4') (fun d ed => by cases ed) .nil)
                have st2 := args_out (t.trans t2) ars (ds := [.ins c2 n1 v1, .ins c2 n2 v2]) rfl rfl (rho := [.va (.ins c2 n1 v1), .va (.ins c2 n2 v2)]) rfl (fun p ⟨i, hi, _⟩ => by
                  match i, hi with
                  | 0, hi => cases hi
                  | 1, hi => cases hi
                  | _ + 2, hi => cases hi) cst e1 eo
                cases rv
                refine ⟨⟨_, rfl⟩, ?_⟩
                have := w2 _ G' H' st2 (.bl (k != false))
                simpa using this
              | _ => exact w2.elim
      | _ => exact w2.elim
    | _ => exact w2.elim

theorem eqo_op {k : Nat} {c : String} {f : Fd} (F : FOk X.prog X.w X.K X.mg X.base k f (cf f.name)) (hr : Room k X.A)
    (hs : PySem.W.findIn X.K (.ref (clsA X.K c)) "__eq__" = some (some (.ref (fA X.K f)))) (hfn : PySem.W.isFn X.K (.ref (fA X.K f)) = true) :
    OpR X (compareOp .Eq) (fun x y H Q => ∃ a b dx dy fs gs, x = .ref a ∧ y = .ref b ∧ H a = some (.ins (clsA X.K c) dx fs) ∧ H b = some (.ins (clsA X.K c) dy gs) ∧ spF X.K f (cf f.name) [x, y] H (fun v H' => (∃ k, v = .bl k) ∧ Q v H') (fun _ _ _ => False)) := by
  obtain ⟨fd, F1, F2⟩ := F.ex
  exact op_own (E := fun _ _ _ _ => False) F1 hr hs hfn F2 (fun σ pins H s e s' _ h => by
    obtain ⟨_, _, _, _, _, _, _, _, _, _, _, _, z⟩ := h
    exact z.elim) (fun _ => rfl)
theorem snd_eqo {k : Nat} {c : String} {f : Fd} {fa fb : Env → Ev D} (hn : f.name = c ++ ".__eq__") (hms : f.ms = [false, false]) (hnw : f.nw = false) (F : FOk X.prog X.w X.K X.mg X.base k f (cf f.name)) (hr : Room k X.A)
    (hs : PySem.W.findIn X.K (.ref (clsA X.K c)) "__eq__" = some (some (.ref (fA X.K f)))) (hfn : PySem.W.isFn X.K (.ref (fA X.K f)) = true)
    (ha : PE X a (tX X.K W (rF X.K) fa)) (hb : PE X b (tX X.K W (rF X.K) fb)) (ns : noSet b = true) :
    PE X (.Compare a [.Eq] [b] pos) (tX X.K W (rF X.K) (fun r => (fa r).bind fun x r1 => (fb r1).bind fun y r2 => eqoR cf c false x y r2)) :=
  (pe_cmpR (eqo_op F hr hs hfn) ha hb (noSet_ok ns)).imp fun σ H Q w => eqo_read hn hms hnw w
theorem snd_eqoT {k : Nat} {c : String} {f : Fd} {fa fb : Env → Ev D} (hn : f.name = c ++ ".__eq__") (hms : f.ms = [false, false]) (hnw : f.nw = false) (F : FOk X.prog X.w X.K X.mg X.base k f (cf f.name)) (hr : Room k X.A)
    (hs : PySem.W.findIn X.K (.ref (clsA X.K c)) "__eq__" = some (some (.ref (fA X.K f)))) (hfn : PySem.W.isFn X.K (.ref (fA X.K f)) = true)
    (ha : PE X a (tX X.K W (rF X.K) fa)) (hb : PE X b (tX X.K W (rF X.K) fb)) (ns : noSet b = true) :
    PT X (.Compare a [.Eq] [b] pos) (tX X.K W rB (fun r => ((fa r).bind fun x r1 => (fb r1).bind fun y r2 => eqoR cf c false x y r2).bind fun d r3 => toB d r3)) :=
  (pt_cmpR (eqo_op F hr hs hfn) ha hb (noSet_ok ns)).imp fun σ H Q ⟨r, G, s, w⟩ => eqo_read hn hms hnw ⟨r, G, s, PX.seq rmB (m := (fa r).bind fun x r1 => (fb r1).bind fun y r2 => eqoR cf c false x y r2) w fun d r1 v G1 H1 t h3 w2 => by
    cases d with
    | bl k => cases h3; exact ⟨k, rfl, w2.fin (.refl t.st) rfl⟩
    | _ => exact w2.elim⟩
end
end CW

set_option Elab.async false
set_option linter.all false
set_option maxRecDepth 100000
namespace CW
open PySem PySem.Spec PyProof.Rows L2

/-! ### isinstance -/
def tyNm : Ty → String
  | .int => "int" | .bool => "bool" | .str => "str" | .list => "list" | .tuple => "tuple" | .own c => c
/-- what an own class must be for isinstance -/
structure ClsI (K : PySem.W.Frag) (C : Addr) : Prop where
  cl : Cls K C
  ha : PySem.W.findIn K (.ref C) "__class__" = some (some (.builtin "object.__class__"))
  hn : PySem.W.specialIn K (.builtin "object.__class__") "__get__" = some (some (.builtin "getset_descriptor.__get__"))
  htk : PySem.W.takesIn K (.builtin "object.__class__") = some true
  hm : PySem.W.mroIn K C (.type "object") = some true
  kit : PySem.W.kitOne K (.ref C) (.ref C) = some true
theorem kit_tab : (["NoneType", "bool", "int", "str", "list", "tuple"].all fun a => ["int", "bool", "str", "list", "tuple"].all fun b => decide (kitB a b = some (decide (a = b) || (decide (a = "bool") && decide (b = "int"))))) = true := by decide +kernel
theorem kit_at {K : PySem.W.Frag} {a b : String} (ha : a ∈ ["NoneType", "bool", "int", "str", "list", "tuple"]) (hb : b ∈ ["int", "bool", "str", "list", "tuple"]) : PySem.W.kitOne K (.type a) (.type b) = some (decide (a = b) || (decide (a = "bool") && decide (b = "int"))) := by
  have := kit_tab
  rw [List.all_eq_true] at this
  have := this a ha
  rw [List.all_eq_true] at this
  exact kit_ty (of_decide_eq_true (this b hb))
/-- the type's name of data -/
def dTy : D → Option String
  | .non => some "NoneType" | .bl _ => some "bool" | .int _ => some "int" | .str _ => some "str" | .lst _ => some "list" | .tup _ => some "tuple"
  | _ => none
theorem dTy_mem {d : D} {s : String} (h : dTy d = some s) : s ∈ ["NoneType", "bool", "int", "str", "list", "tuple"] := by
  cases d <;> first | (cases h; done) | (obtain rfl := Option.some.inj h; decide)
theorem dTy_of {K : PySem.W.Frag} {G H : Hp} {v : V} {d : D} {s : String} (sm : Same G H) (h : Pk K G H v d) (e : dTy d = some s) : TyOf K H v (.type s) := by
  cases d with
  | non => obtain rfl := Option.some.inj e; rw [h.non]; exact .non
  | bl b => obtain rfl := Option.some.inj e; rw [h.bl]; exact .bl b
  | int i => obtain rfl := Option.some.inj e; rw [h.int]; exact .int i
  | str x => obtain rfl := Option.some.inj e; rw [h.str]; exact .str _
  | lst l => obtain rfl := Option.some.inj e; obtain ⟨a, vs, rfl, e1, _⟩ := h.lst sm; exact .lst e1
  | tup l => obtain rfl := Option.some.inj e; obtain ⟨a, vs, rfl, e1, _⟩ := h.tup; exact .tup (sm _ _ e1)
  | _ => cases e
def isOwn : Ty → Bool
  | .own _ => true
  | _ => false
theorem tyNm_mem {t : Ty} (h : isOwn t = false) : tyNm t ∈ ["int", "bool", "str", "list", "tuple"] := by
  cases t <;> first | (cases h; done) | decide
theorem isT_of {t : Ty} {d : D} {b : Bool} (h : isOwn t = false) (e : isT t d = some b) : ∃ s, dTy d = some s ∧ b = (decide (s = tyNm t) || (decide (s = "bool") && decide (tyNm t = "int"))) := by
  cases t <;> first | (cases h; done) | skip
  all_goals cases d <;> first | (cases e; done) | exact ⟨_, rfl, by rw [← Option.some.inj e]; decide⟩
/-- isinstance(a, T) -/
def isiOf (sc : Scope) (t : Ty) : Expr → Option Expr
  | .Call (.Name x _) [a, .Name y _] [] _ => if bltB sc "isinstance" x && (noStar a && (decide (y = enc (tyNm t)) && (globB sc y && plainN y))) then some a else none
  | _ => none
section
variable {P : Program} {w : World} {K : PySem.W.Frag} {mg : Str → Option Value} {base : Heap} {N : List String} {sc : Scope} {n : Nat} {W : WX} {X : Cx} {e a : Expr} {fa : Env → Ev Ar}
theorem boot_ty {t : Ty} (h : isOwn t = false) : bootBuiltins (enc (tyNm t)) = some (.type (tyNm t)) := by
  cases t <;> first | (cases h; done) | decide +kernel
theorem snd_isi (C : CtxE P w K mg base N sc n W X) (F : Free mg) {t : Ty} (h : isiOf sc t e = some a) (ht : match t with | .own c => X.mg (enc c) = some (.ref (clsA X.K c)) ∧ ClsI X.K (clsA X.K c) | t => tyNm t ∈ BL)
    (ha : PE X a (tX X.K W (rA X.K) fa)) : PE X e (tX X.K W (rF X.K) (fun r => (fa r).bind fun x r1 => .of r1 ((drf r1 x).bind fun d => (isT t d).map .bl))) := by
  unfold isiOf at h
  split at h
  · next x px a' y py pos =>
    obtain ⟨z, rfl⟩ := ifs h
    simp only [Bool.and_eq_true, decide_eq_true_eq] at z
    obtain ⟨z1, z2, z3, z4, z5⟩ := z
    obtain ⟨g, m, rfl⟩ := C.blt F z1
    have key : ∀ {v : V}, PE X (.Name y py) (tC v) → (∀ x d d' r σ G H Q, StRel X.K r σ G H → Pk X.K G H x d → isT t d = some d' → PX X.K W (rF X.K) r σ G H (.ok (.bl d') r) Q → rIsi X.K [x, v] H Q) →
        PE X (.Call (.Name (enc "isinstance") px) [a', .Name y py] [] pos) (tX X.K W (rF X.K) (fun r => (fa r).bind fun x r1 => .of r1 ((drf r1 x).bind fun d => (isT t d).map .bl))) := by
      intro v hv ok
      refine snd_un (t := fun _ _ _ => True) ha (fun {ta} ha => ?_) (fun x d d' r σ G H Q s h e q => ?_) (z := fun x H Q => rIsi X.K [x, v] H Q)
      · exact pe_callB call_isi g m (by decide +kernel) (pa_cons ha (pa_cons hv pa_nil rfl) (noStar_ok z2)) (plainN_ok (by decide +kernel)).2.2 (plainN_ok (by decide +kernel)).1 (noStar_ok z2) rfl
      · obtain ⟨k, e1, rfl⟩ := Option.map_eq_some_iff.mp e
        exact ok x d k r σ G H Q s h e1 q
    have hy := plainN_ok z5
    cases to : isOwn t with
    | false =>
      have hb : tyNm t ∈ BL := by cases t <;> first | (cases to; done) | exact ht
      have mn : X.mg y = none := by rw [C.eM, z3]; exact F _ hb
      refine key (v := .ty (tyNm t)) (pe_bltn (C.glob z4) mn (by rw [z3]; exact boot_ty to) rfl hy.2.2 hy.1) fun x d b r σ G H Q s h e q => ?_
      obtain ⟨ty, e1, rfl⟩ := isT_of to e
      exact ⟨x, .ty (tyNm t), _, _, _, rfl, .ty _, .base (dTy_of s.sub h e1), kit_at (dTy_mem e1) (tyNm_mem to), fin_v s q (.bl _)⟩
    | true =>
      cases t with
      | own c =>
        obtain ⟨h1, h2⟩ := ht
        have mn : X.mg y = some (.ref (clsA X.K c)) := by rw [z3]; exact h1
        refine key (v := .ref (clsA X.K c)) (pe_glob (C.glob z4) mn rfl hy.1) fun x d b r σ G H Q s h e q => ?_
        cases d with
        | ins c' nms vs =>
          simp only [isT] at e
          obtain ⟨ec, rfl⟩ := ifs e
          obtain rfl : c = c' := by simpa using ec
          obtain ⟨a, dx, fs, rfl, q1, _⟩ := h.ins s.sub
          exact ⟨_, .ref (clsA X.K c), _, _, _, rfl, .own _, .base (.ins q1 h2.cl h2.ha h2.hn h2.htk h2.hm), h2.kit, fin_v s q (.bl _)⟩
        | _ => cases e
      | _ => cases to
  · cases h
end

/-! ### pop, lists and tuples of ranges -/
section
variable {X : Cx} {W : WX} {e a b : Expr} {pos apos p : Pos} {i : Nat} {x : Str}
theorem snd_pop (h : PE X (.Name x p) (tVar i)) (hl : (apos.endLine == pos.line) = true) : PE X (.Call (.Attribute (.Name x p) ("pop" : Str) apos) [] [] pos) (tX X.K W (rF X.K) (fun r => match get r i with
    | .ow b (.lst l) => (match l.getLast? with
      | some y => .ok y (put r i (.ow b (.lst l.dropLast)))
      | none => .no)
    | _ => .no)) :=
  (pe_bm0 PySem.F.plainAttrs_list PySem.F.slot_list_pop PySem.F.type_list_pop mt_pop h rfl hl).imp fun σ H Q ⟨r, G, s, q⟩ => by
    dsimp only at q
    cases z : get r i with
    | ow b d =>
      rw [z] at q
      cases d with
      | lst l =>
        dsimp only at q
        obtain ⟨p, o, e1, e2, e3, vs, rfl, rr⟩ := s.owned z
        cases el : l.getLast? with
        | none => rw [el] at q; exact q.elim
        | some y =>
          rw [el] at q
          rw [List.getLast?_eq_getElem?] at el
          obtain ⟨v, f1, f2⟩ := rr.get el
          refine ⟨_, e1, .inl ⟨rfl, _, SqL.of e2⟩, p, vs, v, rfl, rfl, e2, by rw [rr.length]; exact f1, ?_⟩
          have rd : Reps X.K G vs.dropLast l.dropLast := by
            rw [List.dropLast_eq_take, List.dropLast_eq_take, rr.length]; exact rr.take _
          exact q _ _ _ (Step.write s z e1 ⟨_, rfl, rd⟩) f2
      | _ => exact q.elim
    | _ => rw [z] at q; exact q.elim
theorem isLs_ok {s : Sl} (h : isLs s = true) : ∃ b l, s = .ow b (.lst l) := by
  cases s with
  | ow b d => cases d <;> first | (cases h; done) | exact ⟨_, _, rfl⟩
  | _ => cases h
/-- ahead of a list's method: the list stands -/
theorem list_there {r : Env} {σ : L2.St} {G H : Hp} (s : StRel X.K r σ G H) (h : isLs (get r i) = true) : ∃ p : Addr, σ[i]? = some (some (V.ref p)) ∧ tyV X.K "list" (.ref p) H := by
  obtain ⟨b, l, e⟩ := isLs_ok h
  obtain ⟨p, o, e1, e2, e3, vs, rfl, rr⟩ := s.owned e
  exact ⟨p, e1, .inl ⟨rfl, _, SqL.of e2⟩⟩
theorem few_ok {env : PySem.Env} (na : noStar a = true) : ((backTo pos (starEach [a] env)).all (fun x => !x.1) && (backToKw pos (keywordEach [] env)).all (fun x => x.1.isSome)
      && decide (([a] : List Expr).length + ([] : List Keyword).length + (if ([] : List Keyword).isEmpty then 0 else 1) < 30)) = true := by
  rw [noStar_ok na]; rfl
theorem snd_popAt {fa : Env → Ev D} (h : PE X (.Name x p) (tVar i)) (ha : PE X a (tX X.K W (rF X.K) fa)) (na : noStar a = true) (hl : (apos.endLine == pos.line) = true) :
    PE X (.Call (.Attribute (.Name x p) ("pop" : Str) apos) [a] [] pos) (tX X.K W (rF X.K) (fun r => if isLs (get r i) then (fa r).bind fun y r1 => match get r1 i, y with
    | .ow b (.lst l), .int k => (match (if l.length ≤ SZ then ixAt l.length k else none) with
      | some j => (match l[j]? with
        | some y => .ok y (put r1 i (.ow b (.lst (l.eraseIdx j))))
        | none => .no)
      | none => .no)
    | _, _ => .no
    else .no)) := by
  refine (pe_bm PySem.F.plainAttrs_list PySem.F.slot_list_pop PySem.F.type_list_pop mt_popAt h (pa_cons ha pa_nil (noStar_ok na)) rfl (few_ok na) hl (noStar_ok na) rfl).imp fun σ H Q ⟨r, G, s, q⟩ => ?_
  dsimp only at q
  cases hls : isLs (get r i) with
  | false => rw [hls, if_neg (by decide)] at q; exact q.elim
  | true =>
    rw [hls, if_pos rfl] at q
    obtain ⟨p, e1, e2⟩ := list_there s hls
    refine ⟨_, e1, e2, r, G, s, q.seq rmF fun y r1 v G1 H1 t h3 w2 => ?_⟩
    cases z : get r1 i with
    | ow b d =>
      rw [z] at w2
      cases d with
      | lst l =>
        cases y with
        | int k =>
          dsimp only at w2
          by_cases hz : l.length ≤ SZ
          · rw [if_pos hz] at w2
            cases hj : ixAt l.length k with
            | none => rw [hj] at w2; exact w2.elim
            | some j =>
              rw [hj] at w2
              dsimp only at w2
              cases el : l[j]? with
              | none => rw [el] at w2; exact w2.elim
              | some y =>
                rw [el] at w2
                obtain ⟨p', o, f1, f2, f3, ws, rfl, rr⟩ := t.st.owned z
                obtain rfl : p' = p := by rw [e1] at f1; injection f1 with f1; injection f1 with f1; injection f1 with f1; exact f1.symm
                obtain ⟨u, g1, g2⟩ := rr.get el
                obtain ⟨k1, k2, k3, k4⟩ := ixN_seq (n := l.length) (i := k) (j := j) hj
                have hs : (SZ : Int) < 2 ^ 63 := by decide
                have hz' : (l.length : Int) ≤ SZ := by exact_mod_cast hz
                cases h3
                refine ⟨p', ws, k, j, u, rfl, rfl, f2, by omega, by omega, by rw [rr.length]; exact k1, g1, ?_⟩
                exact w2 _ _ _ (Step.write t.st z e1 ⟨_, rfl, rr.erase j⟩) g2
          · rw [if_neg hz] at w2; exact w2.elim
        | _ => exact w2.elim
      | _ => cases y <;> exact w2.elim
    | _ => rw [z] at w2; cases y <;> exact w2.elim

theorem rangeL_rg {K : PySem.W.Frag} {G : Hp} (a b : Int) : Reps K G (rgV a b) (rangeL a b) := by
  unfold rgV rangeL
  generalize List.range (b - a).toNat = l
  induction l with
  | nil => exact .nil
  | cons x l ih => exact .cons (.int _) ih
theorem okR_of {a b : Int} (h : okR a b = true) : -(2 ^ 62) ≤ a ∧ a < 2 ^ 62 ∧ -(2 ^ 62) ≤ b ∧ b < 2 ^ 62 := by
  simp only [okR, Bool.and_eq_true, decide_eq_true_eq] at h
  have e : (2 : Int) ^ 62 = B62 := by decide
  rw [e]; exact ⟨h.1.1.1, h.1.1.2, h.1.2, h.2⟩
/-- list(range(a, b)), list(range(b)) -/
def lrngOf (sc : Scope) (tp : Bool) : Expr → Option (Option Expr × Expr)
  | .Call (.Name x _) [.Call (.Name y _) [b] [] _] [] _ => if bltB sc (if tp then "tuple" else "list") x && (bltB sc "range" y && noStar b) then some (none, b) else none
  | .Call (.Name x _) [.Call (.Name y _) [a, b] [] _] [] _ => if bltB sc (if tp then "tuple" else "list") x && (bltB sc "range" y && (noStar a && noStar b)) then some (some a, b) else none
  | _ => none
end
section
variable {P : Program} {w : World} {K : PySem.W.Frag} {mg : Str → Option Value} {base : Heap} {N : List String} {sc : Scope} {n : Nat} {W : WX} {X : Cx} {e a b : Expr} {fa fb : Env → Ev D}
def lrngF (tp : Bool) (fa fb : Env → Ev D) : Env → Ev D := fun r => (fa r).bind fun x r1 => (fb r1).bind fun y r2 => match x, y with
    | .int i, .int j => if okR i j && decide ((j - i).toNat ≤ SZ) then .ok (if tp then .tup (rangeL i j) else .lst (rangeL i j)) r2 else .no
    | _, _ => .no
theorem rg_end {tp : Bool} {x y : D} {r : Env} {σ : L2.St} {G H : Hp} {Q : VK} {R : Rl V D} (q : PX X.K W R r σ G H (match x, y with
    | .int i, .int j => if okR i j && decide ((j - i).toNat ≤ SZ) then Ev.ok (if tp then D.tup (rangeL i j) else .lst (rangeL i j)) r else .no
    | _, _ => .no) Q) : ∃ i j, x = .int i ∧ y = .int j ∧ RgOk i j ∧ PX X.K W R r σ G H (.ok (if tp then .tup (rangeL i j) else .lst (rangeL i j)) r) Q := by
  cases x with
  | int i =>
    cases y with
    | int j =>
      dsimp only at q
      cases hb : (okR i j && decide ((j - i).toNat ≤ SZ)) with
      | false => rw [hb, if_neg (by decide)] at q; exact q.elim
      | true =>
        rw [hb, if_pos rfl] at q
        simp only [Bool.and_eq_true, decide_eq_true_eq] at hb
        obtain ⟨a1, a2, a3, a4⟩ := okR_of hb.1
        exact ⟨i, j, rfl, rfl, ⟨a1, a2, a3, a4, hb.2⟩, q⟩
    | _ => exact q.elim
  | _ => exact q.elim
theorem snd_lrng1 (C : CtxE P w K mg base N sc n W X) (F : Free mg) {tp : Bool} (h : lrngOf sc tp e = some (none, b)) (hb : PE X b (tX X.K W (rF X.K) fb)) (hf : ∀ r, fa r = .ok (.int 0) r) : PE X e (tX X.K W (if tp then rF X.K else rN X.K) (lrngF tp fa fb)) := by
  unfold lrngOf at h
  split at h
  · next x px y py b' pos pos2 =>
    obtain ⟨z, e1⟩ := ifs h
    injection e1 with _ e1
    subst e1
    simp only [Bool.and_eq_true] at z
    obtain ⟨z1, z2, z3⟩ := z
    obtain ⟨g1, m1, e1⟩ := C.blt F z1
    obtain ⟨g2, m2, e2⟩ := C.blt F z2
    subst e1; subst e2
    have er : enc "range" = "range" := by decide +kernel
    rw [er] at g2 m2 ⊢
    have hp := prg_1 (p := py) (pos := pos) g2 m2 hb (noStar_ok z3)
    cases tp with
    | true =>
      have et : enc (if true = true then "tuple" else "list") = "tuple" := by decide +kernel
      rw [et] at g1 m1 ⊢
      refine (pe_tupRg C.calm g1 m1 hp rfl).imp fun σ H Q ⟨r, G, s, w⟩ => ⟨r, G, s, ?_⟩
      have w' : PX X.K W (rF X.K) r σ G H (lrngF true fa fb r) Q := w
      unfold lrngF at w'
      rw [hf r] at w'
      refine PX.seq rmF (m := fb r) w' fun y r1 v G1 H1 t h3 w2 => ?_
      obtain ⟨i, j, ei, rfl, ok, w3⟩ := rg_end w2
      injection ei with ei
      subst ei
      cases h3
      exact ⟨j, rfl, ok, fun q hq => fin_tup t.st (rangeL_rg _ _) w3 hq⟩
    | false =>
      have et : enc (if false = true then "tuple" else "list") = "list" := by decide +kernel
      rw [et] at g1 m1 ⊢
      refine (pe_listRg C.calm g1 m1 hp rfl).imp fun σ H Q ⟨r, G, s, w⟩ => ⟨r, G, s, ?_⟩
      have w' : PX X.K W (rN X.K) r σ G H (lrngF false fa fb r) Q := w
      unfold lrngF at w'
      rw [hf r] at w'
      refine PX.seq rmN (m := fb r) w' fun y r1 v G1 H1 t h3 w2 => ?_
      obtain ⟨i, j, ei, rfl, ok, w3⟩ := rg_end w2
      injection ei with ei
      subst ei
      cases h3
      exact ⟨j, rfl, ok, fun q hq => fin_lst t.st (rangeL_rg _ _) w3 hq⟩
  · next => obtain ⟨_, e1⟩ := ifs h; injection e1 with e1 _; cases e1
  · cases h
theorem snd_lrng2 (C : CtxE P w K mg base N sc n W X) (F : Free mg) {tp : Bool} (h : lrngOf sc tp e = some (some a, b)) (ha : PE X a (tX X.K W (rF X.K) fa)) (hb : PE X b (tX X.K W (rF X.K) fb)) : PE X e (tX X.K W (if tp then rF X.K else rN X.K) (lrngF tp fa fb)) := by
  unfold lrngOf at h
  split at h
  · next => obtain ⟨_, e1⟩ := ifs h; injection e1 with e1 _; cases e1
  · next x px y py a' b' pos pos2 =>
    obtain ⟨z, e1⟩ := ifs h
    injection e1 with e0 e1
    injection e0 with e0
    subst e0; subst e1
    simp only [Bool.and_eq_true] at z
    obtain ⟨z1, z2, z3, z4⟩ := z
    obtain ⟨g1, m1, e1⟩ := C.blt F z1
    obtain ⟨g2, m2, e2⟩ := C.blt F z2
    subst e1; subst e2
    have er : enc "range" = "range" := by decide +kernel
    rw [er] at g2 m2 ⊢
    have hp := prg_2 (p := py) (pos := pos) g2 m2 ha hb (noStar_ok z3) (noStar_ok z4) (backTo_plain (by simp [z4]))
    cases tp with
    | true =>
      have et : enc (if true = true then "tuple" else "list") = "tuple" := by decide +kernel
      rw [et] at g1 m1 ⊢
      refine (pe_tupRg C.calm g1 m1 hp rfl).imp fun σ H Q ⟨r, G, s, w⟩ => ⟨r, G, s, PX.seq rmF (m := fa r) w fun x r1 v G1 H1 t h3 w2 => ⟨r1, G1, t.st, PX.seq rmF (m := fb r1) w2 fun y r2 u G2 H2 t2 h4 w3 => ?_⟩⟩
      obtain ⟨i, j, rfl, rfl, ok, w4⟩ := rg_end w3
      cases h3; cases h4
      exact ⟨i, j, rfl, rfl, ok, fun q hq => fin_tup t2.st (rangeL_rg _ _) w4 hq⟩
    | false =>
      have et : enc (if false = true then "tuple" else "list") = "list" := by decide +kernel
      rw [et] at g1 m1 ⊢
      refine (pe_listRg C.calm g1 m1 hp rfl).imp fun σ H Q ⟨r, G, s, w⟩ => ⟨r, G, s, PX.seq rmN (m := fa r) w fun x r1 v G1 H1 t h3 w2 => ⟨r1, G1, t.st, PX.seq rmN (m := fb r1) w2 fun y r2 u G2 H2 t2 h4 w3 => ?_⟩⟩
      obtain ⟨i, j, rfl, rfl, ok, w4⟩ := rg_end w3
      cases h3; cases h4
      exact ⟨i, j, rfl, rfl, ok, fun q hq => fin_lst t2.st (rangeL_rg _ _) w4 hq⟩
  · cases h
end
end CW

set_option Elab.async false
set_option linter.all false
set_option maxRecDepth 100000
/-! l.index(x), l.count(x). -/
namespace CW
open PySem PySem.Spec PyProof.Rows L2
def lmName : LM → Str
  | .index => "index"
  | .count => "count"
section
variable {X : Cx} {W : WX} {r : Env} {σ : L2.St} {G H : Hp} {Q : VK} {x y : V} {d d2 d' : D} {a b e : Expr} {fa fb : Env → Ev Ar} {pos : Pos}
theorem getP : ∀ {l : List D} {j : Nat} {z : D}, l[j]? = some z → (toPys l)[j]? = some (toPy z)
  | [], _, _, h => by simp at h
  | x :: l, 0, z, h => by simp at h; subst h; rfl
  | x :: l, j + 1, z, h => by
    show (toPys l)[j]? = _
    exact getP (by simpa using h)
theorem getP' : ∀ {l : List D} {j : Nat} {z : PyData}, (toPys l)[j]? = some z → ∃ d, l[j]? = some d ∧ z = toPy d
  | [], _, _, h => by simp [toPys] at h
  | x :: l, 0, z, h => by
    have : some (toPy x) = some z := h
    exact ⟨x, rfl, (Option.some.inj this).symm⟩
  | x :: l, j + 1, z, h => by
    obtain ⟨d, e, q⟩ := getP' (l := l) (j := j) h
    exact ⟨d, by simpa using e, q⟩
theorem dsOk_get {n : Nat} : ∀ {l : List D} {j : Nat} {z : D}, dsOk n l = true → l[j]? = some z → dOk n z = true
  | [], _, _, _, h => by simp at h
  | x :: l, 0, z, o, h => by
    have o' : dOk n x = true ∧ dsOk n l = true := by simpa [dsOk] using o
    simp at h; subst h; exact o'.1
  | x :: l, j + 1, z, o, h => by
    have o' : dOk n x = true ∧ dsOk n l = true := by simpa [dsOk] using o
    exact dsOk_get o'.2 (by simpa using h)
theorem ok_index (s : StRel X.K r σ G H) (h : Pk X.K G H x d) (h2 : Pk X.K G H y d2) (e : semLm .index d d2 = some d') (q : Fin1 X W r σ G H d' Q) : rIndexD X.K x [y] H Q := by
  cases d with
  | lst l =>
    obtain ⟨z, e2⟩ := ifs' (show (if dOk 40 d2 && dsOk 40 l then (l.findIdx? fun z => deq z d2).map fun j => D.int (j : Nat) else none) = some d' from e)
    simp only [Bool.and_eq_true] at z
    obtain ⟨j, e3, rfl⟩ := Option.map_eq_some_iff.mp e2
    obtain ⟨hj, hz, hno⟩ := List.findIdx?_eq_some_iff_getElem.mp e3
    have o : dOk 41 (.lst l) = true := by unfold dOk; exact z.2
    obtain ⟨a1, a2, a3⟩ := pk_dp s.sub o h
    obtain ⟨b1, b2, b3⟩ := pk_dp s.sub z.1 h2
    obtain ⟨a, vs, rfl, _, _⟩ := h.lst s.sub
    have hz' : l[j]? = some l[j] := List.getElem?_eq_getElem hj
    refine ⟨a, y, toPy d2, toPys l, j, toPy l[j], rfl, rfl, a1, b1, shaped_of a2 a3 (by decide), shaped_of b2 b3 (by decide), getP hz', ?_, fun m z' hm hz2 => ?_, fin_v s q (.int _)⟩
    · rw [deq_eqv 40 40 _ _ (dsOk_get z.2 hz') z.1]; exact hz
    · obtain ⟨w, hw, rfl⟩ := getP' hz2
      obtain ⟨hm', ew⟩ := List.getElem?_eq_some_iff.mp hw
      rw [deq_eqv 40 40 _ _ (dsOk_get z.2 hw) z.1, ← ew]
      have := hno m hm
      simpa using this
  | _ => cases e
theorem ok_count (s : StRel X.K r σ G H) (h : Pk X.K G H x d) (h2 : Pk X.K G H y d2) (e : semLm .count d d2 = some d') (q : Fin1 X W r σ G H d' Q) : rCntI X.K x [y] H Q := by
  cases d with
  | lst l =>
    cases d2 with
    | int k =>
      obtain ⟨ns, e1, rfl⟩ := Option.map_eq_some_iff.mp (show (allInt l).map (fun ns => D.int (ns.count k : Nat)) = some d' from e)
      obtain ⟨a, rfl, e2⟩ := pk_ints s.sub h e1
      exact ⟨a, ns, k, rfl, by rw [h2.int], e2, fin_v s q (.int _)⟩
    | _ => cases e
  | _ => cases e
theorem pk_tyl (s : Same G H) {l : List D} (h : Pk X.K G H x (.lst l)) : tyV X.K "list" x H := by
  obtain ⟨a, vs, rfl, e1, _⟩ := h.lst s
  exact .inl ⟨rfl, vs, SqL.of e1⟩
theorem snd_lm {z : V → List V → Hp → VK → Prop} {sem : D → D → Option D} (ha : PE X a (tX X.K W (rA X.K) fa)) (hb : PE X b (tX X.K W (rA X.K) fb))
    (rule : ∀ {ta tb : TE}, PE X a ta → PE X b tb → PE X e (fun σ H Q => ta σ H fun x H1 => tyV X.K "list" x H1 ∧ tb σ H1 fun y H2 => z x [y] H2 Q))
    (ok : ∀ x y d d2 d' r σ G H Q, StRel X.K r σ G H → Pk X.K G H x d → Pk X.K G H y d2 → sem d d2 = some d' → PX X.K W (rF X.K) r σ G H (.ok d' r) Q → z x [y] H Q) :
    PE X e (tX X.K W (rF X.K) (fun r => (fa r).bind fun x r1 => if isLstD (drf r1 x) = true then (fb r1).bind fun y r2 => .of r2 ((drf r2 x).bind fun d => (drf r2 y).bind fun e => sem d e) else .no)) :=
  (rule ha hb).imp fun σ H Q ⟨r, G, s, q⟩ => ⟨r, G, s, q.seq rmF fun A r1 v G1 H1 t h2 q2 => by
    by_cases hl : isLstD (drf r1 A) = true
    · rw [if_pos hl] at q2
      refine ⟨?_, r1, G1, t.st, q2.seq rmF fun B r2 u G2 H2 t2 h3 q3 => ?_⟩
      · cases e0 : drf r1 A with
        | none => rw [e0] at hl; cases hl
        | some d0 =>
          rw [e0] at hl
          cases d0 with
          | lst l => exact pk_tyl t.st.sub (h2.drf t.st e0)
          | _ => cases hl
      · obtain ⟨d', e1, q4⟩ := q3.of
        obtain ⟨d, e2, e3⟩ := Option.bind_eq_some_iff.mp e1
        obtain ⟨d2, e4, e5⟩ := Option.bind_eq_some_iff.mp e3
        exact ok v u d d2 d' r2 σ G2 H2 Q t2.st ((h2.step t2).drf t2.st e2) (RepA.drf h3 t2.st e4) e5 q4
    · rw [if_neg hl] at q2
      exact q2.elim⟩
end
section
variable {P : Program} {w : World} {K : PySem.W.Frag} {mg : Str → Option Value} {base : Heap} {N : List String} {sc : Scope} {n : Nat} {W : WX} {X : Cx} {a b : Expr} {fa fb : Env → Ev Ar} {apos pos : Pos}
theorem sound_lm (C : CtxE P w K mg base N sc n W X) (m : LM) (ha : PE X a (tX X.K W (rA X.K) fa)) (hb : PE X b (tX X.K W (rA X.K) fb)) (ns : noSuper a = true) (na : noStar b = true) (hl : (apos.endLine == pos.line) = true) :
    PE X (.Call (.Attribute a (lmName m) apos) [b] [] pos) (tX X.K W (rF X.K) (fun r => (fa r).bind fun x r1 => if isLstD (drf r1 x) = true then (fb r1).bind fun y r2 => .of r2 ((drf r2 x).bind fun d => (drf r2 y).bind fun e => semLm m d e) else .no)) := by
  cases m with
  | index =>
    exact snd_lm (z := rIndexD X.K) (sem := semLm .index) ha hb (fun ha hb => pe_bm PySem.F.plainAttrs_list PySem.F.slot_list_index PySem.F.type_list_index (mt_indexD C.room1) ha (pa_cons hb pa_nil (noStar_ok na)) (noSuper_ok ns) (few_ok na) hl (noStar_ok na) rfl)
      (fun x y d d2 d' r σ G H Q s h h2 e q => ok_index s h h2 e q)
  | count =>
    exact snd_lm (z := rCntI X.K) (sem := semLm .count) ha hb (fun ha hb => pe_bm PySem.F.plainAttrs_list PySem.F.slot_list_count PySem.F.type_list_count mt_lcount ha (pa_cons hb pa_nil (noStar_ok na)) (noSuper_ok ns) (few_ok na) hl (noStar_ok na) rfl)
      (fun x y d d2 d' r σ G H Q s h h2 e q => ok_count s h h2 e q)
end
end CW

set_option Elab.async false
set_option linter.all false
set_option maxRecDepth 100000
/-! Targets, what is locked, what is wiped; walks. -/
namespace CW
open PySem PySem.Spec PyProof.Rows L2

/-! ### targets -/
def tgs : Tg → List Nat
  | .nm i => [i]
  | .tp2 a b => tgs a ++ tgs b
  | .tp3 a b c => tgs a ++ (tgs b ++ tgs c)
/-- nothing but those slots has changed -/
def But (l : List Nat) (σ σ' : L2.St) : Prop := σ'.length = σ.length ∧ ∀ j, j ∉ l → σ'[j]? = σ[j]?
theorem But.trans {l m : List Nat} {σ σ1 σ2 : L2.St} (a : But l σ σ1) (b : But m σ1 σ2) : But (l ++ m) σ σ2 := ⟨b.1.trans a.1, fun j h => (b.2 j fun z => h (List.mem_append_right _ z)).trans (a.2 j fun z => h (List.mem_append_left _ z))⟩
def gX (K : PySem.W.Frag) (g : Tg) : TG := fun v σ H Q => ∃ r G d, StRel K r σ G H ∧ Rep K G v d ∧ match setTg g d r with
  | some r' => ∀ σ', Step K r σ G H r' σ' G H → But (tgs g) σ σ' → Q σ' H
  | none => False
theorem _root_.L2.PG.imp {X : Cx} {e : Expr} {t t' : TG} (h : PG X e t) (i : ∀ v σ H Q, σ.length = X.N.length → t' v σ H Q → t v σ H Q) : PG X e t' := ⟨fun pins s σ H v u Q I r q => h.run pins s σ H v u Q I r (i v σ H Q I.len q)⟩
/-- the text of a target -/
def tgB (N : List String) (sc : Scope) : Tg → Expr → Bool
  | .nm i, .Name x _ => locNB N sc i x
  | .tp2 a b, .Tuple [x, y] _ _ => tgB N sc a x && tgB N sc b y
  | .tp3 a b c, .Tuple [x, y, z] _ _ => (tgB N sc a x && tgB N sc b y) && tgB N sc c z
  | _, _ => false
theorem tgB_star {N : List String} {sc : Scope} {g : Tg} {e : Expr} (h : tgB N sc g e = true) : noStar e = true := by
  cases e with
  | Starred => cases g <;> simp [tgB] at h
  | _ => rfl
theorem asg_cons {e : Expr} {es : List Expr} {env : PySem.Env} (h : noStar e = true) : (assignEach (e :: es) env).map (·.2) = assign e env :: (assignEach es env).map (·.2) := by
  cases e with
  | Starred => exact Bool.noConfusion h
  | _ => rfl
theorem asg_len {env : PySem.Env} : ∀ {es : List Expr}, (assignEach es env).length = es.length
  | [] => rfl
  | e :: es => by
    cases e <;> exact congrArg Nat.succ asg_len
theorem asg_none {env : PySem.Env} : ∀ {es : List Expr}, es.all noStar = true → (assignEach es env).findIdx? (·.1) = none := by
  intro es h
  rw [List.findIdx?_eq_none_iff]
  induction es with
  | nil => intro x hx; cases hx
  | cons e es ih =>
    have h' : noStar e = true ∧ es.all noStar = true := by simpa using h
    intro x hx
    have : assignEach (e :: es) env = (false, assign e env) :: assignEach es env := by
      cases e with
      | Starred => exact Bool.noConfusion h'.1
      | _ => rfl
    rw [this] at hx
    rcases List.mem_cons.mp hx with rfl | hx
    · rfl
    · exact ih h'.2 x hx
/-- a name is bound anew: as a context has it -/
structure CtxG (N : List String) (sc : Scope) (X : Cx) : Prop where
  eN : X.N = N.map enc
  nd : X.N.Nodup
  calm : X.calm = true
  st : ∀ x, locB sc x = true → L2.Loc X.env.scope x ∧ (X.fn x = true ∨ X.env.scope.names.lookup x = some .local)
section
variable {K : PySem.W.Frag} {N : List String} {sc : Scope} {X : Cx}
theorem setTg_len : ∀ {g : Tg} {d : D} {r r' : Env}, setTg g d r = some r' → r'.length = r.length
  | .nm i, d, r, r', h => by
    simp only [setTg] at h
    obtain ⟨_, rfl⟩ := ifs h
    exact put_len _ _ _
  | .tp2 a b, d, r, r', h => by
    cases d with
    | tup l =>
      match l, h with
      | [x, y], h =>
        simp only [setTg] at h
        obtain ⟨r1, e1, e2⟩ := Option.bind_eq_some_iff.mp h
        rw [setTg_len e2, setTg_len e1]
      | [], h => simp [setTg] at h
      | [_], h => simp [setTg] at h
      | _ :: _ :: _ :: _, h => simp [setTg] at h
    | _ => simp [setTg] at h
  | .tp3 a b c, d, r, r', h => by
    cases d with
    | tup l =>
      match l, h with
      | [x, y, z], h =>
        simp only [setTg] at h
        obtain ⟨r2, e0, e3⟩ := Option.bind_eq_some_iff.mp h
        obtain ⟨r1, e1, e2⟩ := Option.bind_eq_some_iff.mp e0
        rw [setTg_len e3, setTg_len e2, setTg_len e1]
      | [], h => simp [setTg] at h
      | [_], h => simp [setTg] at h
      | [_, _], h => simp [setTg] at h
      | _ :: _ :: _ :: _ :: _, h => simp [setTg] at h
    | _ => simp [setTg] at h
theorem CtxG.store (C : CtxG N sc X) {i : Nat} {x : Str} (h : locNB N sc i x = true) : X.N[i]? = some x ∧ L2.Loc X.env.scope x ∧ (X.fn x = true ∨ X.env.scope.names.lookup x = some .local) := by
  simp only [locNB, Bool.and_eq_true, decide_eq_true_eq] at h
  exact ⟨by rw [C.eN]; exact h.2, C.st x h.1⟩
theorem CtxG.lt (C : CtxG N sc X) {i : Nat} {x : Str} (h : locNB N sc i x = true) {r : Env} {σ : L2.St} {G H : Hp} (s : StRel K r σ G H) (hl : σ.length = X.N.length) : i < r.length := by
  rw [s.len, hl]
  have := (C.store h).1
  exact Nat.lt_of_not_le fun w => by rw [List.getElem?_eq_none w] at this; cases this
theorem pg_ok (C : CtxG N sc X) : ∀ {g : Tg} {e : Expr}, tgB N sc g e = true → PG X e (gX X.K g)
  | .nm i, e, h => by
    cases e with
    | Name x p =>
      have h' : locNB N sc i x = true := h
      obtain ⟨h1, h2, h3⟩ := C.store h'
      refine (pg_name (i := i) C.nd h1 h2 h3).imp fun v σ H Q hl ⟨r, G, d, s, rv, q⟩ => ?_
      simp only [setTg] at q
      by_cases z : free (get r i) = true
      · rw [if_pos z] at q
        have hi := C.lt h' s hl
        exact q _ (Step.set s z hi rv) ⟨List.length_set, fun j hj => by rw [set_at _ _ _ _ (by rw [← s.len]; exact hi), if_neg (fun w => hj (by rw [w]; exact List.mem_singleton.mpr rfl))]⟩
      · rw [if_neg z] at q; exact q.elim
    | _ => simp [tgB] at h
  | .tp2 a b, e, h => by
    cases e with
    | Tuple l k p =>
      match l, h with
      | [x, y], h =>
        have h' : tgB N sc a x = true ∧ tgB N sc b y = true := by simpa [tgB] using h
        refine (pg_tup C.calm (pgs_cons (pg_ok C h'.1) (pgs_cons (pg_ok C h'.2) pgs_nil (asg_cons (tgB_star h'.2))) (asg_cons (tgB_star h'.1))) asg_len (asg_none (by simp [tgB_star h'.1, tgB_star h'.2]))).imp fun v σ H Q hl ⟨r, G, d, s, rv, q⟩ => ?_
        cases d with
        | tup l =>
          match l, rv, q with
          | [x1, x2], rv, q =>
            simp only [setTg] at q
            cases rv with
            | tup e1 rr =>
              cases rr with
              | cons r1 rr =>
                cases rr with
                | cons r2 rr =>
                  cases rr
                  refine ⟨_, _, rfl, SqT.of (s.sub _ _ e1), rfl, _, _, rfl, r, G, x1, s, r1, ?_⟩
                  cases f1 : setTg a x1 r with
                  | none => rw [f1] at q; exact q.elim
                  | some ra =>
                    rw [f1] at q
                    intro σ1 t1 u1
                    refine ⟨_, _, rfl, ra, G, x2, t1.st, r2, ?_⟩
                    dsimp only [Option.bind] at q
                    cases f2 : setTg b x2 ra with
                    | none => rw [f2] at q; exact q.elim
                    | some rb =>
                      rw [f2] at q
                      exact fun σ2 t2 u2 => ⟨rfl, q σ2 (t1.trans t2) (u1.trans u2)⟩
          | [], _, q => exact q.elim
          | [_], _, q => exact q.elim
          | _ :: _ :: _ :: _, _, q => exact q.elim
        | _ => exact q.elim
      | [], h => simp [tgB] at h
      | [_], h => simp [tgB] at h
      | _ :: _ :: _ :: _, h => simp [tgB] at h
    | _ => simp [tgB] at h
  | .tp3 a b c, e, h => by
    cases e with
    | Tuple l k p =>
      match l, h with
      | [x, y, z], h =>
        have h' : (tgB N sc a x = true ∧ tgB N sc b y = true) ∧ tgB N sc c z = true := by simpa [tgB] using h
        refine (pg_tup C.calm (pgs_cons (pg_ok C h'.1.1) (pgs_cons (pg_ok C h'.1.2) (pgs_cons (pg_ok C h'.2) pgs_nil (asg_cons (tgB_star h'.2))) (asg_cons (tgB_star h'.1.2))) (asg_cons (tgB_star h'.1.1))) asg_len (asg_none (by simp [tgB_star h'.1.1, tgB_star h'.1.2, tgB_star h'.2]))).imp fun v σ H Q hl ⟨r, G, d, s, rv, q⟩ => ?_
        cases d with
        | tup l =>
          match l, rv, q with
          | [x1, x2, x3], rv, q =>
            simp only [setTg] at q
            cases rv with
            | tup e1 rr =>
              cases rr with
              | cons r1 rr =>
                cases rr with
                | cons r2 rr =>
                  cases rr with
                  | cons r3 rr =>
                    cases rr
                    refine ⟨_, _, rfl, SqT.of (s.sub _ _ e1), rfl, _, _, rfl, r, G, x1, s, r1, ?_⟩
                    cases f1 : setTg a x1 r with
                    | none => rw [f1] at q; exact q.elim
                    | some ra =>
                      rw [f1] at q
                      intro σ1 t1 u1
                      refine ⟨_, _, rfl, ra, G, x2, t1.st, r2, ?_⟩
                      dsimp only [Option.bind] at q
                      cases f2 : setTg b x2 ra with
                      | none => rw [f2] at q; exact q.elim
                      | some rb =>
                        rw [f2] at q
                        dsimp only at q
                        intro σ2 t2 u2
                        refine ⟨_, _, rfl, rb, G, x3, t2.st, r3, ?_⟩
                        cases f3 : setTg c x3 rb with
                        | none => rw [f3] at q; exact q.elim
                        | some rc =>
                          rw [f3] at q
                          exact fun σ3 t3 u3 => ⟨rfl, q σ3 ((t1.trans t2).trans t3) (u1.trans (u2.trans u3))⟩
          | [], _, q => exact q.elim
          | [_], _, q => exact q.elim
          | [_, _], _, q => exact q.elim
          | _ :: _ :: _ :: _ :: _, _, q => exact q.elim
        | _ => exact q.elim
      | [], h => simp [tgB] at h
      | [_], h => simp [tgB] at h
      | [_, _], h => simp [tgB] at h
      | _ :: _ :: _ :: _ :: _, h => simp [tgB] at h
    | _ => simp [tgB] at h
end

/-! ### locks -/
section
variable {K : PySem.W.Frag} {r r' : Env} {σ σ' : L2.St} {G G' H H' : Hp} {i : Nat} {b : Bool} {d : D}
theorem isO_lock {l : Option Nat} (j : Nat) : isO (get (lockW r l) j) = isO (get r j) := by
  cases l with
  | none => rfl
  | some i =>
    simp only [lockW]
    cases q : get r i with
    | ow b d =>
      have hi : i < r.length := get_lt (by rw [q]; intro z; cases z)
      show isO (get (put r i (.lk b d)) j) = _
      rw [get_put _ _ _ _ hi]
      by_cases z : j = i
      · rw [if_pos z, z, q]; rfl
      · rw [if_neg z]
    | _ => rfl
theorem StRel.lock (s : StRel K r σ G H) (l : Option Nat) : StRel K (lockW r l) σ G H := by
  refine ⟨?_, s.sub, fun j => ?_, fun j k p hj hk => s.inj j k p (by rw [isO_lock] at hj; exact hj) (by rw [isO_lock] at hk; exact hk)⟩
  · cases l with
    | none => exact s.len
    | some i =>
      simp only [lockW]
      cases get r i with
      | ow b d => exact (put_len _ _ _).trans s.len
      | _ => exact s.len
  · have h := s.sl j
    cases l with
    | none => exact h
    | some i =>
      simp only [lockW]
      cases q : get r i with
      | ow b d =>
        have hi : i < r.length := get_lt (by rw [q]; intro z; cases z)
        show SlRel K G H σ[j]? (get (CW.put r i (.lk b d)) j)
        rw [get_put _ _ _ _ hi]
        by_cases z : j = i
        · rw [if_pos z]; subst z; rw [q] at h; exact h
        · rw [if_neg z]; exact h
      | _ => exact h
theorem isO_unlock {l : Option Nat} (j : Nat) : isO (get (unlockW r l) j) = isO (get r j) := by
  cases l with
  | none => rfl
  | some i =>
    simp only [unlockW]
    cases q : get r i with
    | lk b d =>
      have hi : i < r.length := get_lt (by rw [q]; intro z; cases z)
      show isO (get (put r i (.ow b d)) j) = _
      rw [get_put _ _ _ _ hi]
      by_cases z : j = i
      · rw [if_pos z, z, q]; rfl
      · rw [if_neg z]
    | _ => rfl
theorem StRel.unlock (s : StRel K r σ G H) (l : Option Nat) : StRel K (unlockW r l) σ G H := by
  refine ⟨?_, s.sub, fun j => ?_, fun j k p hj hk => s.inj j k p (by rw [isO_unlock] at hj; exact hj) (by rw [isO_unlock] at hk; exact hk)⟩
  · cases l with
    | none => exact s.len
    | some i =>
      simp only [unlockW]
      cases get r i with
      | lk b d => exact (put_len _ _ _).trans s.len
      | _ => exact s.len
  · have h := s.sl j
    cases l with
    | none => exact h
    | some i =>
      simp only [unlockW]
      cases q : get r i with
      | lk b d =>
        have hi : i < r.length := get_lt (by rw [q]; intro z; cases z)
        show SlRel K G H σ[j]? (get (CW.put r i (.ow b d)) j)
        rw [get_put _ _ _ _ hi]
        by_cases z : j = i
        · rw [if_pos z]; subst z; rw [q] at h; exact h
        · rw [if_neg z]; exact h
      | _ => exact h
/-- what was locked is free again -/
theorem Step.unlock {l : Option Nat} (h : Step K (lockW r l) σ G H r' σ' G' H') (hl : ∀ i, l = some i → ∃ b d, get r i = .ow b d) : Step K r σ G H (unlockW r' l) σ' G' H' := by
  cases l with
  | none => exact h
  | some i =>
    obtain ⟨b, d, q⟩ := hl i rfl
    have hi : i < r.length := get_lt (by rw [q]; intro z; cases z)
    have el : lockW r (some i) = put r i (.lk b d) := by simp only [lockW, q]
    rw [el] at h
    have gi : ∀ j, get (put r i (.lk b d)) j = if j = i then .lk b d else get r j := fun j => get_put _ _ _ _ hi
    obtain ⟨ei, qi⟩ := h.lock i b d (by rw [gi, if_pos rfl])
    have hi' : i < r'.length := get_lt (by rw [qi]; intro z; cases z)
    have eu : unlockW r' (some i) = put r' i (.ow b d) := by simp only [unlockW, qi]
    have st := h.st.unlock (some i)
    rw [eu] at st ⊢
    have gu : ∀ j, get (put r' i (.ow b d)) j = if j = i then .ow b d else get r' j := fun j => get_put _ _ _ _ hi'
    refine ⟨st, h.ext, h.live, fun a ha no => h.frame a ha fun ⟨j, c, x, g, e⟩ => ?_, fun p ⟨j, c, x, g, e⟩ => ?_, fun p ⟨j, g, e⟩ => ?_, fun j x g => ?_, fun j c x g => ?_⟩
    · rw [gi] at g
      by_cases z : j = i
      · rw [if_pos z] at g; cases g
      · rw [if_neg z] at g; exact no ⟨j, c, x, g, e⟩
    · rw [gu] at g
      by_cases z : j = i
      · subst z
        rw [ei] at e
        exact .inl ⟨j, b, d, q, e⟩
      · rw [if_neg z] at g
        rcases h.own p ⟨j, c, x, g, e⟩ with ⟨k, c', x', g', e'⟩ | w
        · rw [gi] at g'
          by_cases z' : k = i
          · rw [if_pos z'] at g'; cases g'
          · rw [if_neg z'] at g'; exact .inl ⟨k, c', x', g', e'⟩
        · exact .inr w
    · rw [gu] at g
      by_cases z : j = i
      · subst z
        rw [ei] at e
        exact .inl ⟨j, by rw [q]; rfl, e⟩
      · rw [if_neg z] at g
        rcases h.ownI p ⟨j, g, e⟩ with ⟨k, g', e'⟩ | w
        · rw [gi] at g'
          by_cases z' : k = i
          · exact .inl ⟨k, by rw [z', q]; rfl, e'⟩
          · rw [if_neg z'] at g'; exact .inl ⟨k, g', e'⟩
        · exact .inr w
    · by_cases z : j = i
      · subst z
        rw [q] at g
        injection g with g1 g2
        rw [gu, if_pos rfl]
        exact ⟨ei, d, by rw [g1]⟩
      · obtain ⟨e1, d1, e2⟩ := h.lent j x (by rw [gi, if_neg z]; exact g)
        exact ⟨e1, d1, by rw [gu, if_neg z]; exact e2⟩
    · by_cases z : j = i
      · subst z; rw [q] at g; cases g
      · obtain ⟨e1, e2⟩ := h.lock j c x (by rw [gi, if_neg z]; exact g)
        exact ⟨e1, by rw [gu, if_neg z]; exact e2⟩
end

/-! ### wiped slots -/
section
variable {K : PySem.W.Frag} {r r' : Env} {σ : L2.St} {G G' H H' : Hp}
theorem puts_len : ∀ (r : Env) (own : List Nat), (puts r own).length = r.length
  | r, [] => rfl
  | r, i :: is => (put_len _ _ _).trans (puts_len r is)
theorem get_puts : ∀ (r : Env) (own : List Nat) (j : Nat), get (puts r own) j = if j ∈ own then .un else get r j
  | r, [], j => by rw [if_neg (by simp)]; rfl
  | r, i :: is, j => by
    show get (put (puts r is) i .un) j = _
    by_cases hi : i < r.length
    · rw [get_put _ _ _ _ (by rw [puts_len]; exact hi), get_puts r is j]
      by_cases z : j = i
      · rw [if_pos z, if_pos (by rw [z]; exact List.mem_cons_self)]
      · rw [if_neg z]
        by_cases y : j ∈ is
        · rw [if_pos y, if_pos (List.mem_cons_of_mem _ y)]
        · rw [if_neg y, if_neg (fun w => (List.mem_cons.mp w).elim z y)]
    · rw [put_out _ _ _ (by rw [puts_len]; exact Nat.le_of_not_lt hi), get_puts r is j]
      by_cases y : j ∈ is
      · rw [if_pos y, if_pos (List.mem_cons_of_mem _ y)]
      · rw [if_neg y]
        by_cases z : j = i
        · rw [if_pos (by rw [z]; exact List.mem_cons_self), z, get_out _ _ (Nat.le_of_not_lt hi)]
        · rw [if_neg (fun w => (List.mem_cons.mp w).elim z y)]
theorem back_len : ∀ (r0 r : Env) (own : List Nat), (back r0 r own).length = r.length
  | r0, r, [] => rfl
  | r0, r, i :: is => (put_len _ _ _).trans (back_len r0 r is)
theorem get_back (r0 r : Env) (hl : r0.length = r.length) : ∀ (own : List Nat) (j : Nat), get (back r0 r own) j = if j ∈ own then get r0 j else get r j
  | [], j => by rw [if_neg (by simp)]; rfl
  | i :: is, j => by
    show get (put (back r0 r is) i (get r0 i)) j = _
    by_cases hi : i < r.length
    · rw [get_put _ _ _ _ (by rw [back_len]; exact hi), get_back r0 r hl is j]
      by_cases z : j = i
      · rw [if_pos z, if_pos (by rw [z]; exact List.mem_cons_self), z]
      · rw [if_neg z]
        by_cases y : j ∈ is
        · rw [if_pos y, if_pos (List.mem_cons_of_mem _ y)]
        · rw [if_neg y, if_neg (fun w => (List.mem_cons.mp w).elim z y)]
    · rw [put_out _ _ _ (by rw [back_len]; exact Nat.le_of_not_lt hi), get_back r0 r hl is j]
      by_cases y : j ∈ is
      · rw [if_pos y, if_pos (List.mem_cons_of_mem _ y)]
      · rw [if_neg y]
        by_cases z : j = i
        · rw [if_pos (by rw [z]; exact List.mem_cons_self), z, get_out r i (Nat.le_of_not_lt hi), get_out r0 i (by rw [hl]; exact Nat.le_of_not_lt hi)]
        · rw [if_neg (fun w => (List.mem_cons.mp w).elim z y)]
theorem StRel.wipe (s : StRel K r σ G H) (own : List Nat) : StRel K (puts r own) (wipe σ own) G H := by
  refine ⟨by rw [puts_len, wipe_length]; exact s.len, s.sub, fun j => ?_, fun j k p hj hk ej ek => ?_⟩
  · rw [get_puts]
    by_cases z : j ∈ own
    · rw [if_pos z]; trivial
    · rw [if_neg z, wipe_out z]; exact s.sl j
  · rw [get_puts] at hj hk
    by_cases z : j ∈ own
    · rw [if_pos z] at hj; cases hj
    · by_cases y : k ∈ own
      · rw [if_pos y] at hk; cases hk
      · rw [if_neg z] at hj
        rw [if_neg y] at hk
        rw [wipe_out z] at ej
        rw [wipe_out y] at ek
        exact s.inj j k p hj hk ej ek
/-- what was wiped comes back -/
theorem Step.unwipe {own : List Nat} (s : StRel K r σ G H) (h : Step K (puts r own) (wipe σ own) G H r' (wipe σ own) G' H') : Step K r σ G H (back r r' own) σ G' H' := by
  have hl : r.length = r'.length := by rw [h.st.len, wipe_length]; exact s.len
  have gb := fun j => get_back r r' hl own j
  have notO : ∀ j p, j ∈ own → isO (get r j) = true → σ[j]? = some (some (.ref p)) → ¬ OwI (puts r own) (L2.wipe σ own) p := fun j p hj hi e ⟨k, g, e'⟩ => by
    rw [get_puts] at g
    by_cases z : k ∈ own
    · rw [if_pos z] at g; cases g
    · rw [if_neg z] at g
      rw [wipe_out z] at e'
      have : k = j := s.inj k j p g hi e' e
      subst this
      exact z hj
  have there : ∀ j p, isO (get r j) = true → σ[j]? = some (some (.ref p)) → H p ≠ none := fun j p hi e => by
    have := s.sl j
    cases q : get r j with
    | un => rw [q] at hi; cases hi
    | va d => rw [q] at hi; cases hi
    | ow b d =>
      rw [q] at this
      obtain ⟨a, o, e1, e2, _⟩ := this
      rw [e1] at e
      injection e with e; injection e with e; injection e with e
      subst e; rw [e2]; intro z; cases z
    | lk b d =>
      rw [q] at this
      obtain ⟨a, o, e1, e2, _⟩ := this
      rw [e1] at e
      injection e with e; injection e with e; injection e with e
      subst e; rw [e2]; intro z; cases z
  refine ⟨⟨by rw [back_len, ← hl]; exact s.len, h.st.sub, fun j => ?_, fun j k p hj hk ej ek => ?_⟩, h.ext, h.live, fun a ha no => h.frame a ha fun ⟨j, c, x, g, e⟩ => ?_, fun p ⟨j, c, x, g, e⟩ => ?_, fun p ⟨j, g, e⟩ => ?_, fun j x g => ⟨rfl, ?_⟩, fun j c x g => ⟨rfl, ?_⟩⟩
  · rw [gb]
    by_cases z : j ∈ own
    · rw [if_pos z]
      have hs := s.sl j
      cases q : get r j with
      | un => trivial
      | va d => rw [q] at hs; obtain ⟨x, e, m⟩ := hs; exact ⟨x, e, m.mono h.ext⟩
      | ow b d =>
        rw [q] at hs; obtain ⟨a, ob, e, m, g, t⟩ := hs
        obtain ⟨f1, f2⟩ := h.frame a (by rw [m]; intro z; cases z) (fun o => notO j a z (by rw [q]; rfl) e o.i)
        exact ⟨a, ob, e, f1.trans m, f2 g, t.mono h.ext⟩
      | lk b d =>
        rw [q] at hs; obtain ⟨a, ob, e, m, g, t⟩ := hs
        obtain ⟨f1, f2⟩ := h.frame a (by rw [m]; intro z; cases z) (fun o => notO j a z (by rw [q]; rfl) e o.i)
        exact ⟨a, ob, e, f1.trans m, f2 g, t.mono h.ext⟩
    · rw [if_neg z]
      have := h.st.sl j
      rw [wipe_out z] at this
      exact this
  · rw [gb] at hj hk
    have mixed : ∀ {j k : Nat}, j ∈ own → k ∉ own → isO (get r j) = true → isO (get r' k) = true → σ[j]? = some (some (.ref p)) → σ[k]? = some (some (.ref p)) → False := fun {j k} z y hj hk ej ek => by
      rcases h.ownI p ⟨k, hk, by rw [wipe_out y]; exact ek⟩ with w | w
      · exact notO j p z hj ej w
      · exact there j p hj ej w
    by_cases z : j ∈ own
    · rw [if_pos z] at hj
      by_cases y : k ∈ own
      · rw [if_pos y] at hk; exact s.inj j k p hj hk ej ek
      · rw [if_neg y] at hk; exact (mixed z y hj hk ej ek).elim
    · rw [if_neg z] at hj
      by_cases y : k ∈ own
      · rw [if_pos y] at hk; exact (mixed y z hk hj ek ej).elim
      · rw [if_neg y] at hk
        exact h.st.inj j k p hj hk (by rw [wipe_out z]; exact ej) (by rw [wipe_out y]; exact ek)
  · rw [get_puts] at g
    by_cases z : j ∈ own
    · rw [if_pos z] at g; cases g
    · rw [if_neg z] at g; rw [wipe_out z] at e; exact no ⟨j, c, x, g, e⟩
  · rw [gb] at g
    by_cases z : j ∈ own
    · rw [if_pos z] at g; exact .inl ⟨j, c, x, g, e⟩
    · rw [if_neg z] at g
      rcases h.own p ⟨j, c, x, g, by rw [wipe_out z]; exact e⟩ with ⟨k, c', x', g', e'⟩ | w
      · rw [get_puts] at g'
        by_cases y : k ∈ own
        · rw [if_pos y] at g'; cases g'
        · rw [if_neg y] at g'; rw [wipe_out y] at e'; exact .inl ⟨k, c', x', g', e'⟩
      · exact .inr w
  · rw [gb] at g
    by_cases z : j ∈ own
    · rw [if_pos z] at g; exact .inl ⟨j, g, e⟩
    · rw [if_neg z] at g
      rcases h.ownI p ⟨j, g, by rw [wipe_out z]; exact e⟩ with ⟨k, g', e'⟩ | w
      · rw [get_puts] at g'
        by_cases y : k ∈ own
        · rw [if_pos y] at g'; cases g'
        · rw [if_neg y] at g'; rw [wipe_out y] at e'; exact .inl ⟨k, g', e'⟩
      · exact .inr w
  · rw [gb]
    by_cases z : j ∈ own
    · rw [if_pos z]; exact ⟨x, g⟩
    · rw [if_neg z]; exact (h.lent j x (by rw [get_puts, if_neg z]; exact g)).2
  · rw [gb]
    by_cases z : j ∈ own
    · rw [if_pos z]; exact g
    · rw [if_neg z]; exact (h.lock j c x (by rw [get_puts, if_neg z]; exact g)).2
end

/-! ### a thing left out of the heap -/
section
variable {K : PySem.W.Frag} {r r' : Env} {σ σ' : L2.St} {G G' H H' : Hp} {p : Addr} {o : HO}
theorem del_upd {H : Hp} {p : Addr} {o : HO} : del (upd H p o) p = del H p := by
  funext b
  by_cases z : b = p
  · rw [z, del_same, del_same]
  · rw [del_ne z, del_ne z, upd_ne z]
theorem del_none {H : Hp} {p : Addr} (h : H p = none) : del H p = H := by
  funext b
  by_cases z : b = p
  · rw [z, del_same, h]
  · rw [del_ne z]
theorem StRel.del (s : StRel K r σ G H) (g : G p = none) (nf : ∀ i, isO (get r i) = true → σ[i]? ≠ some (some (.ref p))) : StRel K r σ G (L2.del H p) := by
  refine ⟨s.len, fun b x e => by rw [del_ne (ne_of_none e g)]; exact s.sub b x e, fun j => ?_, s.inj⟩
  have h := s.sl j
  have nfj := nf j
  cases q : get r j with
  | un => trivial
  | va d => rw [q] at h; exact h
  | ow b d =>
    rw [q] at h nfj; obtain ⟨a, ob, e, m, t⟩ := h
    exact ⟨a, ob, e, by rw [del_ne (fun z => nfj rfl (by rw [e, z]))]; exact m, t⟩
  | lk b d =>
    rw [q] at h nfj; obtain ⟨a, ob, e, m, t⟩ := h
    exact ⟨a, ob, e, by rw [del_ne (fun z => nfj rfl (by rw [e, z]))]; exact m, t⟩
theorem StRel.undel (s : StRel K r σ G (L2.del H p)) : StRel K r σ G H := by
  have hs : Same (L2.del H p) H := fun b x e => by
    by_cases z : b = p
    · rw [z, del_same] at e; cases e
    · rw [del_ne z] at e; exact e
  refine ⟨s.len, s.sub.trans hs, fun j => ?_, s.inj⟩
  have h := s.sl j
  cases q : get r j with
  | un => trivial
  | va d => rw [q] at h; exact h
  | ow b d => rw [q] at h; obtain ⟨a, ob, e, m, t⟩ := h; exact ⟨a, ob, e, hs _ _ m, t⟩
  | lk b d => rw [q] at h; obtain ⟨a, ob, e, m, t⟩ := h; exact ⟨a, ob, e, hs _ _ m, t⟩
theorem nf_del (s : StRel K r σ G (L2.del H p)) : ∀ i, isO (get r i) = true → σ[i]? ≠ some (some (.ref p)) := fun i hi e => by
  cases q : get r i with
  | un => rw [q] at hi; cases hi
  | va d => rw [q] at hi; cases hi
  | ow b d =>
    obtain ⟨a, o, e1, e2, _⟩ := s.owned q
    rw [e1] at e
    injection e with e; injection e with e; injection e with e
    subst e; rw [del_same] at e2; cases e2
  | lk b d =>
    obtain ⟨a, o, e1, e2, _⟩ := s.locked q
    rw [e1] at e
    injection e with e; injection e with e; injection e with e
    subst e; rw [del_same] at e2; cases e2
/-- a step that does not know of p -/
theorem Step.del (h : Step K r σ G H r' σ' G' H') (s : StRel K r σ G (L2.del H p)) (hp : H p ≠ none) (g : G p = none) : Step K r σ G (L2.del H p) r' σ' G' (L2.del H' p) ∧ H' p = H p ∧ G' p = none := by
  have no : ¬ OwI r σ p := fun ⟨i, hi, e⟩ => nf_del s i hi e
  obtain ⟨f1, f2⟩ := h.frame p hp (fun o => no o.i)
  have nf' : ∀ i, isO (get r' i) = true → σ'[i]? ≠ some (some (.ref p)) := fun i hi e => (h.ownI p ⟨i, hi, e⟩).elim no hp
  have lift : ∀ a, H a = none → L2.del H p a = none := fun a z => by
    by_cases y : a = p
    · rw [y, del_same]
    · rw [del_ne y]; exact z
  refine ⟨⟨h.st.del (f2 g) nf', h.ext, fun a ha => ?_, fun a ha noa => ?_, fun a oa => (h.own a oa).imp id (lift a), fun a oa => (h.ownI a oa).imp id (lift a), h.lent, h.lock⟩, f1, f2 g⟩
  · have y : a ≠ p := fun y => ha (by rw [y, del_same])
    rw [del_ne y] at ha ⊢; exact h.live a ha
  · have y : a ≠ p := fun y => ha (by rw [y, del_same])
    rw [del_ne y] at ha
    rw [del_ne y, del_ne y]; exact h.frame a ha noa
/-- p was laid meanwhile -/
theorem Step.undel (h : Step K r σ G H r' σ' G' (L2.del H' p)) (hp : H p = none) : Step K r σ G H r' σ' G' H' := by
  have d : ∀ a, H a ≠ none → L2.del H' p a = H' a := fun a ha => del_ne (fun y => ha (by rw [y]; exact hp))
  exact ⟨h.st.undel, h.ext, fun a ha => by rw [← d a ha]; exact h.live a ha, fun a ha no => by rw [← d a ha]; exact h.frame a ha no, h.own, h.ownI, h.lent, h.lock⟩
end
end CW

set_option Elab.async false
set_option linter.all false
set_option maxRecDepth 100000
/-! enumerate and zip over lists and tuples in any mix. -/
namespace CW
open PySem PySem.Spec PyProof.Rows L2

def SqK (tp : Bool) (K : PySem.W.Frag) (H : Hp) (a : Addr) (xs : List V) : Prop := match tp with
  | true => SqT K H a xs
  | false => SqL K H a xs
def ItK (tp : Bool) (h : Heap) (it a : Addr) (i : Nat) : Prop := match tp with
  | true => h.IsTupleIter it a i
  | false => h.IsListIter it a i
def HsK (tp : Bool) (h : Heap) (a : Addr) (its : Array Value) : Prop := match tp with
  | true => h.IsTuple a its
  | false => h.IsList a its
def itObj (tp : Bool) (a : Addr) : Obj := match tp with
  | true => { cls := .type "tuple_iterator", data := .fields #[.ref a, .int 0 0] }
  | false => { cls := .type "list_iterator", data := .fields #[.ref a, .int 0 0] }
section
variable {X : Cx} {pins : List (Addr × Obj)} {σ : L2.St} {H : Hp} {s : Shared} {tp : Bool} {a it : Addr} {xs ys : List V} {i : Nat} {h h' : Heap} {its : Array Value}
theorem seqK (I : Inv X pins σ H s) (q : SqK tp X.K H a xs) : ∃ its : List Value, Vals xs its ∧ HsK tp s.heap a its.toArray := by
  cases tp with
  | true => obtain ⟨its, rv, p, _⟩ := I.tuple q; exact ⟨its, rv, show s.heap.IsTuple a its.toArray from p⟩
  | false => obtain ⟨its, rv, p, _⟩ := I.list q; exact ⟨its, rv, p.isList⟩
theorem injK (I : Inv X pins σ H s) (q : SqK tp X.K H a xs) (q' : SqK tp X.K H a ys) : xs = ys := by
  cases tp with
  | true => exact I.tuple_inj q q'
  | false => exact I.list_inj q q'
theorem ItK.at (q : ItK tp h it a i) (k : ∀ o, h.get? it = some o → h'.get? it = some o) : ItK tp h' it a i := by
  cases tp with
  | true => exact Heap.IsTupleIter.at q k
  | false => exact Heap.IsListIter.at q k
theorem ItK.obj (q : ItK tp h it a i) : ∃ o, h.get? it = some o ∧ ∀ v, o.data ≠ .cell v := by
  cases tp with
  | true => obtain ⟨o, e, _, d⟩ := q; exact ⟨o, e, fun v q => by rw [d] at q; cases q⟩
  | false => obtain ⟨o, e, _, d⟩ := q; exact ⟨o, e, fun v q => by rw [d] at q; cases q⟩
theorem ItK.lt (q : ItK tp h it a i) : it < h.objs.size := by obtain ⟨o, e, _⟩ := q.obj; exact Heap.lt_size e
theorem HsK.lt (q : HsK tp h a its) : a < h.objs.size := by
  cases tp with
  | true => obtain ⟨o, e, _⟩ := q; exact Heap.lt_size e
  | false => obtain ⟨o, e, _⟩ := q; exact Heap.lt_size e
theorem drawsK {prog : Program} {w : World} {A : Around} (hh : A.handled = none) (tp : Bool) (it a : Addr) (hne : a ≠ it) (items : Array Value) :
    Draws prog w A it [it, a] items.size (fun i v => items[i]? = some v) (fun i h => ItK tp h it a i ∧ HsK tp h a items) := by
  cases tp with
  | true => exact Draws.tuple hh it a hne items
  | false => exact Draws.list hh it a hne items
theorem beginsK (tp : Bool) (a : Addr) (items : Array Value) : Begins (.ref a) (itObj tp a) fun h => HsK tp h a items := by
  cases tp with
  | true => exact begins_tuple a items
  | false => exact begins_list a items
theorem itObj_at (e : h.get? it = some (itObj tp a)) : ItK tp h it a 0 := by
  cases tp with
  | true => exact ⟨_, e, rfl, rfl⟩
  | false => exact ⟨_, e, rfl, rfl⟩
end

/-! ### enumerate -/
def IteK (K : PySem.W.Frag) (tp : Bool) (a : Addr) : L2.It :=
  ⟨fun i H => ∃ (xs : List V) (x : V), SqK tp K H a xs ∧ xs[i]? = some x, fun i H v H' => ∃ T x, v = .ref T ∧ H T = none ∧ H' = upd H T (.tup [.int (i : Nat), x]) ∧ ∀ xs, SqK tp K H a xs → xs[i]? = some x, fun i H => ∃ xs : List V, SqK tp K H a xs ∧ xs.length = i⟩
theorem turn_enumK {P : Program} {w : World} {K : PySem.W.Frag} {elts : List Expr} {kk : Nat} {tpos : Pos} (tp : Bool) (a e it : Addr) (hne : e ≠ it) (hae : e ≠ a) (hai : a ≠ it) :
    Turn P w K (.Tuple elts kk tpos) (IteK K tp a) [e, it] e (fun i h => (∃ old, IsEnum h e it ((i : Nat) : Int) old) ∧ ItK tp h it a i) where
  mem := by simp
  obj := fun i h st b hb => by
    obtain ⟨⟨old, he⟩, hi⟩ := st
    have e' : b = e ∨ b = it := by simpa using hb
    rcases e' with z | z
    · rw [z]; exact ⟨_, he, fun v q => nomatch q⟩
    · rw [z]; exact hi.obj
  keep := fun i h h' st k => let ⟨⟨old, he⟩, hi⟩ := st; ⟨⟨old, k e (by simp) _ he⟩, hi.at fun o q => k it (by simp) o q⟩
  item := by
    intro X hP hw hK hc i pins s σ H E I hf st hg
    subst hP hw hK
    obtain ⟨⟨old, he⟩, hit⟩ := st
    obtain ⟨xs, x, hq, hx⟩ := hg
    obtain ⟨its, rv, p⟩ := seqK I hq
    obtain ⟨u, hu, ru⟩ := rv.get hx
    have hel : e < s.heap.objs.size := Heap.lt_size he
    have hil : it < s.heap.objs.size := hit.lt
    have hlt : i < its.toArray.size := by
      have := (List.getElem?_eq_some_iff.mp hu).1
      simpa using this
    refine wpAny_pyNext_enum_itemD (drawsK (A := X.A.in1) (I.ok.hd hc) tp it a hai its.toArray) he ⟨hit, p⟩ hlt hne (by simp [hne, hae]) fun x1 h' tk hP1 ho hst' hT hsz hk => ?_
    obtain rfl : u = x1 := by
      have h1 : its[i]? = some x1 := by simpa using hP1
      rw [hu] at h1; exact Option.some.inj h1
    refine ⟨_, rfl, wpAny_letOwnedTupleGo_enum (s := { s with heap := h', toks := tk + 1 }) ho fun h'' he' sb => ?_⟩
    have hT2 : h''.get? s.heap.objs.size = some { cls := .type "tuple", data := .seq #[.int i tk, u] } := (sb.2 _ (Nat.ne_of_gt hel)).trans hT
    have new : ObjOk X.prog X.w (upd H s.heap.objs.size (.tup [.int (i : Nat), x])) h'' s.heap.objs.size (.tup [.int (i : Nat), x]) :=
      ⟨by show 2 ≤ sizeLine; decide, [.int i tk, u], .cons ⟨_, rfl⟩ (.cons ru .nil), ⟨_, hT2, rfl, _, rfl⟩⟩
    have I1 : Inv X pins σ (upd H s.heap.objs.size (.tup [.int (i : Nat), x])) { s with heap := h'', toks := tk + 1 } :=
      I.turnedNew (ch := [e, it]) (fun b ob hb q => (sb.2 b (fun z => hb (by simp [z]))).trans (hk b ob (fun z => hb (by simp [z])) (fun z => hb (by simp [z])) q)) hf (Nat.le_refl _) new
    refine ⟨.ref s.heap.objs.size, _, I1, rfl, ⟨_, x, rfl, I.hok.fresh (Nat.le_refl _), rfl, fun ys hy => by rw [injK I hy hq]; exact hx⟩, ⟨⟨u, ?_⟩, hst'.1.at fun o q => (sb.2 it (Ne.symm hne)).trans q⟩, fun b hb => ?_⟩
    · have e1 : ((i + 1 : Nat) : Int) = (i : Int) + 1 := by omega
      rw [e1]; exact he'
    · have hb' : b < s.heap.objs.size := by
        have e' : b = e ∨ b = it := by simpa using hb
        rcases e' with z | z
        · rw [z]; exact hel
        · rw [z]; exact hil
      rw [upd_ne (Nat.ne_of_lt hb')]
      exact (hf b hb).1
  done := by
    intro X hP hw hK hc i pins s σ H E I hf st hg
    subst hP hw hK
    obtain ⟨⟨old, he⟩, hit⟩ := st
    obtain ⟨xs, hq, hx⟩ := hg
    obtain ⟨its, rv, p⟩ := seqK I hq
    obtain ⟨f0, f1, f2, f3, f4, f5⟩ := hf it (by simp)
    have hl := rv.length
    have hi : i = its.toArray.size := by rw [List.size_toArray]; omega
    subst hi
    exact wpAny_pyNext_enum_endD (drawsK (A := X.A.in1) (I.ok.hd hc) tp it a hai its.toArray) he ⟨hit, p⟩ fun h' eb => ⟨rfl, I.turned (t' := s.toks) (fun b o hb q => eb b o hb q) f0 f1 f3 f4 f5⟩
  self := fun A i s Q E st h => let ⟨⟨_, he⟩, _⟩ := st; wpAny_pyIter_enum he h

theorem meets_enumerate_new1 {v : Value} {o : Obj} {H : Heap → Prop} (B : Begins v o H) :
    Meets (Builtin.«enumerate.__new__» ⟨[.type "enumerate", v], []⟩) (fun _ R s => H s.heap ∧
      R (.ok (.ret (.ref (s.heap.push o).objs.size)))
        { s with heap := (s.heap.push o).push { cls := .type "enumerate", data := .fields #[.none, .bool false, .ref s.heap.objs.size, rawInt 0, .none, .none] } }) :=
  .of_wp fun prog w A R s h => by
    obtain ⟨hp, g, d, tk, os⟩ := s; obtain ⟨h1, h⟩ := h
    have hsub := sub_enumerate
    have q1 : ∀ {A' : Around} {E : Value → Shared → Prop} {Q : Value → Shared → Prop}, Q (.ref hp.objs.size) ⟨(hp.push o), g, d, tk, os⟩ → wpAny (model prog w) A' (pyIter v) Q E ⟨hp, g, d, tk, os⟩ :=
      fun q => B.iter prog w _ _ ⟨hp, g, d, tk, os⟩ _ h1 q
    wp_walk
    refine wpAny_stack_any fun st => wpAny_pure ?_
    split
    · rename_i c _ _ _ _ _
      cases (c == Value.type "enumerate")
      · wp_walk using q1
        exact ⟨_, rfl, h⟩
      · wp_walk using q1
        exact ⟨_, rfl, h⟩
    · wp_walk using q1
      exact ⟨_, rfl, h⟩
section
variable {prog : Program} {w : World} {A : Around} {E : Value → Shared → Prop} {s : Shared}
theorem enum_begins1 {v : Value} {o : Obj} {H : Heap → Prop} {Q : Value → Shared → Prop} (B : Begins v o H) (h1 : H s.heap)
    (h : ∀ h', IsEnum h' (s.heap.objs.size + 1) s.heap.objs.size 0 .none → h'.get? s.heap.objs.size = some o → h'.objs.size = s.heap.objs.size + 2 →
      (∀ b o, s.heap.get? b = some o → h'.get? b = some o) → Q (.ref (s.heap.objs.size + 1)) { s with heap := h' }) :
    wpAny (model prog w) A (call (.type "enumerate") [v]) Q E s := by
  refine callType_new PySem.F.called_enumerate (by decide) (PySem.F.typeCall_enumerate_1 _) (PySem.F.newCall_enumerate_1 _) (fun obj => PySem.F.args_object_init_2 obj _) PySem.F.entry_enumerate_new
    (meets_enumerate_new1 B) ⟨h1, ?_⟩
  have hz : (s.heap.push o).objs.size = s.heap.objs.size + 1 := Heap.size_push ..
  show _ ∧ _
  rw [hz]
  have he : IsEnum ((s.heap.push o).push { cls := .type "enumerate", data := .fields #[.none, .bool false, .ref s.heap.objs.size, rawInt 0, .none, .none] }) (s.heap.objs.size + 1) s.heap.objs.size 0 .none := by
    have := Heap.get?_push_size (s.heap.push o) (o := { cls := .type "enumerate", data := .fields #[.none, .bool false, .ref s.heap.objs.size, rawInt 0, .none, .none] }) rfl
    rw [hz] at this; exact this
  refine ⟨⟨_, he, rfl⟩, h _ he (Heap.get?_push_of_some _ (Heap.get?_push_size _ B.free)) (by rw [Heap.size_push, hz]) fun b o x => Heap.get?_push_of_some _ (Heap.get?_push_of_some _ x)⟩
end
def iEnumK (K : PySem.W.Frag) (te : TE) : TI := fun σ H R => te σ H fun v H1 => ∃ tp a xs, v = .ref a ∧ SqK tp K H1 a xs ∧ R (IteK K tp a) H1
theorem pi_enumK {X : Cx} {e : Expr} {te : TE} {p pos tpos : Pos} {elts : List Expr} {kk : Nat} (hg : Gl X "enumerate") (hm : X.mg "enumerate" = none) (he : PE X e te) (hs : starEach [e] X.env = (false, eval e X.env) :: starEach [] X.env := by rfl) :
    PI X (.Tuple elts kk tpos) (.Call (.Name "enumerate" p) [e] [] pos) (iEnumK X.K te) := by
  refine ⟨fun pins s σ H R I h => ?_⟩
  refine Call_ (ld_blt I hg hm boot_enumerate (PyProof.Rows.callWith_type1 (PyProof.Rows.args_cons (thn (he.run pins s σ H _ I h) fun u s1 ⟨v, H1, I1, r1, q1⟩ => PyProof.Rows.args_nil ?_) hs) hs rfl))
  obtain ⟨tp, a, xs, ex, hq, q⟩ := q1
  subst ex
  obtain rfl : u = Value.ref a := r1
  obtain ⟨its, rv, p'⟩ := seqK I1 hq
  have hal : a < s1.heap.objs.size := p'.lt
  refine enum_begins1 (beginsK tp a its.toArray) p' fun h' he' hit hsz hk => wpAny_pyIter_enum he' ?_
  have I2 : Inv X pins σ H1 { s1 with heap := h' } := I1.kept (t' := s1.toks) hk
  refine ⟨s1.heap.objs.size + 1, [s1.heap.objs.size + 1, s1.heap.objs.size], _, _, H1, rfl, I2, turn_enumK tp a (s1.heap.objs.size + 1) s1.heap.objs.size (Nat.succ_ne_self _) (Nat.ne_of_gt (Nat.lt_succ_of_lt hal)) (Nat.ne_of_lt hal), ⟨⟨.none, he'⟩, itObj_at hit⟩, fun b hb => ?_, q⟩
  have e' : b = s1.heap.objs.size + 1 ∨ b = s1.heap.objs.size := by simpa using hb
  have hle : s1.heap.objs.size ≤ b := by
    rcases e' with z | z
    · rw [z]; exact Nat.le_add_right _ _
    · rw [z]; exact Nat.le_refl _
  exact I1.fpOk hle (I1.hok.fresh hle)

/-! ### zip -/
def ItzK (K : PySem.W.Frag) (t1 t2 : Bool) (a b : Addr) : L2.It :=
  ⟨fun i H => ∃ (xs ys : List V) (x y : V), SqK t1 K H a xs ∧ SqK t2 K H b ys ∧ xs[i]? = some x ∧ ys[i]? = some y,
    fun i H v H' => ∃ T x y, v = .ref T ∧ H T = none ∧ H' = upd H T (.tup [x, y]) ∧ (∀ xs, SqK t1 K H a xs → xs[i]? = some x) ∧ ∀ ys, SqK t2 K H b ys → ys[i]? = some y,
    fun i H => ∃ xs ys : List V, SqK t1 K H a xs ∧ SqK t2 K H b ys ∧ i = min xs.length ys.length⟩
theorem turn_zipK {P : Program} {w : World} {K : PySem.W.Frag} {elts : List Expr} {kk : Nat} {tpos : Pos} (t1 t2 : Bool) {a b z TI TO i1 i2 : Addr} (D : ZipSep2 z TI TO i1 i2 [i1, a] [i2, b]) (ha : a ≠ i1) (hb : b ≠ i2) :
    Turn P w K (.Tuple elts kk tpos) (ItzK K t1 t2 a b) [z, TI, TO, i1, i2] z (fun i h => IsZip h z TI TO .none ∧ IsTupOf2 h TI (.ref i1) (.ref i2) ∧ (∃ x y, IsTupOf2 h TO x y) ∧ ItK t1 h i1 a i ∧ ItK t2 h i2 b i) where
  mem := by simp
  obj := fun i h st c hc => by
    obtain ⟨hz, hTI, ⟨x, y, hTO⟩, h1, h2⟩ := st
    have e' : c = z ∨ c = TI ∨ c = TO ∨ c = i1 ∨ c = i2 := by simpa using hc
    rcases e' with q | q | q | q | q
    · rw [q]; exact ⟨_, hz, fun v q => nomatch q⟩
    · rw [q]; exact ⟨_, hTI, fun v q => nomatch q⟩
    · rw [q]; exact ⟨_, hTO, fun v q => nomatch q⟩
    · rw [q]; exact h1.obj
    · rw [q]; exact h2.obj
  keep := fun i h h' st k => by
    obtain ⟨hz, hTI, ⟨x, y, hTO⟩, h1, h2⟩ := st
    exact ⟨k z (by simp) _ hz, k TI (by simp) _ hTI, ⟨x, y, k TO (by simp) _ hTO⟩, h1.at fun o q => k i1 (by simp) o q, h2.at fun o q => k i2 (by simp) o q⟩
  item := by
    intro X hP hw hK hc i pins s σ H E I hf st hg
    subst hP hw hK
    obtain ⟨hz, hTI, ⟨x0, y0, hTO⟩, h1, h2⟩ := st
    obtain ⟨xs, ys, x, y, hqx, hqy, hx, hy⟩ := hg
    obtain ⟨its, rv, p⟩ := seqK I hqx
    obtain ⟨its2, rv2, p2⟩ := seqK I hqy
    obtain ⟨u, hu, ru⟩ := rv.get hx
    obtain ⟨u2, hu2, ru2⟩ := rv2.get hy
    have hzl : z < s.heap.objs.size := Heap.lt_size hz
    have hl1 : i < its.toArray.size := by
      have := (List.getElem?_eq_some_iff.mp hu).1
      simpa using this
    have hl2 : i < its2.toArray.size := by
      have := (List.getElem?_eq_some_iff.mp hu2).1
      simpa using this
    refine wpAny_pyNext_zipD2_item D (drawsK (A := X.A.in1) (I.ok.hd hc) t1 i1 a ha its.toArray) (drawsK (A := X.A.in1) (I.ok.hd hc) t2 i2 b hb its2.toArray) hz hTI hTO ⟨h1, p⟩ ⟨h2, p2⟩ hl1 hl2 fun x1 x2 h' tk y1 y2 z' TO' d1 d2 hT hsz hk => ?_
    obtain rfl : u = x1 := by
      have q : its[i]? = some x1 := by simpa using y1
      rw [hu] at q; exact Option.some.inj q
    obtain rfl : u2 = x2 := by
      have q : its2[i]? = some x2 := by simpa using y2
      rw [hu2] at q; exact Option.some.inj q
    refine ⟨_, rfl, wpAny_letOwnedTupleGo_zip (s := { s with heap := h', toks := tk }) z' fun h'' z'' sb => ?_⟩
    have hT2 : h''.get? s.heap.objs.size = some { cls := .type "tuple", data := .seq #[u, u2] } := (sb.2 _ (Nat.ne_of_gt hzl)).trans hT
    have new : ObjOk X.prog X.w (upd H s.heap.objs.size (.tup [x, y])) h'' s.heap.objs.size (.tup [x, y]) :=
      ⟨by show 2 ≤ sizeLine; decide, [u, u2], .cons ru (.cons ru2 .nil), ⟨_, hT2, rfl, _, rfl⟩⟩
    have I1 : Inv X pins σ (upd H s.heap.objs.size (.tup [x, y])) { s with heap := h'', toks := tk } :=
      I.turnedNew (t' := tk) (ch := [z, TI, TO, i1, i2]) (fun c o hb q => (sb.2 c (fun q' => hb (by simp [q']))).trans (hk c o (fun q' => hb (by simp [q'])) (fun q' => hb (by simp [q'])) (fun q' => hb (by simp [q'])) (fun q' => hb (by simp [q'])) q)) hf (Nat.le_refl _) new
    refine ⟨.ref s.heap.objs.size, _, I1, rfl, ⟨_, x, y, rfl, I.hok.fresh (Nat.le_refl _), rfl, fun l hl => by rw [injK I hl hqx]; exact hx, fun l hl => by rw [injK I hl hqy]; exact hy⟩, ⟨z'', ?_, ⟨u, u2, ?_⟩, ?_, ?_⟩, fun c hcm => ?_⟩
    · exact (sb.2 _ D.TIz).trans (hk _ _ D.TIz D.TITO D.TIi1 D.TIi2 hTI)
    · exact (sb.2 _ D.TOz).trans TO'
    · exact d1.1.at fun o q => (sb.2 _ (Ne.symm D.zi1)).trans q
    · exact d2.1.at fun o q => (sb.2 _ (Ne.symm D.zi2)).trans q
    · have hlt : c < s.heap.objs.size := by
        have e' : c = z ∨ c = TI ∨ c = TO ∨ c = i1 ∨ c = i2 := by simpa using hcm
        rcases e' with q | q | q | q | q
        · rw [q]; exact hzl
        · rw [q]; exact Heap.lt_size hTI
        · rw [q]; exact Heap.lt_size hTO
        · rw [q]; exact h1.lt
        · rw [q]; exact h2.lt
      rw [upd_ne (Nat.ne_of_lt hlt)]
      exact (hf c hcm).1
  done := by
    intro X hP hw hK hc i pins s σ H E I hf st hg
    subst hP hw hK
    obtain ⟨hz, hTI, ⟨x0, y0, hTO⟩, h1, h2⟩ := st
    obtain ⟨xs, ys, hqx, hqy, hend⟩ := hg
    obtain ⟨its, rv, p⟩ := seqK I hqx
    obtain ⟨its2, rv2, p2⟩ := seqK I hqy
    have l1 := rv.length
    have l2 := rv2.length
    exact wpAny_pyNext_zipD2_end D (drawsK (A := X.A.in1) (I.ok.hd hc) t1 i1 a ha its.toArray) (drawsK (A := X.A.in1) (I.ok.hd hc) t2 i2 b hb its2.toArray) hz hTI hTO ⟨h1, p⟩ ⟨h2, p2⟩ (by simp only [List.size_toArray]; omega) (by simp only [List.size_toArray]; omega) (by simp only [List.size_toArray]; omega) fun h' tk hk => ⟨rfl, I.turnedL (t' := tk) (ch := [z, TI, TO, i1, i2]) (fun c o hb q =>
      hk c o (fun q' => hb (by simp [q'])) (fun q' => hb (by simp [q'])) (fun q' => hb (by simp [q'])) (fun q' => hb (by simp [q'])) q) hf⟩
  self := fun A i s Q E st h => wpAny_pyIter_zip st.1 h
def iZipK (K : PySem.W.Frag) (ta : TA) : TI := fun σ H R => ta σ H fun vs H1 => ∃ t1 t2 a b xs ys, vs = [.ref a, .ref b] ∧ SqK t1 K H1 a xs ∧ SqK t2 K H1 b ys ∧ R (ItzK K t1 t2 a b) H1
theorem pi_zipK {X : Cx} {e e2 : Expr} {ta : TA} {p pos tpos : Pos} {elts : List Expr} {kk : Nat} (hg : Gl X "zip") (hm : X.mg "zip" = none) (ha : PA X [e, e2] ta)
    (hs : starEach [e, e2] X.env = (false, eval e X.env) :: starEach [e2] X.env := by rfl) (hpl : (backTo pos (starEach [e2] X.env)).any (·.1) = false := by rfl) :
    PI X (.Tuple elts kk tpos) (.Call (.Name "zip" p) [e, e2] [] pos) (iZipK X.K ta) := by
  refine ⟨fun pins s σ H R I h => ?_⟩
  refine Call_ (ld_blt I hg hm PyProof.Rows.boot_zip (PyProof.Rows.callWith_type1 (thn (ha.run pos pins s σ H _ I h) fun us s1 ⟨vs, H1, I1, r1, q1⟩ => ?_) hs hpl))
  obtain ⟨t1, t2, a, b, xs, ys, ex, hqx, hqy, q⟩ := q1
  subst ex
  cases r1 with
  | cons r rr =>
    cases rr with
    | cons r' rr =>
      cases rr
      cases r
      cases r'
      obtain ⟨its, rv, p1⟩ := seqK I1 hqx
      obtain ⟨its2, rv2, p2⟩ := seqK I1 hqy
      refine zip_begins2 (beginsK t1 a its.toArray) (beginsK t2 b its2.toArray) p1 p2 fun h' hz hTI hTO h1 h2 hsz hk => wpAny_pyIter_zip hz ?_
      have I2 : Inv X pins σ H1 { s1 with heap := h' } := I1.kept (t' := s1.toks) hk
      refine ⟨s1.heap.objs.size + 4, [s1.heap.objs.size + 4, s1.heap.objs.size + 2, s1.heap.objs.size + 3, s1.heap.objs.size, s1.heap.objs.size + 1], _, _, H1, rfl, I2, turn_zipK t1 t2 (zip_sep2 (fp1 := [a]) (fp2 := [b]) (fun c hc => by rw [List.mem_singleton.mp hc]; exact p1.lt) (fun c hc => by rw [List.mem_singleton.mp hc]; exact p2.lt)) (Nat.ne_of_lt p1.lt) (Nat.ne_of_lt (Nat.lt_succ_of_lt p2.lt)), ⟨hz, hTI, ⟨_, _, hTO⟩, itObj_at h1, itObj_at h2⟩, fun c hcm => ?_, q⟩
      have e' : c = s1.heap.objs.size + 4 ∨ c = s1.heap.objs.size + 2 ∨ c = s1.heap.objs.size + 3 ∨ c = s1.heap.objs.size ∨ c = s1.heap.objs.size + 1 := by simpa using hcm
      have hle : s1.heap.objs.size ≤ c := by
        rcases e' with z | z | z | z | z
        · rw [z]; exact Nat.le_add_right _ _
        · rw [z]; exact Nat.le_add_right _ _
        · rw [z]; exact Nat.le_add_right _ _
        · rw [z]; exact Nat.le_refl _
        · rw [z]; exact Nat.le_add_right _ _
      exact I1.fpOk hle (I1.hok.fresh hle)
end CW

set_option Elab.async false
set_option linter.all false
set_option maxRecDepth 100000
/-! What is walked. -/
namespace CW
open PySem PySem.Spec PyProof.Rows L2

def YRel (K : PySem.W.Frag) (G : Hp) (v : V) (d : D) (H H' : Hp) : Prop :=
  (H' = H ∧ Rep K G v d) ∨ ∃ T vs ds, v = .ref T ∧ H T = none ∧ H' = upd H T (.tup vs) ∧ Reps K G vs ds ∧ d = .tup ds
def LkOk (lk : Option (Addr × List V)) (H : Hp) : Prop := ∀ p vs, lk = some (p, vs) → H p = some (.lst vs)
structure WkRel (K : PySem.W.Frag) (items : List D) (J : L2.It) (G : Hp) (lk : Option (Addr × List V)) : Prop where
  go : ∀ H, Same G H → LkOk lk H → ∀ i d, items[i]? = some d → J.go i H ∧ ∀ v H', J.yld i H v H' → YRel K G v d H H'
  stop : ∀ H, Same G H → LkOk lk H → J.stop items.length H
def LkRel (r : Env) (σ : L2.St) (H : Hp) : Option Nat → Option (Addr × List V) → Prop
  | none, lk => lk = none
  | some i, lk => ∃ b d p vs, get r i = .ow b d ∧ σ[i]? = some (some (.ref p)) ∧ H p = some (.lst vs) ∧ lk = some (p, vs)
def rI (K : PySem.W.Frag) : Rl L2.It Wk := fun _ σ r' G' H' J w => ∃ lk, LkRel r' σ H' w.lock lk ∧ WkRel K w.items J G' lk
theorem rmI {K : PySem.W.Frag} : RM (rI K) := fun _ _ _ _ _ _ _ _ _ h => h

theorem _root_.L2.PI.imp {X : Cx} {tg e : Expr} {t t' : TI} (h : PI X tg e t) (i : ∀ σ H R, t' σ H R → t σ H R) : PI X tg e t' := ⟨fun pins s σ H R I q => h.run pins s σ H R I (i σ H R q)⟩
theorem _root_.L2.PI.or {X : Cx} {tg e : Expr} {t t' : TI} (h : PI X tg e t) (h' : PI X tg e t') : PI X tg e (fun σ H R => t σ H R ∨ t' σ H R) := ⟨fun pins s σ H R I q => q.elim (h.run pins s σ H R I) (h'.run pins s σ H R I)⟩

/-! ### sequences as they are walked -/
section
variable {K : PySem.W.Frag} {G H : Hp} {a b : Addr} {xs ys vs : List V} {l m ds : List D} {d : D} {i : Nat}
theorem zipD_at : ∀ {l m : List D} {i : Nat} {d : D}, (zipD l m)[i]? = some d → ∃ x y, l[i]? = some x ∧ m[i]? = some y ∧ d = .tup [x, y]
  | [], _, _, _, h => by simp [zipD] at h
  | _ :: _, [], _, _, h => by simp [zipD] at h
  | x :: l, y :: m, 0, d, h => by
    simp only [zipD, List.getElem?_cons_zero, Option.some.injEq] at h
    exact ⟨x, y, rfl, rfl, h.symm⟩
  | x :: l, y :: m, i + 1, d, h => by
    simp only [zipD, List.getElem?_cons_succ] at h
    obtain ⟨u, v, a, b, c⟩ := zipD_at h
    exact ⟨u, v, by simpa using a, by simpa using b, c⟩
theorem zipD_len : ∀ (l m : List D), (zipD l m).length = min l.length m.length
  | [], m => by simp [zipD]
  | _ :: _, [] => by simp [zipD]
  | _ :: l, _ :: m => by simp only [zipD, List.length_cons, zipD_len l m]; omega
theorem enumD_at : ∀ {l : List D} {k i : Nat} {d : D}, (enumD k l)[i]? = some d → ∃ x, l[i]? = some x ∧ d = .tup [.int ((k + i : Nat) : Int), x]
  | [], _, _, _, h => by simp [enumD] at h
  | x :: l, k, 0, d, h => by
    simp only [enumD, List.getElem?_cons_zero, Option.some.injEq] at h
    exact ⟨x, rfl, h.symm⟩
  | x :: l, k, i + 1, d, h => by
    simp only [enumD, List.getElem?_cons_succ] at h
    obtain ⟨u, a, b⟩ := enumD_at h
    exact ⟨u, by simpa using a, by rw [b]; have : k + 1 + i = k + (i + 1) := by omega
                                   rw [this]⟩
theorem enumD_len : ∀ (l : List D) (k : Nat), (enumD k l).length = l.length
  | [], _ => rfl
  | _ :: l, k => by simp only [enumD, List.length_cons, enumD_len l (k + 1)]
theorem range_at {n : Nat} {f : Nat → D} (h : ((List.range n).map f)[i]? = some d) : i < n ∧ d = f i := by
  rw [List.getElem?_map] at h
  cases q : (List.range n)[i]? with
  | none => rw [q] at h; cases h
  | some k =>
    rw [q] at h
    obtain ⟨h1, h2⟩ := List.getElem?_eq_some_iff.mp q
    have h3 : i < n := by simpa using h1
    have h4 : i = k := by simpa using h2
    exact ⟨h3, by rw [h4]; exact (Option.some.inj h).symm⟩
/-- a frozen sequence of a kind -/
theorem seq_kind {v : V} (h : Rep K G v d) (e : seqOf d = some l) : ∃ tp a xs, v = .ref a ∧ Reps K G xs l ∧ ∀ H, Same G H → SqK tp K H a xs := by
  cases d with
  | lst z =>
    obtain rfl : z = l := Option.some.inj e
    cases h with
    | lst e1 r => exact ⟨false, _, _, rfl, r, fun H s => .inl (.inl (s _ _ e1))⟩
  | tup z =>
    obtain rfl : z = l := Option.some.inj e
    cases h with
    | tup e1 r => exact ⟨true, _, _, rfl, r, fun H s => SqT.of (s _ _ e1)⟩
  | _ => cases e
theorem wk_list (r : Reps K G xs l) {lk : Option (Addr × List V)} (q : ∀ H, Same G H → LkOk lk H → SqL K H a xs) : WkRel K l (Itl K a) G lk where
  go := fun H s k i d e => by
    obtain ⟨v, e1, e2⟩ := r.get e
    refine ⟨⟨xs, v, q H s k, e1⟩, fun u H' y => .inl ⟨y.1, ?_⟩⟩
    have := y.2 xs (q H s k)
    rw [e1] at this
    rw [← Option.some.inj this]; exact e2
  stop := fun H s k => ⟨xs, q H s k, by rw [r.length]; exact Nat.le_refl _⟩
theorem wk_tup (r : Reps K G xs l) (q : ∀ H, Same G H → SqT K H a xs) : WkRel K l (Itt K a) G none where
  go := fun H s k i d e => by
    obtain ⟨v, e1, e2⟩ := r.get e
    refine ⟨⟨xs, v, q H s, e1⟩, fun u H' y => .inl ⟨y.1, ?_⟩⟩
    have := y.2 xs (q H s)
    rw [e1] at this
    rw [← Option.some.inj this]; exact e2
  stop := fun H s k => ⟨xs, q H s, by rw [r.length]; exact Nat.le_refl _⟩
theorem wk_rng (a b : Int) : WkRel K (rangeL a b) (Itr a (b - a).toNat) G none where
  go := fun H s k i d e => by
    obtain ⟨h1, h2⟩ := range_at e
    exact ⟨h1, fun v H' y => .inl ⟨y.1, by rw [y.2, h2]; exact .int _⟩⟩
  stop := fun H s k => by
    show (b - a).toNat ≤ (rangeL a b).length
    unfold rangeL; rw [List.length_map, List.length_range]; exact Nat.le_refl _
theorem wk_rngC (a b : Int) : WkRel K (range3L a b (-1)) (Itc a (-1) (a - b).toNat) G none := by
  have e : turnsR a b (-1) = (a - b).toNat := by
    unfold turnsR
    rw [if_neg (by decide)]
    have e1 : (-(-1) : Int) = 1 := by decide
    have e2 : a - b - -1 - 1 = a - b := by omega
    rw [e1, e2, Int.ediv_one]
  constructor
  · intro H s k i d e1
    obtain ⟨h1, h2⟩ := range_at e1
    rw [e] at h1
    exact ⟨h1, fun v H' y => .inl ⟨y.1, by rw [y.2, h2]; exact .int _⟩⟩
  · intro H s k
    show (a - b).toNat ≤ (range3L a b (-1)).length
    unfold range3L; rw [List.length_map, List.length_range, e]; exact Nat.le_refl _
theorem wk_rev (r : Reps K G xs l) (q : ∀ H, Same G H → SqL K H a xs) : WkRel K l.reverse (Itv K a xs.length) G none where
  go := fun H s k i d e => by
    have hi : i < l.length := by
      have := (List.getElem?_eq_some_iff.mp e).1
      simpa using this
    rw [List.getElem?_reverse hi, ← r.length] at e
    obtain ⟨v, e1, e2⟩ := r.get e
    refine ⟨⟨by rw [r.length]; exact hi, xs, v, q H s, e1⟩, fun u H' y => .inl ⟨y.1, ?_⟩⟩
    have := y.2 xs (q H s)
    rw [e1] at this
    rw [← Option.some.inj this]; exact e2
  stop := fun H s k => by show xs.length ≤ _; rw [List.length_reverse, r.length]; exact Nat.le_refl _
theorem wk_revT (r : Reps K G xs l) (q : ∀ H, Same G H → SqT K H a xs) : WkRel K l.reverse (RT.ItvT K a xs.length) G none where
  go := fun H s k i d e => by
    have hi : i < l.length := by
      have := (List.getElem?_eq_some_iff.mp e).1
      simpa using this
    rw [List.getElem?_reverse hi, ← r.length] at e
    obtain ⟨v, e1, e2⟩ := r.get e
    refine ⟨⟨by rw [r.length]; exact hi, xs, v, q H s, e1⟩, fun u H' y => .inl ⟨y.1, ?_⟩⟩
    have := y.2 xs (q H s)
    rw [e1] at this
    rw [← Option.some.inj this]; exact e2
  stop := fun H s k => by show xs.length ≤ _; rw [List.length_reverse, r.length]; exact Nat.le_refl _
theorem wk_enum {tp : Bool} (r : Reps K G xs l) (q : ∀ H, Same G H → SqK tp K H a xs) : WkRel K (enumD 0 l) (IteK K tp a) G none where
  go := fun H s k i d e => by
    obtain ⟨x, e0, rfl⟩ := enumD_at e
    obtain ⟨v, e1, e2⟩ := r.get e0
    refine ⟨⟨xs, v, q H s, e1⟩, fun u H' ⟨T, y, h1, h2, h3, h4⟩ => .inr ⟨T, _, _, h1, h2, h3, ?_, rfl⟩⟩
    have := h4 xs (q H s)
    rw [e1] at this
    obtain rfl := Option.some.inj this
    rw [Nat.zero_add]
    exact .cons (.int _) (.cons e2 .nil)
  stop := fun H s k => ⟨xs, q H s, by rw [enumD_len, r.length]⟩
theorem wk_zip {t1 t2 : Bool} (r : Reps K G xs l) (q : ∀ H, Same G H → SqK t1 K H a xs) (r2 : Reps K G ys m) (q2 : ∀ H, Same G H → SqK t2 K H b ys) : WkRel K (zipD l m) (ItzK K t1 t2 a b) G none where
  go := fun H s k i d e => by
    obtain ⟨x, y, e0, f0, rfl⟩ := zipD_at e
    obtain ⟨v, e1, e2⟩ := r.get e0
    obtain ⟨u, f1, f2⟩ := r2.get f0
    refine ⟨⟨xs, ys, v, u, q H s, q2 H s, e1, f1⟩, fun z H' ⟨T, x', y', h1, h2, h3, h4, h5⟩ => .inr ⟨T, _, _, h1, h2, h3, ?_, rfl⟩⟩
    have a1 := h4 xs (q H s)
    have a2 := h5 ys (q2 H s)
    rw [e1] at a1
    rw [f1] at a2
    obtain rfl := Option.some.inj a1
    obtain rfl := Option.some.inj a2
    exact .cons e2 (.cons f2 .nil)
  stop := fun H s k => ⟨xs, ys, q H s, q2 H s, by rw [zipD_len, r.length, r2.length]⟩
end

/-! ### the rules -/
/-- a call of one of Python's own names -/
def bltCall (sc : Scope) (s : String) : Expr → Option (List Expr)
  | .Call (.Name x _) as [] _ => if bltB sc s x && as.all noStar then some as else none
  | _ => none
theorem bltCall_ok {sc : Scope} {s : String} {e : Expr} {as : List Expr} (h : bltCall sc s e = some as) : ∃ x p pos, e = .Call (.Name x p) as [] pos ∧ bltB sc s x = true ∧ as.all noStar = true := by
  unfold bltCall at h
  split at h
  · obtain ⟨z, e1⟩ := ifs h
    subst e1
    simp only [Bool.and_eq_true] at z
    exact ⟨_, _, _, rfl, z.1, z.2⟩
  · cases h
def isTupE : Expr → Bool
  | .Tuple _ _ _ => true
  | _ => false
section
variable {P : Program} {w : World} {K : PySem.W.Frag} {mg : Str → Option Value} {base : Heap} {N : List String} {sc : Scope} {n : Nat} {W : WX} {X : Cx} {e a b c tg : Expr} {fa fb : Env → Ev D} {i : Nat}
theorem PX.done {α β : Type} {K : PySem.W.Frag} {W : WX} {R : Rl β α} {r : Env} {σ : L2.St} {G H : Hp} {x : α} {Q : β → Hp → Prop} (h : PX K W R r σ G H (.ok x r) Q) (s : StRel K r σ G H) {b : β} (q : R H σ r G H b x) : Q b H := h b G H (.refl s) q
theorem snd_iseq (h : PE X e (tX X.K W (rF X.K) fa)) : PI X tg e (tX X.K W (rI X.K) (fun r => (fa r).bind fun d r1 => match d with
    | .lst l => .ok ⟨l, none⟩ r1
    | .tup l => .ok ⟨l, none⟩ r1
    | .scr l => .ok ⟨l.map .int, none⟩ r1
    | _ => .no)) := by
  refine ((pi_list (tg := tg) h).or (pi_tup (tg := tg) h)).imp fun σ H R ⟨r, G, s, q⟩ => ?_
  dsimp only at q
  cases z : fa r with
  | no => rw [z] at q; exact q.elim
  | ex x r1 => rw [z] at q; exact .inl ⟨r, G, s, by rw [z]; exact q⟩
  | ok d r1 =>
    rw [z] at q
    cases d with
    | lst l =>
      refine .inl ⟨r, G, s, ?_⟩
      rw [z]
      intro v G1 H1 t h3
      have h3' : Rep X.K G1 v (.lst l) := h3
      cases h3' with
      | lst e1 rr => exact ⟨_, rfl, ⟨_, .inl (.inl (t.st.sub _ _ e1))⟩, q _ _ _ t ⟨none, rfl, wk_list rr fun H s _ => Or.inl (Or.inl (s _ _ e1))⟩⟩
    | tup l =>
      refine .inr ⟨r, G, s, ?_⟩
      rw [z]
      intro v G1 H1 t h3
      have h3' : Rep X.K G1 v (.tup l) := h3
      cases h3' with
      | tup e1 rr => exact ⟨_, rfl, ⟨_, SqT.of (t.st.sub _ _ e1)⟩, q _ _ _ t ⟨none, rfl, wk_tup rr fun H s => SqT.of (s _ _ e1)⟩⟩
    | scr l =>
      refine .inl ⟨r, G, s, ?_⟩
      rw [z]
      intro v G1 H1 t h3
      have h3' : Rep X.K G1 v (.scr l) := h3
      cases h3' with
      | scr e1 => exact ⟨_, rfl, ⟨_, t.st.sub.seq e1⟩, q _ _ _ t ⟨none, rfl, wk_list Reps.ints fun H s _ => s.seq e1⟩⟩
    | _ => exact q.elim
/-- a name, its list may be owned: it is locked meanwhile -/
theorem snd_ilive {x : Str} {p : Pos} (h : PE X (.Name x p) (tVar i)) : PI X tg (.Name x p) (tX X.K W (rI X.K) (fun r => match get r i with
    | .va (.lst l) => .ok ⟨l, none⟩ r
    | .va (.tup l) => .ok ⟨l, none⟩ r
    | .ow _ (.lst l) => .ok ⟨l, some i⟩ r
    | _ => .no)) := by
  refine ((pi_list (tg := tg) h).or (pi_tup (tg := tg) h)).imp fun σ H R ⟨r, G, s, q⟩ => ?_
  dsimp only at q
  cases z : get r i with
  | un => rw [z] at q; exact q.elim
  | lk b d => rw [z] at q; exact q.elim
  | va d =>
    rw [z] at q
    obtain ⟨v, e0, h3⟩ := s.frozen z
    cases d with
    | lst l =>
      cases h3 with
      | lst e1 rr => exact .inl ⟨_, e0, _, rfl, ⟨_, .inl (.inl (s.sub _ _ e1))⟩, q.done s ⟨none, rfl, wk_list rr fun H s _ => Or.inl (Or.inl (s _ _ e1))⟩⟩
    | tup l =>
      cases h3 with
      | tup e1 rr => exact .inr ⟨_, e0, _, rfl, ⟨_, SqT.of (s.sub _ _ e1)⟩, q.done s ⟨none, rfl, wk_tup rr fun H s => SqT.of (s _ _ e1)⟩⟩
    | _ => exact q.elim
  | ow b d =>
    rw [z] at q
    obtain ⟨a, o, e0, e1, _, e3⟩ := s.owned z
    cases d with
    | lst l =>
      obtain ⟨vs, rfl, rr⟩ := e3
      exact .inl ⟨_, e0, _, rfl, ⟨_, .inl (.inl e1)⟩, q.done s ⟨some (a, vs), ⟨b, _, a, vs, z, e0, e1, rfl⟩, wk_list rr fun H _ k => .inl (.inl (k _ _ rfl))⟩⟩
    | _ => exact q.elim
theorem backTo_ok {es : List Expr} {pos : Pos} {env : PySem.Env} (h : es.all noStar = true) : (backTo pos (starEach es env)).any (·.1) = false := backTo_plain h
theorem snd_irng1 (C : CtxE P w K mg base N sc n W X) (F : Free mg) (h : bltCall sc "range" e = some [a]) (ha : PE X a (tX X.K W (rF X.K) fa)) :
    PI X tg e (tX X.K W (rI X.K) (fun r => (fa r).bind fun x r1 => match x with
    | .int j => if okR 0 j then .ok ⟨rangeL 0 j, none⟩ r1 else .no
    | _ => .no)) := by
  obtain ⟨x, p, pos, rfl, hb, hs⟩ := bltCall_ok h
  obtain ⟨g, m, rfl⟩ := C.blt F hb
  have er : enc "range" = "range" := by decide +kernel
  rw [er] at g m ⊢
  have h1 : noStar a = true := by simpa using hs
  refine (pi_range1 g m (pa_cons ha pa_nil (noStar_ok h1)) (noStar_ok h1)).imp fun σ H R ⟨r, G, s, q⟩ => ⟨r, G, s, q.seq rmI fun d r1 v G1 H1 t h3 w2 => ?_⟩
  cases d with
  | int j =>
    cases h3
    dsimp only at w2
    cases ok : okR 0 j with
    | false => rw [ok] at w2; exact w2.elim
    | true =>
      rw [ok, if_pos rfl] at w2
      obtain ⟨_, _, o1, o2⟩ := okR_of ok
      refine ⟨j, rfl, o1, o2, w2.done t.st ⟨none, rfl, ?_⟩⟩
      have := wk_rng (K := X.K) (G := G1) 0 j
      rw [Int.sub_zero] at this
      exact this
  | _ => exact w2.elim
theorem snd_irng2 (C : CtxE P w K mg base N sc n W X) (F : Free mg) (h : bltCall sc "range" e = some [a, b]) (ha : PE X a (tX X.K W (rF X.K) fa)) (hb : PE X b (tX X.K W (rF X.K) fb)) :
    PI X tg e (tX X.K W (rI X.K) (fun r => (fa r).bind fun x r1 => (fb r1).bind fun y r2 => match x, y with
    | .int i, .int j => if okR i j then .ok ⟨rangeL i j, none⟩ r2 else .no
    | _, _ => .no)) := by
  obtain ⟨x, p, pos, rfl, hb', hs⟩ := bltCall_ok h
  obtain ⟨g, m, rfl⟩ := C.blt F hb'
  have er : enc "range" = "range" := by decide +kernel
  rw [er] at g m ⊢
  have h1 : noStar a = true ∧ noStar b = true := by simpa using hs
  refine (pi_range2 g m (pa_cons ha (pa_cons hb pa_nil (noStar_ok h1.2)) (noStar_ok h1.1)) (by rw [noStar_ok h1.1, noStar_ok h1.2]; rfl) (noStar_ok h1.2)).imp fun σ H R ⟨r, G, s, q⟩ => ⟨r, G, s, q.seq rmI fun d r1 v G1 H1 t h3 w2 => ⟨r1, G1, t.st, w2.seq rmI fun d2 r2 u G2 H2 t2 h4 w3 => ?_⟩⟩
  cases d with
  | int i =>
    cases d2 with
    | int j =>
      cases h3; cases h4
      dsimp only at w3
      cases ok : okR i j with
      | false => rw [ok] at w3; exact w3.elim
      | true =>
        rw [ok, if_pos rfl] at w3
        exact ⟨i, j, rfl, okR_of ok, w3.done t2.st ⟨none, rfl, wk_rng i j⟩⟩
    | _ => exact w3.elim
  | _ => exact w3.elim
theorem snd_irng3 (C : CtxE P w K mg base N sc n W X) (F : Free mg) {z : Int} (h : bltCall sc "range" e = some [a, b, c]) (hz : z = -1) (hc : PE X c (tC (.int z))) (ha : PE X a (tX X.K W (rF X.K) fa)) (hb : PE X b (tX X.K W (rF X.K) fb)) :
    PI X tg e (tX X.K W (rI X.K) (fun r => (fa r).bind fun x r1 => (fb r1).bind fun y r2 => match x, y with
    | .int i, .int j => if okR i j then .ok ⟨range3L i j z, none⟩ r2 else .no
    | _, _ => .no)) := by
  subst hz
  obtain ⟨x, p, pos, rfl, hb', hs⟩ := bltCall_ok h
  obtain ⟨g, m, rfl⟩ := C.blt F hb'
  have er : enc "range" = "range" := by decide +kernel
  rw [er] at g m ⊢
  have h1 : noStar a = true ∧ noStar b = true ∧ noStar c = true := by simpa using hs
  refine (pi_range3 g m (pa_cons ha (pa_cons hb (pa_cons hc pa_nil (noStar_ok h1.2.2)) (noStar_ok h1.2.1)) (noStar_ok h1.1)) (noStar_ok h1.1) (backTo_ok (by simp [h1]))).imp fun σ H R ⟨r, G, s, q⟩ => ⟨r, G, s, q.seq rmI fun d r1 v G1 H1 t h3 w2 => ⟨r1, G1, t.st, w2.seq rmI fun d2 r2 u G2 H2 t2 h4 w3 => ?_⟩⟩
  cases d with
  | int i =>
    cases d2 with
    | int j =>
      cases h3; cases h4
      dsimp only at w3
      cases ok : okR i j with
      | false => rw [ok] at w3; exact w3.elim
      | true =>
        rw [ok, if_pos rfl] at w3
        obtain ⟨o1, o2, o3, o4⟩ := okR_of ok
        exact ⟨i, j, -1, _, rfl, RgC.neg o1 o2 o3 o4, w3.done t2.st ⟨none, rfl, wk_rngC i j⟩⟩
    | _ => exact w3.elim
  | _ => exact w3.elim
theorem snd_ienum (C : CtxE P w K mg base N sc n W X) (F : Free mg) (ht : isTupE tg = true) (h : bltCall sc "enumerate" e = some [a]) (ha : PE X a (tX X.K W (rF X.K) fa)) :
    PI X tg e (tX X.K W (rI X.K) (fun r => (fa r).bind fun d r1 => match seqOf d with
    | some l => .ok ⟨enumD 0 l, none⟩ r1
    | none => .no)) := by
  obtain ⟨x, p, pos, rfl, hb, hs⟩ := bltCall_ok h
  obtain ⟨g, m, rfl⟩ := C.blt F hb
  have er : enc "enumerate" = "enumerate" := by decide +kernel
  rw [er] at g m ⊢
  have h1 : noStar a = true := by simpa using hs
  cases tg with
  | Tuple es k tp =>
    refine (pi_enumK g m ha (noStar_ok h1)).imp fun σ H R ⟨r, G, s, q⟩ => ⟨r, G, s, q.seq rmI fun d r1 v G1 H1 t h3 w2 => ?_⟩
    cases z : seqOf d with
    | none => rw [z] at w2; exact w2.elim
    | some l =>
      rw [z] at w2
      obtain ⟨tp, a', xs, rfl, rr, hq⟩ := seq_kind h3 z
      exact ⟨tp, a', xs, rfl, hq _ t.st.sub, w2.done t.st ⟨none, rfl, wk_enum rr hq⟩⟩
  | _ => cases ht
theorem snd_izip (C : CtxE P w K mg base N sc n W X) (F : Free mg) (ht : isTupE tg = true) (h : bltCall sc "zip" e = some [a, b]) (ha : PE X a (tX X.K W (rF X.K) fa)) (hb : PE X b (tX X.K W (rF X.K) fb)) :
    PI X tg e (tX X.K W (rI X.K) (fun r => (fa r).bind fun x r1 => (fb r1).bind fun y r2 => match seqOf x, seqOf y with
    | some l, some m => .ok ⟨zipD l m, none⟩ r2
    | _, _ => .no)) := by
  obtain ⟨x, p, pos, rfl, hb', hs⟩ := bltCall_ok h
  obtain ⟨g, m, rfl⟩ := C.blt F hb'
  have er : enc "zip" = "zip" := by decide +kernel
  rw [er] at g m ⊢
  have h1 : noStar a = true ∧ noStar b = true := by simpa using hs
  cases tg with
  | Tuple es k tp =>
    refine (pi_zipK g m (pa_cons ha (pa_cons hb pa_nil (noStar_ok h1.2)) (noStar_ok h1.1)) (noStar_ok h1.1) (backTo_ok (by simp [h1]))).imp fun σ H R ⟨r, G, s, q⟩ => ⟨r, G, s, q.seq rmI fun d r1 v G1 H1 t h3 w2 => ⟨r1, G1, t.st, w2.seq rmI fun d2 r2 u G2 H2 t2 h4 w3 => ?_⟩⟩
    cases z : seqOf d with
    | none => rw [z] at w3; exact w3.elim
    | some l =>
      cases z2 : seqOf d2 with
      | none => rw [z, z2] at w3; exact w3.elim
      | some l2 =>
        rw [z, z2] at w3
        obtain ⟨t1, a', xs, rfl, rr, hq⟩ := seq_kind (h3.mono t2.ext) z
        obtain ⟨t2', b', ys, rfl, rr2, hq2⟩ := seq_kind h4 z2
        exact ⟨t1, t2', a', b', xs, ys, rfl, hq _ t2.st.sub, hq2 _ t2.st.sub, w3.done t2.st ⟨none, rfl, wk_zip rr hq rr2 hq2⟩⟩
  | _ => cases ht
theorem snd_irev (C : CtxE P w K mg base N sc n W X) (F : Free mg) (h : bltCall sc "reversed" e = some [a]) (ha : PE X a (tX X.K W (rF X.K) fa)) :
    PI X tg e (tX X.K W (rI X.K) (fun r => (fa r).bind fun d r1 => match seqOf d with
    | some l => .ok ⟨l.reverse, none⟩ r1
    | none => .no)) := by
  obtain ⟨x, p, pos, rfl, hb, hs⟩ := bltCall_ok h
  obtain ⟨g, m, rfl⟩ := C.blt F hb
  have er : enc "reversed" = "reversed" := by decide +kernel
  rw [er] at g m ⊢
  have h1 : noStar a = true := by simpa using hs
  refine (RT.pi_revA g m ha (noStar_ok h1)).imp fun σ H R ⟨r, G, s, q⟩ => ⟨r, G, s, q.seq rmI fun d r1 v G1 H1 t h3 w2 => ?_⟩
  cases z : seqOf d with
  | none => rw [z] at w2; exact w2.elim
  | some l =>
    rw [z] at w2
    obtain ⟨tp, a', xs, rfl, rr, hq⟩ := seq_kind h3 z
    cases tp with
    | true => exact ⟨a', xs, rfl, .inr ⟨hq _ t.st.sub, w2.done t.st ⟨none, rfl, wk_revT rr hq⟩⟩⟩
    | false => exact ⟨a', xs, rfl, .inl ⟨hq _ t.st.sub, w2.done t.st ⟨none, rfl, wk_rev rr hq⟩⟩⟩
end
end CW

set_option Elab.async false
set_option linter.all false
set_option maxRecDepth 100000
/-! List comprehensions. -/
namespace CW
open PySem PySem.Spec PyProof.Rows L2

/-! ### slots -/
theorem env_ext : ∀ {a b : Env}, a.length = b.length → (∀ i, get a i = get b i) → a = b
  | [], [], _, _ => rfl
  | [], _ :: _, h, _ => by cases h
  | _ :: _, [], h, _ => by cases h
  | x :: a, y :: b, h, e => by
    have h0 : x = y := e 0
    have h1 : a = b := env_ext (Nat.succ.inj h) fun i => e (i + 1)
    rw [h0, h1]
theorem back_puts {r0 r : Env} {own : List Nat} (hl : r0.length = r.length) : back r0 (puts r own) own = back r0 r own := by
  refine env_ext (by rw [back_len, back_len, puts_len]) fun i => ?_
  rw [get_back _ _ (by rw [puts_len]; exact hl), get_back _ _ hl]
  by_cases h : i ∈ own
  · rw [if_pos h, if_pos h]
  · rw [if_neg h, if_neg h, get_puts, if_neg h]
theorem wipe_in : ∀ {vs : List Nat} {σ : L2.St} {j : Nat}, j ∈ vs → j < σ.length → (wipe σ vs)[j]? = some none
  | v :: vs, σ, j, h, hj => by
    show ((wipe σ vs).set v none)[j]? = _
    rw [List.getElem?_set]
    by_cases e : v = j
    · rw [if_pos e, if_pos (by rw [wipe_length, e]; exact hj)]
    · rw [if_neg e]
      exact wipe_in ((List.mem_cons.mp h).resolve_left fun z => e z.symm) hj
theorem But.wipe {l own : List Nat} {σ σ' : L2.St} (h : But l σ σ') (hl : ∀ i ∈ l, i ∈ own) : L2.wipe σ' own = L2.wipe σ own := by
  apply List.ext_getElem?
  intro j
  by_cases hj : j ∈ own
  · by_cases hlt : j < σ.length
    · rw [wipe_in hj hlt, wipe_in hj (by rw [h.1]; exact hlt)]
    · have e1 := wipe_length σ own
      have e2 := wipe_length σ' own
      have e3 := h.1
      rw [List.getElem?_eq_none (by omega), List.getElem?_eq_none (by omega)]
  · rw [wipe_out hj, wipe_out hj]
    exact h.2 j fun z => hj (hl j z)
theorem wipe_wipe {own : List Nat} {σ : L2.St} : L2.wipe (L2.wipe σ own) own = L2.wipe σ own := by
  apply List.ext_getElem?
  intro j
  by_cases hj : j ∈ own
  · by_cases hlt : j < σ.length
    · rw [wipe_in hj hlt, wipe_in hj (by rw [wipe_length]; exact hlt)]
    · rw [List.getElem?_eq_none (by rw [wipe_length, wipe_length]; omega), List.getElem?_eq_none (by rw [wipe_length]; omega)]
  · rw [wipe_out hj]
/-- the turn's own slots are forgotten -/
theorem Step.rewipe {K : PySem.W.Frag} {r r' : Env} {σ σ' : L2.St} {G G' H H' : Hp} {own : List Nat} (h : Step K (puts r own) (L2.wipe σ own) G H r' σ' G' H') (hw : L2.wipe σ' own = L2.wipe σ own) : Step K (puts r own) (L2.wipe σ own) G H (puts r' own) (L2.wipe σ own) G' H' := by
  have at' : ∀ j, j ∉ own → σ'[j]? = (L2.wipe σ own)[j]? := fun j hj => by rw [← hw, wipe_out hj]
  refine ⟨by rw [← hw]; exact h.st.wipe own, h.ext, h.live, h.frame, fun p ⟨j, c, x, g, e⟩ => ?_, fun p ⟨j, g, e⟩ => ?_, fun i d g => ?_, fun i b d g => ?_⟩
  · rw [get_puts] at g
    by_cases z : j ∈ own
    · rw [if_pos z] at g; cases g
    · rw [if_neg z] at g
      exact h.own p ⟨j, c, x, g, by rw [at' j z]; exact e⟩
  · rw [get_puts] at g
    by_cases z : j ∈ own
    · rw [if_pos z] at g; cases g
    · rw [if_neg z] at g
      exact h.ownI p ⟨j, g, by rw [at' j z]; exact e⟩
  · obtain ⟨e1, d1, e2⟩ := h.lent i d g
    have z : i ∉ own := fun z => by rw [get_puts, if_pos z] at g; cases g
    exact ⟨rfl, d1, by rw [get_puts, if_neg z]; exact e2⟩
  · obtain ⟨e1, e2⟩ := h.lock i b d g
    have z : i ∉ own := fun z => by rw [get_puts, if_pos z] at g; cases g
    exact ⟨rfl, by rw [get_puts, if_neg z]; exact e2⟩
/-- a tuple of the walk is laid -/
theorem YRel.step {K : PySem.W.Frag} {r : Env} {σ : L2.St} {G0 G H H' : Hp} {v : V} {d : D} (s : StRel K r σ G H) (gs : Same G0 G) (y : YRel K G0 v d H H') : ∃ G', Step K r σ G H r σ G' H' ∧ Rep K G' v d := by
  rcases y with ⟨rfl, h⟩ | ⟨T, vs, ds, rfl, hn, rfl, rr, rfl⟩
  · exact ⟨G, .refl s, h.mono gs⟩
  · have t := Step.laid s hn (o := .tup vs)
    exact ⟨_, t, .tup upd_same (rr.mono (gs.trans t.ext))⟩
theorem LkRel.ok {K : PySem.W.Frag} {r r0 r' : Env} {σ σ0 σ' : L2.St} {G G' H H' : Hp} {l : Option Nat} {lk : Option (Addr × List V)} (h : LkRel r σ H l lk) (s : StRel K r σ G H) (sub : ∀ p, OwA r0 σ0 p → OwA (lockW r l) σ p) (t : Step K r0 σ0 G H r' σ' G' H') : LkOk lk H' := by
  cases l with
  | none => intro p vs e; rw [show lk = none from h] at e; cases e
  | some i =>
    obtain ⟨b, d, p, vs, g, e, hp, rfl⟩ := h
    intro p' vs' e'
    injection e' with e'
    injection e' with e1 e2
    subst e1; subst e2
    have hi : i < r.length := get_lt (by rw [g]; intro z; cases z)
    refine (t.frame p (by rw [hp]; intro z; cases z) fun o => ?_).1.trans hp
    obtain ⟨j, c, x, q, ej⟩ := sub p o
    have el : lockW r (some i) = put r i (.lk b d) := by simp only [lockW, g]
    rw [el, get_put _ _ _ _ hi] at q
    by_cases z : j = i
    · rw [if_pos z] at q; cases q
    · rw [if_neg z] at q
      exact z (s.inj j i p (by rw [q]; rfl) (by rw [g]; rfl) ej e)
theorem LkRel.own {r : Env} {σ : L2.St} {H : Hp} {l : Option Nat} {lk : Option (Addr × List V)} (h : LkRel r σ H l lk) : ∀ i, l = some i → ∃ b d, get r i = .ow b d := fun i e => by
  subst e
  obtain ⟨b, d, _, _, g, _⟩ := h
  exact ⟨b, d, g⟩

/-! ### a comprehension -/
theorem lc_noex (g : Tg) (own : List Nat) (fc : Env → Ev Bool) (fe : Env → Ev D) (x : Exn) (r : Env) : ∀ (ds : List D) (ρ : Env) (acc : List D), lcLoop g own fc fe ds ρ acc ≠ .ex x r
  | [], ρ, acc => by intro h; simp only [lcLoop] at h; cases h
  | d :: ds, ρ, acc => by
    intro h
    simp only [lcLoop] at h
    cases e1 : setTg g d (puts ρ own) with
    | none => rw [e1] at h; cases h
    | some ρ1 =>
      rw [e1] at h
      dsimp only at h
      cases e2 : fc ρ1 with
      | no => rw [e2] at h; cases h
      | ex y z => rw [e2] at h; cases h
      | ok b ρ2 =>
        rw [e2] at h
        cases b with
        | false => exact lc_noex g own fc fe x r ds ρ2 acc h
        | true =>
          dsimp only at h
          cases e3 : fe ρ2 with
          | no => rw [e3] at h; cases h
          | ex y z => rw [e3] at h; cases h
          | ok y ρ3 =>
            rw [e3] at h
            dsimp only at h
            by_cases hs : acc.length < SZ
            · rw [if_pos hs] at h; exact lc_noex g own fc fe x r ds ρ3 _ h
            · rw [if_neg hs] at h; cases h
def W0 : WX := fun _ _ _ _ => False
theorem takes0 (X : Cx) : Takes X W0 := fun _ _ ⟨_, _, _, _, _, _, _, _, _, _, _, _, _, _, _, _, w⟩ => w.elim
theorem PX.no0 {α β : Type} {K : PySem.W.Frag} {R : Rl β α} {r : Env} {σ : L2.St} {G H : Hp} {a : α} {r' : Env} {Q : β → Hp → Prop} (k : ∀ b G' H', Step K r σ G H r' σ G' H' → R H σ r' G' H' b a → Q b H') {m : Ev α} (e : m = .ok a r') : PX K W0 R r σ G H m Q := by
  subst e; exact k
/-- the turns -/
theorem lc_run {K : PySem.W.Frag} {g : Tg} {own : List Nat} {fc : Env → Ev Bool} {fe : Env → Ev D} {items : List D} {J : L2.It} {rl r2 : Env} {σ : L2.St} {Gl Hl : Hp} {lk : Option (Addr × List V)} {ds : List D} {D0 : Addr} {Q : VK}
    (s : StRel K rl σ Gl Hl) (wk : WkRel K items J Gl lk) (lkok : ∀ r' σ' G' H', Step K (puts rl own) (wipe σ own) Gl Hl r' σ' G' H' → LkOk lk H') (hD : Hl D0 = none) (ht : ∀ i ∈ tgs g, i ∈ own)
    (e : lcLoop g own fc fe items rl [] = .ok ds r2)
    (fin : ∀ G' H', Step K rl σ Gl Hl (back rl r2 own) σ G' H' → New K G' Hl H' (.ref D0) (.lst ds) → (∀ i, isO (get (back rl r2 own) i) = true → σ[i]? ≠ some (some (.ref D0))) → Q (.ref D0) H') :
    ∃ W : Nat → Nat → Hp → Prop, (∃ m, W 0 m (upd Hl D0 (.lst []))) ∧ ∀ i m H, W i m H →
      (J.stop i H ∧ Q (.ref D0) H) ∨ (J.go i H ∧ ∃ Nx : Hp → Prop, (∀ H', Nx H' → ∃ m', m' < m ∧ W (i + 1) m' H') ∧ ∀ x H', J.yld i H x H' → gX K g x (wipe σ own) H' fun σ2 H2 => wipe σ2 own = wipe σ own ∧ tX K W0 rB fc σ2 H2 fun b H3 =>
        if b = true then tX K W0 (rF K) fe σ2 H3 fun y H4 => ∃ acc, H4 D0 = some (.lst acc) ∧ acc.length < sizeLine ∧ Nx (upd H4 D0 (.lst (acc ++ [y]))) else Nx H3) := by
  refine ⟨fun i m H => m = items.length - i ∧ i ≤ items.length ∧ ∃ ρ acc G vs, lcLoop g own fc fe (items.drop i) ρ acc = .ok ds r2 ∧ H D0 = some (.lst vs) ∧ Reps K G vs acc ∧ G D0 = none ∧
    Step K (puts rl own) (wipe σ own) Gl Hl (puts ρ own) (wipe σ own) G (L2.del H D0), ⟨items.length, by simp, Nat.zero_le _, rl, [], Gl, [], e, upd_same, .nil, s.sub.free hD, ?_⟩, ?_⟩
  · rw [del_upd, del_none hD]; exact .refl (s.wipe own)
  · rintro i m H ⟨rfl, hi, ρ, acc, G, vs, e, hH, rr, gD, t⟩
    have sH : StRel K (puts ρ own) (wipe σ own) G H := t.st.undel
    have lok : LkOk lk H := fun p xs q => by
      have := lkok _ _ _ _ t p xs q
      by_cases z : p = D0
      · rw [z, del_same] at this; cases this
      · rw [del_ne z] at this; exact this
    have gs : Same Gl H := t.ext.trans sH.sub
    by_cases hlt : i < items.length
    · have hx : items[i]? = some items[i] := List.getElem?_eq_getElem hlt
      rw [List.drop_eq_getElem_cons hlt] at e
      simp only [lcLoop] at e
      obtain ⟨go, yld⟩ := wk.go H gs lok i _ hx
      refine .inr ⟨go, fun H' => _, fun H' h' => ⟨items.length - (i + 1), by omega, h'⟩, fun x H' y => ?_⟩
      obtain ⟨G', t1, rx⟩ := (yld x H' y).step sH t.ext
      cases e1 : setTg g items[i] (puts ρ own) with
      | none => rw [e1] at e; cases e
      | some ρ1 =>
        rw [e1] at e
        dsimp only at e
        refine ⟨_, G', _, t1.st, rx, ?_⟩
        rw [e1]
        intro σ2 t2 bt
        have hw : wipe σ2 own = wipe σ own := (bt.wipe ht).trans wipe_wipe
        refine ⟨hw, ρ1, G', t2.st, ?_⟩
        cases e2 : fc ρ1 with
        | no => rw [e2] at e; cases e
        | ex y z => rw [e2] at e; cases e
        | ok b ρ2 =>
          rw [e2] at e
          refine PX.no0 (fun b' G2 H2 t3 hb => ?_) rfl
          obtain rfl : b' = b := hb
          have T2 := (t1.trans t2).trans t3
          have last : ∀ {ρ3 : Env} {acc' : List CW.D} {vs' : List V} {G3 H3 H4 : Hp}, lcLoop g own fc fe (items.drop (i + 1)) ρ3 acc' = .ok ds r2 → Step K (puts ρ own) (wipe σ own) G H ρ3 σ2 G3 H3 → (∀ a, a ≠ D0 → H4 a = H3 a) → H4 D0 = some (.lst vs') → Reps K G3 vs' acc' →
              items.length - (i + 1) = items.length - (i + 1) ∧ i + 1 ≤ items.length ∧ ∃ ρ acc G vs, lcLoop g own fc fe (items.drop (i + 1)) ρ acc = .ok ds r2 ∧ H4 D0 = some (.lst vs) ∧ Reps K G vs acc ∧ G D0 = none ∧
                Step K (puts rl own) (wipe σ own) Gl Hl (puts ρ own) (wipe σ own) G (L2.del H4 D0) := fun {ρ3 acc' vs' G3 H3 H4} l T hn h4 rr' => by
            obtain ⟨td, _, g3⟩ := T.del t.st (by rw [hH]; intro z; cases z) gD
            have ed : L2.del H4 D0 = L2.del H3 D0 := by
              funext a
              by_cases z : a = D0
              · rw [z, del_same, del_same]
              · rw [del_ne z, del_ne z, hn a z]
            exact ⟨rfl, hlt, ρ3, acc', G3, vs', l, h4, rr', g3, by rw [ed]; exact t.trans (td.rewipe hw)⟩
          cases b' with
          | false =>
            have T := T2
            have hd : H2 D0 = some (.lst vs) := ((T.del t.st (by rw [hH]; intro z; cases z) gD).2.1).trans hH
            exact last e T (fun _ _ => rfl) hd (rr.mono T.ext)
          | true =>
            dsimp only at e
            refine ⟨ρ2, G2, t3.st, ?_⟩
            cases e3 : fe ρ2 with
            | no => rw [e3] at e; cases e
            | ex y z => rw [e3] at e; cases e
            | ok y ρ3 =>
              rw [e3] at e
              dsimp only at e
              by_cases hs : acc.length < SZ
              · rw [if_pos hs] at e
                refine PX.no0 (fun v G3 H3 t4 hv => ?_) rfl
                have T := T2.trans t4
                have hd : H3 D0 = some (.lst vs) := ((T.del t.st (by rw [hH]; intro z; cases z) gD).2.1).trans hH
                exact ⟨vs, hd, by rw [rr.length, ← sz_line]; exact hs, last e T (fun a z => upd_ne z) upd_same ((rr.mono T.ext).append (.one hv))⟩
              · rw [if_neg hs] at e; cases e
    · have hi' : i = items.length := by omega
      subst hi'
      rw [List.drop_eq_nil_of_le (Nat.le_refl _)] at e
      simp only [lcLoop] at e
      injection e with ea er
      subst ea; subst er
      have t1 := Step.unwipe s t
      have el : rl.length = ρ.length := by
        have a1 := t.st.len
        rw [puts_len, wipe_length] at a1
        rw [s.len, a1]
      rw [back_puts el] at t1
      have t2 := Step.undel t1 hD
      exact .inl ⟨wk.stop H gs lok, fin G H t2 ⟨D0, _, rfl, hH, gD, ⟨vs, rfl, rr⟩, hD⟩ (nf_del t1.st)⟩

/-! ### the rule -/
section
variable {K : PySem.W.Frag} {W : WX} {g : Tg} {own : List Nat} {fi : Env → Ev Wk} {fc : Env → Ev Bool} {fe : Env → Ev D}
def lcF (g : Tg) (own : List Nat) (fi : Env → Ev Wk) (fc : Env → Ev Bool) (fe : Env → Ev D) : Env → Ev D := fun r => (fi r).bind fun w r1 =>
  (lcLoop g own fc fe w.items (lockW r1 w.lock) []).bind fun ds r2 => .ok (.lst ds) (unlockW (back (lockW r1 w.lock) r2 own) w.lock)
theorem tLc_of (ht : ∀ i ∈ tgs g, i ∈ own) {σ : L2.St} {H : Hp} {Q : VK} (h : tX K W (rN K) (lcF g own fi fc fe) σ H Q) :
    tLc (tX K W (rI K) fi) (gX K g) (tX K W0 rB fc) (tX K W0 (rF K) fe) own σ H Q := by
  obtain ⟨r, G, s, q⟩ := h
  refine ⟨r, G, s, PX.seq rmN (m := fi r) q fun w r1 J G1 H1 t h3 q2 => fun D0 hD => ?_⟩
  obtain ⟨lk, hl, wk⟩ := h3
  cases e : lcLoop g own fc fe w.items (lockW r1 w.lock) [] with
  | no => rw [e] at q2; exact q2.elim
  | ex x r2 => exact absurd e (lc_noex _ _ _ _ _ _ _ _ _)
  | ok ds r2 =>
    rw [e] at q2
    refine lc_run (t.st.lock w.lock) wk (fun r' σ' G' H' S => hl.ok t.st (fun p ⟨j, c, x, g1, e1⟩ => ?_) S) hD ht e fun G' H' S nw nf => ?_
    · exact q2 _ _ _ (Step.unlock S hl.own) ⟨nw, fun i hi => nf i (by rw [isO_unlock] at hi; exact hi)⟩
    · rw [get_puts] at g1
      by_cases z : j ∈ own
      · rw [if_pos z] at g1; cases g1
      · rw [if_neg z] at g1
        rw [wipe_out z] at e1
        exact ⟨j, c, x, g1, e1⟩
end
theorem _root_.L2.PTs.imp {X : Cx} {e : List Expr} {t t' : TT} (h : PTs X e t) (i : ∀ σ H Q, t' σ H Q → t σ H Q) : PTs X e t' := ⟨fun pins s σ H Q I q => h.run pins s σ H Q I (i σ H Q q)⟩
theorem snd_c0 {X : Cx} {W : WX} : PTs X [] (tX X.K W rB (fun r => .ok true r)) := pts_nil.imp fun σ H Q ⟨r, G, s, q⟩ => q.done s rfl
theorem snd_c1 {X : Cx} {W : WX} {c : Expr} {fc : Env → Ev Bool} (h : PT X c (tX X.K W rB fc)) : PTs X [c] (tX X.K W rB (fun r => (fc r).bind fun b r1 => if b = true then .ok true r1 else .ok b r1)) :=
  (pts_one h).imp fun σ H Q ⟨r, G, s, q⟩ => ⟨r, G, s, q.seq rmB fun b r1 v G1 H1 t h3 q2 => by
    obtain rfl : v = b := h3
    cases v with
    | true => exact q2.done t.st rfl
    | false => exact q2.done t.st rfl⟩
def notSet : Expr → Bool
  | .Set _ _ _ => false
  | _ => true
theorem notSet_ok {e : Expr} {env : PySem.Env} (h : notSet e = true) (x : Value) : foldedSetIterable e env x = pure x := by
  cases e with
  | Set => exact Bool.noConfusion h
  | _ => rfl
def ownP (N : List String) (own : List Nat) : List (PySem.Str × Nat) := own.map fun i => (enc (N.getD i ""), i)
theorem ownP_snd {N : List String} {own : List Nat} : (ownP N own).map (·.2) = own := by
  unfold ownP
  rw [List.map_map]
  exact List.map_id' own
section
variable {P : Program} {w : World} {K : PySem.W.Frag} {mg : Str → Option Value} {base : Heap} {N : List String} {sc : Scope} {n : Nat} {W : WX} {X : Cx}
theorem CtxE.blk (C : CtxE P w K mg base N sc n W X) (scope : Scope) (s : Shared) (H : Hp) (C0 : Addr) (cl : List (Str × Addr)) (fp : List Addr) : CtxE P w K mg base N (relS scope sc) n W0 (X.blk s H scope (compEnvC scope cl C0 X.env) fp) where
  eP := C.eP
  eW := C.eW
  eK := C.eK
  eM := C.eM
  eB := C.eB
  eN := C.eN
  nd := C.nd
  eS := by rw [← C.eS]; rfl
  calm := C.calm
  room := C.room
  pa := passAt (takes0 _)
theorem CtxE.blkG (C : CtxE P w K mg base N sc n W X) {scope : Scope} (s : Shared) (H : Hp) (C0 : Addr) (cl : List (Str × Addr)) (fp : List Addr) : CtxG N scope (X.blk s H scope (compEnvC scope cl C0 X.env) fp) where
  eN := C.eN
  nd := C.nd
  calm := C.calm
  st := fun x h => by
    have key : ∀ k, k ≠ NameKind.free → scope.names.lookup x = some k → (relS scope X.env.scope).names.lookup x = some k := fun k hk e => lookup_relS_keep hk e
    have e : (X.blk s H scope (compEnvC scope cl C0 X.env) fp).env.scope = relS scope X.env.scope := rfl
    rw [e]
    rcases locB_ok h with z | z
    · have := key .local (by decide) z
      exact ⟨.inl this, .inr this⟩
    · have := key .cell (by decide) z
      refine ⟨.inr this, .inl ?_⟩
      show (scope.names.lookup x == some .cell) = true
      rw [z]; rfl
theorem snd_lc (C : CtxE P w K mg base N sc n W X) {elt tg iter : Expr} {ifs : List Expr} {scope : Scope} {pos : Pos} {g : Tg} {own : List Nat} {fi : Env → Ev Wk} {fc : Env → Ev Bool} {fe : Env → Ev D}
    (hb : blkC (N.map enc) sc scope (ownP N own) = true) (hg : tgB N scope g tg = true) (ho : (tgs g).all (fun i => decide (i ∈ own)) = true) (hn : notSet iter = true) (hi : PI X tg iter (tX X.K W (rI X.K) fi))
    (hc : ∀ {X' : Cx}, X'.K = X.K → CtxE P w K mg base N (relS scope sc) n W0 X' → PTs X' ifs (tX X'.K W0 rB fc)) (he : ∀ {X' : Cx}, X'.K = X.K → CtxE P w K mg base N (relS scope sc) n W0 X' → PE X' elt (tX X'.K W0 (rF X'.K) fe)) :
    PE X (.ListComp elt [⟨tg, iter, ifs, 0⟩] scope pos) (tX X.K W (rN X.K) (lcF g own fi fc fe)) := by
  have hb' := blkOk_by hb
  rw [← C.eN, ← C.eS] at hb'
  have ht : ∀ i ∈ tgs g, i ∈ own := fun i hi => of_decide_eq_true (List.all_eq_true.mp ho i hi)
  refine (pe_lc (own := ownP N own) (g := gX X.K g) (tt := tX X.K W0 rB fc) (te := tX X.K W0 (rF X.K) fe) C.calm C.nd hi hb' (fun s H C0 cl fp => pg_ok (C.blkG s H C0 cl fp) hg) (fun s H C0 cl fp => hc rfl (C.blk scope s H C0 cl fp)) (fun s H C0 cl fp => he rfl (C.blk scope s H C0 cl fp)) (fun x => notSet_ok hn x)).imp fun σ H Q h => ?_
  rw [ownP_snd]
  exact tLc_of ht h
/-- x = [..] on one line -/
theorem snd_setLc (C : CtxE P w K mg base N sc n W X) {i : Nat} {y : PySem.Str} {py spos : Pos} {elt tg iter : Expr} {ifs : List Expr} {scope : Scope} {pos : Pos} {g : Tg} {own : List Nat} {fi : Env → Ev Wk} {fc : Env → Ev Bool} {fe : Env → Ev D}
    (hy : (N.map enc)[i]? = some y) (hyl : sc.names.lookup y = some .local) (hsw : swapsWith (.ListComp elt [⟨tg, iter, ifs, 0⟩] scope pos) (some (.Name y py)) spos.line X.env = pure true)
    (hb : blkC (N.map enc) sc scope (ownP N own) = true) (hg : tgB N scope g tg = true) (ho : (tgs g).all (fun i => decide (i ∈ own)) = true) (hn : notSet iter = true) (hi : PI X tg iter (tX X.K W (rI X.K) fi))
    (hc : ∀ {X' : Cx}, X'.K = X.K → CtxE P w K mg base N (relS scope sc) n W0 X' → PTs X' ifs (tX X'.K W0 rB fc)) (he : ∀ {X' : Cx}, X'.K = X.K → CtxE P w K mg base N (relS scope sc) n W0 X' → PE X' elt (tX X'.K W0 (rF X'.K) fe)) :
    PS X (.Assign [.Name y py] (.ListComp elt [⟨tg, iter, ifs, 0⟩] scope pos) spos) (tAsg (tX X.K W (rN X.K) (lcF g own fi fc fe)) (gName i)) := by
  have hb' := blkOk_by hb
  rw [← C.eN, ← C.eS] at hb'
  have ht : ∀ i ∈ tgs g, i ∈ own := fun i hi => of_decide_eq_true (List.all_eq_true.mp ho i hi)
  have := ps_setLc (own := ownP N own) (g := gX X.K g) (tt := tX X.K W0 rB fc) (te := tX X.K W0 (rF X.K) fe) (i := i) (py := py) C.calm C.nd (by rw [C.eN]; exact hy) (by rw [C.eS]; exact hyl) hsw hi hb' (fun s H C0 cl fp => pg_ok (C.blkG s H C0 cl fp) hg) (fun s H C0 cl fp => hc rfl (C.blk scope s H C0 cl fp)) (fun s H C0 cl fp => he rfl (C.blk scope s H C0 cl fp)) (fun x => notSet_ok hn x)
  rw [ownP_snd] at this
  exact ⟨fun pins s σ H D I q => this.run pins s σ H D I (tLc_of ht q)⟩
end
end CW

set_option Elab.async false
set_option linter.all false
set_option maxRecDepth 100000
/-! Statements. -/
namespace CW
open PySem PySem.Spec PyProof.Rows L2

/-- what is returned: frozen data, or a thing of its own -/
def rR (K : PySem.W.Frag) (nw : Bool) (r : Env) (σ : L2.St) (H : Hp) (r' : Env) (σ' : L2.St) (G' H' : Hp) (v : V) (d : D) : Prop := match nw with
  | false => Rep K G' v d
  | true => ∃ p o, v = .ref p ∧ H' p = some o ∧ G' p = none ∧ ObjRel K G' o d ∧ (H p = none ∨ ∃ i d0, get r i = .ow false d0 ∧ σ[i]? = some (some (.ref p))) ∧ ∀ j, isO (get r' j) = true → σ'[j]? ≠ some (some (.ref p))
def PO (K : PySem.W.Frag) (W : WX) (nw : Bool) (r : Env) (σ : L2.St) (G H : Hp) (o : Out) (D : Ends) : Prop := match o with
  | .nx r' => ∀ σ' G' H', Step K r σ G H r' σ' G' H' → D.nx σ' H'
  | .bk r' => ∀ σ' G' H', Step K r σ G H r' σ' G' H' → D.bk σ' H'
  | .ct r' => ∀ σ' G' H', Step K r σ G H r' σ' G' H' → D.ct σ' H'
  | .rt d r' => ∀ v σ' G' H', Step K r σ G H r' σ' G' H' → rR K nw r σ H r' σ' G' H' v d → D.rt v H'
  | .ex x r' => ∀ dx σ' G' H', Step K r σ G H r' σ' G' H' → ExAt K G' H' dx x → W (.ref (clsA K x.cls)) (some dx) σ' H'
  | .no => False
def tS (K : PySem.W.Frag) (W : WX) (nw : Bool) (f : Env → Out) : TS := fun D σ H => ∃ r G, StRel K r σ G H ∧ PO K W nw r σ G H (f r) D

section
variable {K : PySem.W.Frag} {W : WX} {nw : Bool} {r r1 r' : Env} {σ σ1 σ' : L2.St} {G G1 G' H H1 H' : Hp} {o : Out} {D : Ends}
theorem rR.back {v : V} {d : CW.D} {r2 : Env} {σ2 : L2.St} {G2 H2 : Hp} (a : Step K r σ G H r1 σ1 G1 H1) (sr : StRel K r σ G H) (h : rR K nw r1 σ1 H1 r2 σ2 G2 H2 v d) : rR K nw r σ H r2 σ2 G2 H2 v d := by
  cases nw with
  | false => exact h
  | true =>
    obtain ⟨p, o, e, h1, h2, h3, h4, h5⟩ := h
    refine ⟨p, o, e, h1, h2, h3, ?_, h5⟩
    rcases h4 with h4 | ⟨i, d0, g, e1⟩
    · exact .inl (Classical.byContradiction fun z => a.live p z h4)
    · rcases a.own p ⟨i, false, d0, g, e1⟩ with ⟨j, b, x, g', e'⟩ | z
      · cases b with
        | false => exact .inr ⟨j, x, g', e'⟩
        | true =>
          obtain ⟨f1, d1, f2⟩ := a.lent j x g'
          have : i = j := a.st.inj i j p (by rw [g]; rfl) (by rw [f2]; rfl) e1 (by rw [f1]; exact e')
          subst this
          rw [g] at f2; cases f2
      · exact .inl z
theorem PO.shift (sr : StRel K r σ G H) (a : Step K r σ G H r1 σ1 G1 H1) (h : PO K W nw r σ G H o D) : PO K W nw r1 σ1 G1 H1 o D := by
  cases o with
  | nx r' => exact fun σ' G' H' t => h σ' G' H' (a.trans t)
  | bk r' => exact fun σ' G' H' t => h σ' G' H' (a.trans t)
  | ct r' => exact fun σ' G' H' t => h σ' G' H' (a.trans t)
  | rt d r' => exact fun v σ' G' H' t q => h v σ' G' H' (a.trans t) (q.back a sr)
  | ex x r' => exact fun dx σ' G' H' t q => h dx σ' G' H' (a.trans t) q
  | no => exact h
theorem PO.seq {α β : Type} {R : Rl β α} {m : Ev α} {k : α → Env → Out} (h : PO K W nw r σ G H (m.out k) D) {Z : β → Hp → Prop}
    (hz : ∀ a r1 b G1 H1, Step K r σ G H r1 σ G1 H1 → R H σ r1 G1 H1 b a → PO K W nw r σ G H (k a r1) D → Z b H1) : PX K W R r σ G H m Z := by
  cases m with
  | ok a r' => exact fun b G' H' t q => hz a r' b G' H' t q h
  | ex x r' => exact fun dx G' H' t q => h dx σ G' H' t q
  | no => exact h
theorem PO.done (h : PO K W nw r σ G H (.nx r) D) (s : StRel K r σ G H) : D.nx σ H := h σ G H (.refl s)
end
theorem _root_.L2.PS.imp {X : Cx} {e : Stmt} {t t' : TS} (h : PS X e t) (i : ∀ D σ H, σ.length = X.N.length → t' D σ H → t D σ H) : PS X e t' := ⟨fun pins s σ H D I q => h.run pins s σ H D I (i D σ H I.len q)⟩
theorem _root_.L2.PSs.imp {X : Cx} {e : List Stmt} {t t' : TS} (h : PSs X e t) (i : ∀ D σ H, σ.length = X.N.length → t' D σ H → t D σ H) : PSs X e t' := ⟨fun pins s σ H D I q => h.run pins s σ H D I (i D σ H I.len q)⟩

/-! ### shapes -/
def notComp : Expr → Bool
  | .ListComp _ _ _ _ => false
  | .SetComp _ _ _ _ => false
  | .DictComp _ _ _ _ _ => false
  | _ => true
theorem notComp_ok {e : Expr} {t : Option Expr} {l : Nat} {env : PySem.Env} (h : notComp e = true) : swapsWith e t l env = pure false := by
  cases e with
  | ListComp => exact Bool.noConfusion h
  | SetComp => exact Bool.noConfusion h
  | DictComp => exact Bool.noConfusion h
  | _ => rfl

/-- a value that is stored behind its end -/
def noSw (sc : Scope) (x : Str) (e : Expr) : Bool := notComp e || (match e with
  | .ListComp _ _ scope _ => decide (sc.names.lookup x = some .cell) || scope.names.any fun (n, k) => n == x && (k == .local || k == .cell)
  | _ => false)
theorem noSw_ok {e : Expr} {x : Str} {px : Pos} {l : Nat} {env : PySem.Env} (h : noSw env.scope x e = true) : swapsWith e (some (.Name x px)) l env = pure false := by
  by_cases z : notComp e = true
  · exact notComp_ok z
  · have h' := h
    unfold noSw at h'
    rw [Bool.eq_false_iff.mpr z, Bool.false_or] at h'
    cases e with
    | ListComp elt gs scope pos =>
      dsimp only at h'
      unfold swapsWith
      have fin : (env.blockKind == .function && env.kindOf x == some .local && px.line == pos.line && !(scope.names.any fun (n, k) => n == x && (k == .local || k == .cell))) = false := by
        rcases Bool.or_eq_true_iff.mp h' with q | q
        · have : env.kindOf x = some .cell := of_decide_eq_true q
          rw [this]
          have : (some NameKind.cell == some NameKind.local) = false := rfl
          rw [this, Bool.and_false, Bool.false_and, Bool.false_and]
        · rw [q, Bool.not_true, Bool.and_false]
      show pure _ = _
      exact congrArg pure fin
    | _ => cases h'

section
variable {N : List String} {sc ss : Scope} {X : Cx} {W : WX} {nw : Bool} {i j : Nat} {x y : PySem.Str} {px py pos : Pos} {e a b : Expr} {fa fb : Env → Ev D} {fs gs : Env → Out}
theorem snd_pass : PS X (.Pass pos) (tS X.K W nw (fun r => .nx r)) := ps_pass.imp fun D σ H _ ⟨r, G, s, q⟩ => q.done s
theorem snd_brk : PS X (.Break pos) (tS X.K W nw (fun r => .bk r)) := ps_break.imp fun D σ H _ ⟨r, G, s, q⟩ => q σ G H (.refl s)
theorem snd_cnt : PS X (.Continue pos) (tS X.K W nw (fun r => .ct r)) := ps_continue.imp fun D σ H _ ⟨r, G, s, q⟩ => q σ G H (.refl s)
theorem snd_snil : PSs X [] (tS X.K W nw (fun r => .nx r)) := pss_nil.imp fun D σ H _ ⟨r, G, s, q⟩ => q.done s
theorem snd_scons {st : Stmt} {rest : List Stmt} (h1 : PS X st (tS X.K W nw fs)) (h2 : PSs X rest (tS X.K W nw gs)) : PSs X (st :: rest) (tS X.K W nw (fun r => match fs r with
    | .nx r1 => gs r1
    | o => o)) := (pss_cons h1 h2).imp fun D σ H _ ⟨r, G, s, q⟩ => ⟨r, G, s, by
  dsimp only at q
  cases z : fs r with
  | nx r1 =>
    rw [z] at q
    exact fun σ' G' H' t => ⟨r1, G', t.st, PO.shift s t q⟩
  | _ => rw [z] at q; exact q⟩
/-- a documentation line -/
theorem snd_doc {t : PySem.Str} {k : _} {p p' : Pos} : PS X (.Expr (.Constant (.str t) k p) p') (tS X.K W nw (fun r => .nx r)) := ps_doc.imp fun D σ H _ ⟨r, G, s, q⟩ => q.done s

theorem snd_set (C : CtxG N ss X) (hx : locNB N ss i x = true) (hn : noSw X.env.scope x e = true) (he : PE X e (tX X.K W (rF X.K) fa)) : PS X (.Assign [.Name x px] e pos) (tS X.K W nw (fun r => (fa r).out fun d r1 => if free (get r1 i) then .nx (put r1 i (.va d)) else .no)) := by
  obtain ⟨h1, h2, h3⟩ := C.store hx
  refine (ps_set C.nd h1 h2 he (noSw_ok hn) h3).imp fun D σ H hl ⟨r, G, s, q⟩ => ⟨r, G, s, q.seq fun d r1 v G1 H1 t h4 q2 => ?_⟩
  by_cases z : free (get r1 i) = true
  · rw [if_pos z] at q2
    exact q2 _ _ _ (t.trans (Step.set t.st z (C.lt hx t.st hl) h4))
  · rw [if_neg z] at q2; exact q2.elim
theorem setN_end {K : PySem.W.Frag} {r r1 : Env} {σ : L2.St} {G G1 H H1 : Hp} {D : Ends} {v : V} {d : CW.D} (t : Step K r σ G H r1 σ G1 H1) (hi : i < r1.length) (h4 : rN K H σ r1 G1 H1 v d) (q2 : PO K W nw r σ G H (if free (get r1 i) then .nx (put r1 i (.ow false d)) else .no) D) : D.nx (σ.set i (some v)) H1 := by
  by_cases z : free (get r1 i) = true
  · rw [if_pos z] at q2
    obtain ⟨⟨p, o, rfl, e1, g, tt, n0⟩, nf⟩ := h4
    exact q2 _ _ _ (Step.setN t z hi e1 g tt nf n0)
  · rw [if_neg z] at q2; exact q2.elim
theorem snd_setN (C : CtxG N ss X) (hx : locNB N ss i x = true) (hn : noSw X.env.scope x e = true) (he : PE X e (tX X.K W (rN X.K) fa)) : PS X (.Assign [.Name x px] e pos) (tS X.K W nw (fun r => (fa r).out fun d r1 => if free (get r1 i) then .nx (put r1 i (.ow false d)) else .no)) := by
  obtain ⟨h1, h2, h3⟩ := C.store hx
  exact (ps_set C.nd h1 h2 he (noSw_ok hn) h3).imp fun D σ H hl ⟨r, G, s, q⟩ => ⟨r, G, s, q.seq fun d r1 v G1 H1 t h4 q2 => setN_end t (C.lt hx t.st hl) h4 q2⟩
theorem snd_ret (he : PE X e (tX X.K W (rF X.K) fa)) : PS X (.Return (some e) pos) (tS X.K W false (fun r => (fa r).out fun d r1 => .rt d r1)) :=
  (ps_ret he).imp fun D σ H _ ⟨r, G, s, q⟩ => ⟨r, G, s, q.seq fun d r1 v G1 H1 t h4 q2 => q2 v σ G1 H1 t h4⟩
theorem snd_ret0 : PS X (.Return none pos) (tS X.K W false (fun r => .rt .non r)) :=
  ps_retN.imp fun D σ H _ ⟨r, G, s, q⟩ => q .non σ G H (.refl s) .non
theorem snd_retN (he : PE X e (tX X.K W (rN X.K) fa)) : PS X (.Return (some e) pos) (tS X.K W true (fun r => (fa r).out fun d r1 => .rt d r1)) :=
  (ps_ret he).imp fun D σ H _ ⟨r, G, s, q⟩ => ⟨r, G, s, q.seq fun d r1 v G1 H1 t h4 q2 => by
    obtain ⟨⟨p, o, rfl, e1, g, tt, n0⟩, nf⟩ := h4
    exact q2 _ σ G1 H1 t ⟨p, o, rfl, e1, g, tt, .inl n0, nf⟩⟩
/-- a slot is forgotten -/
theorem Step.forget {K : PySem.W.Frag} {r : Env} {σ : L2.St} {G H : Hp} {d : D} (s : StRel K r σ G H) (q : get r i = .ow false d) : Step K r σ G H (put r i .un) σ G H := by
  have hi : i < r.length := get_lt (by rw [q]; intro z; cases z)
  have gi : ∀ j, get (put r i .un) j = if j = i then .un else get r j := fun j => get_put _ _ _ _ hi
  refine ⟨⟨by rw [put_len]; exact s.len, s.sub, fun j => ?_, fun j k p hj hk => ?_⟩, Same.refl _, fun _ z => z, fun _ _ _ => ⟨rfl, id⟩, fun p ⟨j, c, x, g, e⟩ => ?_, fun p ⟨j, g, e⟩ => ?_, fun j x g => ⟨rfl, x, ?_⟩, fun j c x g => ⟨rfl, ?_⟩⟩
  · rw [gi]
    by_cases z : j = i
    · rw [if_pos z]; trivial
    · rw [if_neg z]; exact s.sl j
  · rw [gi] at hj hk
    by_cases z : j = i
    · rw [if_pos z] at hj; cases hj
    · by_cases z' : k = i
      · rw [if_pos z'] at hk; cases hk
      · rw [if_neg z] at hj
        rw [if_neg z'] at hk
        exact s.inj j k p hj hk
  · rw [gi] at g
    by_cases z : j = i
    · rw [if_pos z] at g; cases g
    · rw [if_neg z] at g; exact .inl ⟨j, c, x, g, e⟩
  · rw [gi] at g
    by_cases z : j = i
    · rw [if_pos z] at g; cases g
    · rw [if_neg z] at g; exact .inl ⟨j, g, e⟩
  · rw [gi, if_neg (fun z => by rw [z, q] at g; cases g)]; exact g
  · rw [gi, if_neg (fun z => by rw [z, q] at g; cases g)]; exact g
/-- a thing of one's own is handed out -/
theorem snd_retV (h : PE X (.Name x px) (tVar i)) : PS X (.Return (some (.Name x px)) pos) (tS X.K W true (fun r => match get r i with
    | .ow false d => .rt d (put r i .un)
    | _ => .no)) := (ps_ret h).imp fun D σ H _ ⟨r, G, s, q⟩ => by
  dsimp only at q
  cases z : get r i with
  | ow b d =>
    cases b with
    | true => rw [z] at q; exact q.elim
    | false =>
      rw [z] at q
      obtain ⟨p, o, e1, e2, g, tt⟩ := s.owned z
      have hi : i < r.length := get_lt (by rw [z]; intro z; cases z)
      refine ⟨_, e1, q _ σ G H (Step.forget s z) ⟨p, o, rfl, e2, g, tt, .inr ⟨i, d, z, e1⟩, fun j hj ej => ?_⟩⟩
      rw [get_put _ _ _ _ hi] at hj
      by_cases w : j = i
      · rw [if_pos w] at hj; cases hj
      · rw [if_neg w] at hj
        exact w (s.inj j i p hj (by rw [z]; rfl) ej e1)
  | un => rw [z] at q; exact q.elim
  | va d => rw [z] at q; exact q.elim
  | lk b d => rw [z] at q; exact q.elim
theorem snd_if {c : Expr} {sa sb : List Stmt} {fc : Env → Ev Bool} (hc : PT X c (tX X.K W rB fc)) (ha : PSs X sa (tS X.K W nw fs)) (hb : PSs X sb (tS X.K W nw gs)) : PS X (.If c sa sb pos) (tS X.K W nw (fun r => (fc r).out fun k r1 => if k = true then fs r1 else gs r1)) :=
  (ps_if hc ha hb).imp fun D σ H _ ⟨r, G, s, q⟩ => ⟨r, G, s, q.seq fun k r1 v G1 H1 t h4 q2 => by
    obtain rfl : v = k := h4
    cases v with
    | true => exact ⟨r1, G1, t.st, PO.shift s t q2⟩
    | false => exact ⟨r1, G1, t.st, PO.shift s t q2⟩⟩
/-- an expression alone -/
theorem snd_exp {R : Rl V D} (hn : notComp e = true) (he : PE X e (tX X.K W R fa)) : PS X (.Expr e pos) (tS X.K W nw (fun r => (fa r).out fun _ r1 => .nx r1)) :=
  (ps_expr he (notComp_ok hn)).imp fun D σ H _ ⟨r, G, s, q⟩ => ⟨r, G, s, q.seq fun d r1 v G1 H1 t h4 q2 => q2 σ G1 H1 t⟩

/-! ### loops -/
theorem PO.turn {K : PySem.W.Frag} {r : Env} {σ : L2.St} {G H : Hp} {D : Ends} {Nx : L2.St → Hp → Prop} {o : Out} {k : Env → Out} (s : StRel K r σ G H) (h : PO K W nw r σ G H (match o with
    | .nx r2 => k r2
    | .ct r2 => k r2
    | .bk r2 => .nx r2
    | o => o) D) (hk : ∀ r2 σ2 G2 H2, Step K r σ G H r2 σ2 G2 H2 → PO K W nw r2 σ2 G2 H2 (k r2) D → Nx σ2 H2) : PO K W nw r σ G H o { D with nx := Nx, ct := Nx, bk := D.nx } := by
  cases o with
  | nx r' => exact fun σ' G' H' t => hk r' σ' G' H' t (PO.shift s t h)
  | ct r' => exact fun σ' G' H' t => hk r' σ' G' H' t (PO.shift s t h)
  | bk r' => exact h
  | rt d r' => exact h
  | ex x r' => exact h
  | no => exact h
theorem snd_whl {c : Expr} {body : List Stmt} {fc : Env → Ev Bool} (hp : PassesOwn (model X.prog X.w) X.A X.env X.xe) (hc : PT X c (tX X.K W rB fc)) (hb : PSs X body (tS X.K W nw fs)) : PS X (.While c body [] pos) (tS X.K W nw (fun r => whileLoop fc fs WF r)) := by
  refine (ps_while hp hc hb).imp fun D σ H _ ⟨r, G, s, q⟩ => ⟨fun m σ H => ∃ r G, StRel X.K r σ G H ∧ PO X.K W nw r σ G H (whileLoop fc fs m r) D, ⟨WF, r, G, s, q⟩, ?_⟩
  rintro m σ H ⟨r, G, s, q⟩
  cases m with
  | zero => exact q.elim
  | succ m =>
    refine ⟨r, G, s, q.seq fun k r1 v G1 H1 t h4 q2 => ?_⟩
    obtain rfl : v = k := h4
    cases v with
    | true => exact ⟨fun σ H => ∃ r G, StRel X.K r σ G H ∧ PO X.K W nw r σ G H (whileLoop fc fs m r) D, fun σ' H' z => ⟨m, Nat.lt_succ_self _, z⟩, r1, G1, t.st, PO.turn t.st (PO.shift s t q2) fun r2 σ2 G2 H2 t2 z => ⟨r2, G2, t2.st, z⟩⟩
    | false => exact q2 σ G1 H1 t
theorem PO.lock {K : PySem.W.Frag} {r : Env} {σ : L2.St} {G H : Hp} {D : Ends} {l : Option Nat} {o : Out} (hl : ∀ i, l = some i → ∃ b d, get r i = .ow b d) (h : PO K W nw r σ G H (o.mapR fun r => unlockW r l) D) : PO K W nw (lockW r l) σ G H o D := by
  cases o with
  | nx r' => exact fun σ' G' H' t => h σ' G' H' (Step.unlock t hl)
  | ct r' => exact fun σ' G' H' t => h σ' G' H' (Step.unlock t hl)
  | bk r' => exact fun σ' G' H' t => h σ' G' H' (Step.unlock t hl)
  | ex x r' => exact fun dx σ' G' H' t q => h dx σ' G' H' (Step.unlock t hl) q
  | no => exact h
  | rt d r' =>
    intro v σ' G' H' t q
    refine h v σ' G' H' (Step.unlock t hl) ?_
    cases nw with
    | false => exact q
    | true =>
      obtain ⟨p, o, e, h1, h2, h3, h4, h5⟩ := q
      refine ⟨p, o, e, h1, h2, h3, ?_, fun j hj => h5 j (by rw [isO_unlock] at hj; exact hj)⟩
      rcases h4 with h4 | ⟨i, d0, g, e1⟩
      · exact .inl h4
      · refine .inr ⟨i, d0, ?_, e1⟩
        cases l with
        | none => exact g
        | some k =>
          obtain ⟨b, d, g1⟩ := hl k rfl
          have hk : k < r.length := get_lt (by rw [g1]; intro z; cases z)
          have el : lockW r (some k) = put r k (.lk b d) := by simp only [lockW, g1]
          rw [el, get_put _ _ _ _ hk] at g
          by_cases z : i = k
          · rw [if_pos z] at g; cases g
          · rw [if_neg z] at g; exact g
theorem snd_for {tg iter : Expr} {body : List Stmt} {g : Tg} {fi : Env → Ev Wk} (C : CtxG N ss X) (hp : PassesOwn (model X.prog X.w) X.A X.env X.xe) (hg : tgB N ss g tg = true) (hn : notSet iter = true) (hi : PI X tg iter (tX X.K W (rI X.K) fi)) (hb : PSs X body (tS X.K W nw fs)) :
    PS X (.For tg iter body [] pos) (tS X.K W nw (fun r => (fi r).out fun w r1 => (forLoop g fs w.items (lockW r1 w.lock)).mapR fun r => unlockW r w.lock)) := by
  refine (ps_for hp C.calm hi (pg_ok C hg) hb (fun x => notSet_ok hn x)).imp fun D σ H _ ⟨r, G, s, q⟩ => ⟨r, G, s, q.seq fun w r1 J G1 H1 t h4 q2 => ?_⟩
  obtain ⟨lk, hl, wk⟩ := h4
  have q3 := PO.lock hl.own (PO.shift s t q2)
  have sl := t.st.lock w.lock
  refine ⟨fun i m σ' H' => m = w.items.length - i ∧ i ≤ w.items.length ∧ ∃ ρ G', Step X.K (lockW r1 w.lock) σ G1 H1 ρ σ' G' H' ∧ PO X.K W nw ρ σ' G' H' (forLoop g fs (w.items.drop i) ρ) D, ⟨w.items.length, by simp, Nat.zero_le _, _, G1, .refl sl, q3⟩, ?_⟩
  rintro i m σ' H' ⟨rfl, hi, ρ, G', T, q⟩
  have lok : LkOk lk H' := hl.ok t.st (fun p o => o) T
  have gs' : Same G1 H' := T.ext.trans T.st.sub
  by_cases hlt : i < w.items.length
  · have hx : w.items[i]? = some w.items[i] := List.getElem?_eq_getElem hlt
    rw [List.drop_eq_getElem_cons hlt] at q
    simp only [forLoop] at q
    obtain ⟨go, yld⟩ := wk.go H' gs' lok i _ hx
    refine .inr ⟨go, fun σ2 H2 => _, fun σ2 H2 h' => ⟨w.items.length - (i + 1), by omega, h'⟩, fun x H2 y => ?_⟩
    obtain ⟨G2, t1, rx⟩ := (yld x H2 y).step T.st T.ext
    cases e1 : setTg g w.items[i] ρ with
    | none => rw [e1] at q; exact q.elim
    | some ρ1 =>
      rw [e1] at q
      refine ⟨ρ, G2, _, t1.st, rx, ?_⟩
      rw [e1]
      intro σ2 t2 _
      have T2 := t1.trans t2
      exact ⟨ρ1, G2, t2.st, PO.turn t2.st (PO.shift T.st T2 q) fun r2 σ3 G3 H3 t3 z => ⟨rfl, hlt, r2, G3, T.trans (T2.trans t3), z⟩⟩
  · have hi' : i = w.items.length := by omega
    subst hi'
    rw [List.drop_eq_nil_of_le (Nat.le_refl _)] at q
    exact .inl ⟨wk.stop H' gs' lok, q.done T.st⟩
end
end CW

set_option Elab.async false
set_option linter.all false
set_option maxRecDepth 100000
/-! More statements. -/
namespace CW
open PySem PySem.Spec PyProof.Rows L2
section
variable {N : List String} {sc ss : Scope} {X : Cx} {W : WX} {nw : Bool} {i j : Nat} {x y : PySem.Str} {px py pt p apos cpos pos : Pos} {e a b c tg : Expr} {fa fb fc fd : Env → Ev D} {fs gs : Env → Out}

/-- both names are stored from the right -/
def parB (sc : Scope) (x : PySem.Str) (px : Pos) (y : PySem.Str) (py : Pos) (a b : Expr) : Bool :=
  (noStar a && noStar b) && ((match sc.kind with | .function => true | _ => false) && ((decide (sc.names.lookup x = some .local) && decide (sc.names.lookup y = some .local)) && ((decide (py.line = px.line) && !(x == y)) && (!([a, b].all (foldedForSure 8)) && !([a, b].all (constantsAlone 8))))))
theorem parB_ok {env : PySem.Env} {kt k2 : _} {pt pt2 : Pos} (h : parB env.scope x px y py a b = true) : swappedStores [.Tuple [.Name x px, .Name y py] kt pt] (.Tuple [a, b] k2 pt2) env = pure (some [x, y]) := by
  unfold parB at h
  simp only [Bool.and_eq_true, decide_eq_true_eq, Bool.not_eq_true'] at h
  obtain ⟨⟨s1, s2⟩, k, ⟨l1, l2⟩, ⟨ln, ne⟩, f1, f2⟩ := h
  have hk : env.blockKind = .function := by
    unfold Env.blockKind
    cases q : env.scope.kind <;> first | (rw [q] at k; cases k; done) | rfl
  have k1 : env.kindOf x = some .local := l1
  have k2' : env.kindOf y = some .local := l2
  have st : ([a, b].any fun | .Starred .. => true | _ => false) = false := by
    cases a <;> first | (cases s1; done) | skip
    all_goals cases b <;> first | (cases s2; done) | rfl
  unfold swappedStores
  simp only [List.length_cons, List.length_nil, hk, st, k1, k2', Expr.pos, List.filterMap_cons, List.filterMap_nil, List.head?_cons, Option.map_some, Option.getD_some, ln, f1, f2]
  have e1 : (y == x) = false := by
    cases q : (y == x) with
    | false => rfl
    | true =>
      have := eq_of_beq q
      subst this
      rw [beq_self_eq_true] at ne; cases ne
  have e2 : [x, y].eraseDups = [x, y] := by
    simp [List.eraseDups, List.eraseDupsBy, List.eraseDupsBy.loop, e1]
  simp [e2]
  intro hh
  exfalso
  rcases hh with hh | hh
  · cases a <;> first | (cases s1; done) | cases hh
  · cases b <;> first | (cases s2; done) | cases hh
/-- no pair of names is stored from the right -/
def noSwap : Expr → Expr → Bool
  | .Tuple ts _ _, .Tuple vs _ _ => vs.all (foldedForSure 8) || ts.any fun t => match t with
    | .Name _ _ => false
    | _ => true
  | .Tuple _ _ _, _ => true
  | .List _ _, _ => false
  | _, _ => true
theorem noSwap_ok {env : PySem.Env} (h : noSwap tg e = true) : swappedStores [tg] e env = pure none := by
  cases tg with
  | Tuple ts k p =>
    cases e with
    | Tuple vs k2 p2 =>
      have h' : vs.all (foldedForSure 8) = true ∨ (ts.any fun t => match t with
        | .Name _ _ => false
        | _ => true) = true := by simpa [noSwap] using h
      unfold swappedStores
      dsimp only
      split
      · rfl
      · split
        · rfl
        · split
          · rfl
          · next hn =>
            rcases h' with h' | h'
            · rw [if_pos h']
            · exfalso
              apply hn
              simp only [Bool.or_eq_true, bne_iff_ne, ne_eq]
              left
              intro hl
              obtain ⟨t, ht, hb⟩ := List.any_eq_true.mp h'
              have key : ∀ (l : List Expr) (f : Expr → Option PySem.Str), (l.filterMap f).length = l.length → ∀ t ∈ l, f t ≠ none := by
                intro l f
                induction l with
                | nil => intro _ t ht; cases ht
                | cons z l ih =>
                  intro hl t ht
                  cases q : f z with
                  | none =>
                    rw [List.filterMap_cons_none q] at hl
                    have := List.length_filterMap_le f l
                    simp only [List.length_cons] at hl
                    omega
                  | some w =>
                    rw [List.filterMap_cons_some q] at hl
                    rcases List.mem_cons.mp ht with rfl | ht
                    · rw [q]; intro z; cases z
                    · exact ih (by simpa using hl) t ht
              refine key ts _ hl t ht ?_
              cases t <;> first | (cases hb; done) | rfl
    | _ => rfl
  | List => cases e <;> cases h
  | _ => rfl
theorem snd_par (C : CtxG N ss X) (es : X.env.scope = sc) (hx : locNB N ss i x = true) (hy : locNB N ss j y = true) (hw : parB sc x px y py a b = true) (hij : i ≠ j) (ha : PE X a (tX X.K W (rF X.K) fa)) (hb : PE X b (tX X.K W (rF X.K) fb)) {kt k2 : _} {pt2 : Pos} :
    PS X (.Assign [.Tuple [.Name x px, .Name y py] kt pt] (.Tuple [a, b] k2 pt2) pos) (tS X.K W nw (fun r => (fa r).out fun d r1 => (fb r1).out fun d2 r2 => if free (get r2 i) && free (get r2 j) then .nx (put (put r2 i (.va d)) j (.va d2)) else .no)) := by
  subst es
  obtain ⟨h1, _, _⟩ := C.store hx
  obtain ⟨g1, _, _⟩ := C.store hy
  have hw' := hw
  unfold parB at hw'
  simp only [Bool.and_eq_true, decide_eq_true_eq, Bool.not_eq_true'] at hw'
  obtain ⟨⟨s1, s2⟩, k, ⟨l1, l2⟩, _⟩ := hw'
  refine (ps_par C.calm C.nd h1 g1 hij l1 l2 (pa_cons ha (pa_cons hb pa_nil (noStar_ok s2)) (noStar_ok s1)) (parB_ok hw) rfl).imp fun D σ H hl ⟨r, G, s, q⟩ => ⟨r, G, s, q.seq fun d r1 v G1 H1 t h3 q2 => ⟨r1, G1, t.st, PO.seq (PO.shift s t q2) fun d2 r2 u G2 H2 t2 h4 q3 => ?_⟩⟩
  cases z : (free (get r2 i) && free (get r2 j)) with
  | false => rw [z] at q3; exact q3.elim
  | true =>
    rw [z, if_pos rfl] at q3
    simp only [Bool.and_eq_true] at z
    have hi := C.lt hx t2.st hl
    have a1 := Step.set t2.st z.1 hi (h3.mono t2.ext)
    have a2 := Step.set a1.st (i := j) (by rw [get_put _ _ _ _ hi, if_neg (fun w => hij w.symm)]; exact z.2) (by rw [put_len]; exact C.lt hy t2.st hl) (h4.mono a1.ext)
    exact ⟨v, u, rfl, q3 _ _ _ (t2.trans (a1.trans a2))⟩
theorem snd_unp {g : Tg} (C : CtxG N ss X) (hg : tgB N ss g tg = true) (hn : notComp e = true) (hw : noSwap tg e = true) (he : PE X e (tX X.K W (rF X.K) fa)) :
    PS X (.Assign [tg] e pos) (tS X.K W nw (fun r => (fa r).out fun d r1 => .ofO (setTg g d r1))) := by
  refine (ps_asg he (pg_ok C hg) (notComp_ok hn) (noSwap_ok hw) (asg_cons (tgB_star hg))).imp fun D σ H hl ⟨r, G, s, q⟩ => ⟨r, G, s, q.seq fun d r1 v G1 H1 t h3 q2 => ⟨r1, G1, d, t.st, h3, ?_⟩⟩
  cases z : setTg g d r1 with
  | none => rw [z] at q2; exact q2.elim
  | some r2 => rw [z] at q2; exact fun σ' t2 _ => q2 _ _ _ (t.trans t2)

/-! ### writes through owned slots -/
theorem put_ow {r : Env} {σ : L2.St} {G H : Hp} (s : StRel X.K r σ G H) {b : Bool} {l : List D} (z : get r i = .ow b (.lst l)) : ∃ p vs, σ[i]? = some (some (.ref p)) ∧ H p = some (.lst vs) ∧ Reps X.K G vs l ∧
    ∀ vs' l', Reps X.K G vs' l' → Step X.K r σ G H (put r i (.ow b (.lst l'))) σ G (upd H p (.lst vs')) := by
  obtain ⟨p, o, e1, e2, e3, vs, rfl, rr⟩ := s.owned z
  exact ⟨p, vs, e1, e2, rr, fun vs' l' r' => Step.write s z e1 ⟨_, rfl, r'⟩⟩
theorem setL_ok {K : PySem.W.Frag} {G : Hp} {vs : List V} {l l' : List D} {k : Int} {v : V} {d : D} (rr : Reps K G vs l) (h : setL l k d = some l') (hv : Rep K G v d) : ∃ j, ixN vs.length k = some j ∧ Reps K G (vs.set j v) l' := by
  unfold setL at h
  cases q : ixAt l.length k with
  | none => rw [q] at h; cases h
  | some j =>
    rw [q] at h
    obtain rfl := Option.some.inj h
    exact ⟨j, by rw [rr.length]; exact q, rr.set j hv⟩
theorem notSole {t : Expr} {l : Nat} {env : PySem.Env} (h : notComp e = true) : swapsWithSole [t] e l env = pure false := by
  show swapsWith e (some t) l env = pure false
  exact notComp_ok h
theorem asg_sub {o : Expr} {env : PySem.Env} (hs : noSlice a = true) : ∀ v, assign (.Subscript o a cpos) env v = (do
      let ov ← holding [v] (eval o env)
      let iv ← holding [v, ov] (eval a env)
      standAt cpos
      holding [v, ov, iv] (setItem ov iv v)
      release [v, ov, iv] []) := by
  intro v
  cases a <;> first | (cases hs; done) | rfl
theorem snd_setix (h : PE X (.Name x p) (tVar i)) (hn : notComp e = true) (hs : noSlice a = true) (ha : PE X a (tX X.K W (rF X.K) fa)) (he : PE X e (tX X.K W (rF X.K) fb)) :
    PS X (.Assign [.Subscript (.Name x p) a cpos] e pos) (tS X.K W nw (fun r => (fb r).out fun y r1 => if isLs (get r1 i) then (fa r1).out fun k r2 => (match get r2 i, k with
    | .ow b (.lst l), .int n => .ofO ((setL l n y).map fun l' => put r2 i (.ow b (.lst l')))
    | _, _ => .no) else .no)) := by
  refine (ps_asg he (pg_sub h ha set_list (asg_sub hs)) (notSole hn) (noSwap_ok (tg := .Subscript (.Name x p) a cpos) (by cases e <;> rfl)) rfl).imp fun D σ H hl ⟨r, G, s, q⟩ => ⟨r, G, s, q.seq fun y r1 v G1 H1 t h3 q2 => ?_⟩
  cases hls : isLs (get r1 i) with
  | false => rw [hls, if_neg (by decide)] at q2; exact q2.elim
  | true =>
    rw [hls, if_pos rfl] at q2
    obtain ⟨p0, e1, _⟩ := list_there t.st hls
    refine ⟨_, e1, r1, G1, t.st, PO.seq (PO.shift s t q2) fun k r2 u G2 H2 t2 h4 q3 => ?_⟩
    cases z : get r2 i with
    | ow b d =>
      rw [z] at q3
      cases d with
      | lst l =>
        cases k with
        | int n =>
          dsimp only at q3
          cases zl : setL l n y with
          | none => rw [zl] at q3; exact q3.elim
          | some l' =>
            rw [zl] at q3
            obtain ⟨p', vs, f1, f2, rr, wr⟩ := put_ow t2.st z
            obtain rfl : p' = p0 := by rw [e1] at f1; injection f1 with f1; injection f1 with f1; injection f1 with f1; exact f1.symm
            obtain ⟨j, g1, g2⟩ := setL_ok rr zl (h3.mono t2.ext)
            cases h4
            exact ⟨p', vs, n, j, rfl, rfl, f2, g1, q3 _ _ _ (t2.trans (wr _ _ g2))⟩
        | _ => exact q3.elim
      | _ => cases k <;> exact q3.elim
    | _ => rw [z] at q3; cases k <;> exact q3.elim
/-- x[a], x[b] = c, d -/
theorem snd_swap {kt k2 : _} {p2 pa pb pt2 : Pos} (hc : X.calm = true) (h : PE X (.Name x p) (tVar i)) (h2 : PE X (.Name x p2) (tVar i)) (n1 : noStar c = true) (n2 : noStar e = true) (hs : noSlice a = true) (hs2 : noSlice b = true)
    (ha : PE X a (tX X.K W (rF X.K) fa)) (hb : PE X b (tX X.K W (rF X.K) fb)) (hcc : PE X c (tX X.K W (rF X.K) fc)) (hd : PE X e (tX X.K W (rF X.K) fd)) :
    PS X (.Assign [.Tuple [.Subscript (.Name x p) a pa, .Subscript (.Name x p2) b pb] kt pt] (.Tuple [c, e] k2 pt2) pos) (tS X.K W nw (fun r => (fc r).out fun y1 r1 => (fd r1).out fun y2 r2 => if isLs (get r2 i) then (fa r2).out fun x1 r3 => (match get r3 i, x1 with
    | .ow b (.lst l), .int n => (match setL l n y1 with
      | some l1 => (fb (put r3 i (.ow b (.lst l1)))).out fun x2 r4 => (match get r4 i, x2 with
        | .ow b (.lst l), .int m => .ofO ((setL l m y2).map fun l' => put r4 i (.ow b (.lst l')))
        | _, _ => .no)
      | none => .no)
    | _, _ => .no) else .no)) := by
  have hv := pe_tup (x1 := k2) (pos := pt2) (pa_cons hcc (pa_cons hd pa_nil (noStar_ok n2)) (noStar_ok n1))
  refine (ps_asg hv (pg_tup hc (pgs_cons (pg_sub h ha set_list (asg_sub hs)) (pgs_cons (pg_sub h2 hb set_list (asg_sub hs2)) pgs_nil rfl) rfl) asg_len rfl) rfl (noSwap_ok (by simp [noSwap])) rfl).imp fun D σ H hl ⟨r, G, s, q⟩ =>
    ⟨r, G, s, q.seq fun y1 r1 v1 G1 H1 t1 h1 q1 => ⟨r1, G1, t1.st, PO.seq (PO.shift s t1 q1) fun y2 r2 v2 G2 H2 t2 h2 q2 => ⟨(show 2 ≤ sizeLine by decide), fun p0 hp0 => ?_⟩⟩⟩
  have q2' := PO.shift t1.st t2 q2
  cases hls : isLs (get r2 i) with
  | false => rw [hls, if_neg (by decide)] at q2'; exact q2'.elim
  | true =>
    rw [hls, if_pos rfl] at q2'
    obtain ⟨pp, e1, _⟩ := list_there t2.st hls
    have T := Step.laid t2.st hp0 (o := .tup [v1, v2])
    refine ⟨p0, [v1, v2], rfl, SqT.of upd_same, rfl, v1, [v2], rfl, _, e1, r2, _, T.st, PO.seq (PO.shift t2.st T q2') fun x1 r3 u1 G3 H3 t3 h3 q3 => ?_⟩
    cases z : get r3 i with
    | ow b d =>
      rw [z] at q3
      cases d with
      | lst l =>
        cases x1 with
        | int n =>
          dsimp only at q3
          cases zl : setL l n y1 with
          | none => rw [zl] at q3; exact q3.elim
          | some l1 =>
            rw [zl] at q3
            dsimp only at q3
            obtain ⟨p', vs, f1, f2, rr, wr⟩ := put_ow t3.st z
            obtain rfl : p' = pp := by rw [e1] at f1; injection f1 with f1; injection f1 with f1; injection f1 with f1; exact f1.symm
            obtain ⟨j, g1, g2⟩ := setL_ok rr zl ((h1.mono (t2.ext.trans T.ext)).mono t3.ext)
            cases h3
            have W1 := wr _ _ g2
            refine ⟨p', vs, n, j, rfl, rfl, f2, g1, v2, [], rfl, _, e1, _, _, W1.st, PO.seq (PO.shift T.st (t3.trans W1) q3) fun x2 r4 u2 G4 H4 t4 h4 q4 => ?_⟩
            cases z4 : get r4 i with
            | ow b d =>
              rw [z4] at q4
              cases d with
              | lst l =>
                cases x2 with
                | int m =>
                  dsimp only at q4
                  cases zl4 : setL l m y2 with
                  | none => rw [zl4] at q4; exact q4.elim
                  | some l' =>
                    rw [zl4] at q4
                    obtain ⟨p4, vs4, k1, k2, kr, kw⟩ := put_ow t4.st z4
                    have ep : p4 = p' := by rw [e1] at k1; injection k1 with k1; injection k1 with k1; injection k1 with k1; exact k1.symm
                    rw [ep] at k2 kw
                    obtain ⟨j4, g3, g4⟩ := setL_ok kr zl4 (((h2.mono T.ext).mono t3.ext).mono (W1.ext.trans t4.ext))
                    cases h4
                    exact ⟨p', vs4, m, j4, rfl, rfl, k2, g3, rfl, q4 _ _ _ (t4.trans (kw _ _ g4))⟩
                | _ => exact q4.elim
              | _ => cases x2 <;> exact q4.elim
            | _ => rw [z4] at q4; cases x2 <;> exact q4.elim
        | _ => exact q3.elim
      | _ => cases x1 <;> exact q3.elim
    | _ => rw [z] at q3; cases x1 <;> exact q3.elim
end
end CW

set_option Elab.async false
set_option linter.all false
set_option maxRecDepth 100000
/-! Lists that grow, attributes that are set. -/
namespace CW
open PySem PySem.Spec PyProof.Rows L2
section
variable {N : List String} {sc ss : Scope} {X : Cx} {W : WX} {nw : Bool} {i j : Nat} {x y : PySem.Str} {px py pt p apos cpos pos : Pos} {e a b c tg : Expr} {fa fb fc fd : Env → Ev D} {fs gs : Env → Out}
theorem ptr_eq {σ : L2.St} {p q : Addr} (e1 : σ[i]? = some (some (V.ref p))) (e2 : σ[i]? = some (some (V.ref q))) : q = p := by
  rw [e1] at e2; injection e2 with e2; injection e2 with e2; injection e2 with e2; exact e2.symm
theorem snd_app (h : PE X (.Name x p) (tVar i)) (ha : PE X a (tX X.K W (rF X.K) fa)) (na : noStar a = true) (hl : (apos.endLine == cpos.line) = true) :
    PS X (.Expr (.Call (.Attribute (.Name x p) ("append" : Str) apos) [a] [] cpos) pos) (tS X.K W nw (fun r => if isLs (get r i) then (fa r).out fun d r1 => (match get r1 i with
    | .ow b (.lst l) => if l.length < SZ then .nx (put r1 i (.ow b (.lst (l ++ [d])))) else .no
    | _ => .no) else .no)) := by
  refine (ps_expr (pe_bm PySem.F.plainAttrs_list PySem.F.slot_list_append PySem.F.type_list_append mt_append h (pa_cons ha pa_nil (noStar_ok na)) rfl (few_ok na) hl (noStar_ok na) rfl) rfl).imp fun D σ H _ ⟨r, G, s, q⟩ => ?_
  dsimp only at q
  cases hls : isLs (get r i) with
  | false => rw [hls, if_neg (by decide)] at q; exact q.elim
  | true =>
    rw [hls, if_pos rfl] at q
    obtain ⟨p0, e1, e2⟩ := list_there s hls
    refine ⟨_, e1, e2, r, G, s, q.seq fun d r1 v G1 H1 t h3 w2 => ?_⟩
    cases z : get r1 i with
    | ow b d0 =>
      rw [z] at w2
      cases d0 with
      | lst l =>
        dsimp only at w2
        by_cases hz : l.length < SZ
        · rw [if_pos hz] at w2
          obtain ⟨p', vs, f1, f2, rr, wr⟩ := put_ow t.st z
          obtain rfl := ptr_eq e1 f1
          exact ⟨p', vs, v, rfl, rfl, f2, by rw [rr.length, ← sz_line]; exact hz, w2 _ _ _ (t.trans (wr _ _ (rr.append (.one h3))))⟩
        · rw [if_neg hz] at w2; exact w2.elim
      | _ => exact w2.elim
    | _ => rw [z] at w2; exact w2.elim
theorem snd_ext (h : PE X (.Name x p) (tVar i)) (ha : PE X a (tX X.K W (rF X.K) fa)) (na : noStar a = true) (hl : (apos.endLine == cpos.line) = true) :
    PS X (.Expr (.Call (.Attribute (.Name x p) ("extend" : Str) apos) [a] [] cpos) pos) (tS X.K W nw (fun r => if isLs (get r i) then (fa r).out fun d r1 => (match get r1 i, d with
    | .ow b (.lst l), .lst m => if l.length + m.length ≤ SZ then .nx (put r1 i (.ow b (.lst (l ++ m)))) else .no
    | _, _ => .no) else .no)) := by
  refine (ps_expr (pe_bm PySem.F.plainAttrs_list PySem.F.slot_list_extend PySem.F.type_list_extend mt_extend h (pa_cons ha pa_nil (noStar_ok na)) rfl (few_ok na) hl (noStar_ok na) rfl) rfl).imp fun D σ H _ ⟨r, G, s, q⟩ => ?_
  dsimp only at q
  cases hls : isLs (get r i) with
  | false => rw [hls, if_neg (by decide)] at q; exact q.elim
  | true =>
    rw [hls, if_pos rfl] at q
    obtain ⟨p0, e1, e2⟩ := list_there s hls
    refine ⟨_, e1, e2, r, G, s, q.seq fun d r1 v G1 H1 t h3 w2 => ?_⟩
    cases z : get r1 i with
    | ow b d0 =>
      rw [z] at w2
      cases d0 with
      | lst l =>
        cases d with
        | lst m =>
          dsimp only at w2
          by_cases hz : l.length + m.length ≤ SZ
          · rw [if_pos hz] at w2
            obtain ⟨p', vs, f1, f2, rr, wr⟩ := put_ow t.st z
            obtain rfl := ptr_eq e1 f1
            have h3' : Rep X.K G1 v (.lst m) := h3
            cases h3' with
            | lst g1 r2 => exact ⟨p', _, vs, _, rfl, rfl, f2, t.st.sub _ _ g1, by rw [rr.length, r2.length, ← sz_line]; exact hz, w2 _ _ _ (t.trans (wr _ _ (rr.append r2)))⟩
          · rw [if_neg hz] at w2; exact w2.elim
        | _ => exact w2.elim
      | _ => cases d <;> exact w2.elim
    | _ => rw [z] at w2; cases d <;> exact w2.elim
theorem few2_ok {env : PySem.Env} (na : noStar a = true) (nb : noStar b = true) : ((backTo cpos (starEach [a, b] env)).all (fun x => !x.1) && (backToKw cpos (keywordEach [] env)).all (fun x => x.1.isSome)
      && decide (([a, b] : List Expr).length + ([] : List Keyword).length + (if ([] : List Keyword).isEmpty then 0 else 1) < 30)) = true := by
  rw [noStar_ok na, noStar_ok nb]; rfl
theorem snd_ins0 (h : PE X (.Name x p) (tVar i)) (hz : PE X c (tC (.int 0))) (nc : noStar c = true) (ha : PE X a (tX X.K W (rF X.K) fa)) (na : noStar a = true) (hl : (apos.endLine == cpos.line) = true) :
    PS X (.Expr (.Call (.Attribute (.Name x p) ("insert" : Str) apos) [c, a] [] cpos) pos) (tS X.K W nw (fun r => if isLs (get r i) then (fa r).out fun d r1 => (match get r1 i with
    | .ow b (.lst l) => if l.length < SZ then .nx (put r1 i (.ow b (.lst (d :: l)))) else .no
    | _ => .no) else .no)) := by
  refine (ps_expr (pe_bm PySem.F.plainAttrs_list PySem.F.slot_list_insert PySem.F.type_list_insert mt_insert h (pa_cons hz (pa_cons ha pa_nil (noStar_ok na)) (noStar_ok nc)) rfl (few2_ok nc na) hl (noStar_ok nc) (backTo_ok (by simp [na]))) rfl).imp fun D σ H _ ⟨r, G, s, q⟩ => ?_
  dsimp only at q
  cases hls : isLs (get r i) with
  | false => rw [hls, if_neg (by decide)] at q; exact q.elim
  | true =>
    rw [hls, if_pos rfl] at q
    obtain ⟨p0, e1, e2⟩ := list_there s hls
    refine ⟨_, e1, e2, r, G, s, q.seq fun d r1 v G1 H1 t h3 w2 => ?_⟩
    cases z : get r1 i with
    | ow b d0 =>
      rw [z] at w2
      cases d0 with
      | lst l =>
        dsimp only at w2
        by_cases hz : l.length < SZ
        · rw [if_pos hz] at w2
          obtain ⟨p', vs, f1, f2, rr, wr⟩ := put_ow t.st z
          obtain rfl := ptr_eq e1 f1
          exact ⟨p', vs, 0, v, rfl, rfl, f2, by rw [rr.length, ← sz_line]; exact hz, by decide, by decide, w2 _ _ _ (t.trans (wr _ _ (.cons h3 rr)))⟩
        · rw [if_neg hz] at w2; exact w2.elim
      | _ => exact w2.elim
    | _ => rw [z] at w2; exact w2.elim
theorem snd_rvs (h : PE X (.Name x p) (tVar i)) (hl : (apos.endLine == cpos.line) = true) :
    PS X (.Expr (.Call (.Attribute (.Name x p) ("reverse" : Str) apos) [] [] cpos) pos) (tS X.K W nw (fun r => match get r i with
    | .ow b (.lst l) => .nx (put r i (.ow b (.lst l.reverse)))
    | _ => .no)) := by
  refine (ps_expr (pe_bm0 PySem.F.plainAttrs_list PySem.F.slot_list_reverse PySem.F.type_list_reverse mt_reverse h rfl hl) rfl).imp fun D σ H _ ⟨r, G, s, q⟩ => ?_
  dsimp only at q
  cases z : get r i with
  | ow b d0 =>
    rw [z] at q
    cases d0 with
    | lst l =>
      obtain ⟨p', vs, f1, f2, rr, wr⟩ := put_ow s z
      exact ⟨_, f1, .inl ⟨rfl, _, SqL.of f2⟩, p', vs, rfl, rfl, f2, q _ _ _ (wr _ _ rr.reverse)⟩
    | _ => exact q.elim
  | _ => rw [z] at q; exact q.elim

/-! ### attributes -/
theorem enc_eq {a b : String} : (enc a = enc b) ↔ a = b := ⟨enc_inj, fun h => by rw [h]⟩
theorem putF_ok {K : PySem.W.Frag} {G : Hp} {f : String} {v : V} {d : D} (hv : Rep K G v d) : ∀ {fs : List (Str × V)} {ns : List String} {ds : List D}, fs.map (·.1) = ns.map enc → Reps K G (fs.map (·.2)) ds →
    (L2.putF (enc f) v fs).map (·.1) = (CW.putF f d ns ds).1.map enc ∧ Reps K G ((L2.putF (enc f) v fs).map (·.2)) (CW.putF f d ns ds).2
  | [], [], [], _, _ => ⟨rfl, .cons hv .nil⟩
  | [], [], _ :: _, _, r => by cases r
  | [], _ :: _, _, h, _ => by cases h
  | _ :: _, [], _, h, _ => by cases h
  | _ :: _, _ :: _, [], _, r => by cases r
  | (g, u) :: fs, n :: ns, d0 :: ds, h, r => by
    have h1 : g = enc n ∧ fs.map (·.1) = ns.map enc := by
      have := List.cons.inj h
      exact this
    cases r with
    | cons r0 r =>
      obtain ⟨a1, a2⟩ := putF_ok hv h1.2 r
      by_cases z : f = n
      · have zg : g = enc f := by rw [h1.1, z]
        have e1 : L2.putF (enc f) v ((g, u) :: fs) = (g, v) :: fs := by show (if g = enc f then _ else _) = _; rw [if_pos zg]
        have e2 : CW.putF f d (n :: ns) (d0 :: ds) = (n :: ns, d :: ds) := by show (if (f == n) = true then _ else _) = _; rw [if_pos (by simp [z])]
        rw [e1, e2]
        exact ⟨by rw [List.map_cons, List.map_cons, h1.2]; show g :: _ = enc n :: _; rw [h1.1], .cons hv r⟩
      · have zg : ¬ g = enc f := fun w => z (enc_inj (by rw [← w, h1.1]))
        have e1 : L2.putF (enc f) v ((g, u) :: fs) = (g, u) :: L2.putF (enc f) v fs := by show (if g = enc f then _ else _) = _; rw [if_neg zg]
        have e2 : CW.putF f d (n :: ns) (d0 :: ds) = (n :: (CW.putF f d ns ds).1, d0 :: (CW.putF f d ns ds).2) := by show (if (f == n) = true then _ else _) = _; rw [if_neg (by simp [z])]
        rw [e1, e2]
        exact ⟨by rw [List.map_cons, List.map_cons, a1]; show g :: _ = enc n :: _; rw [h1.1], .cons r0 a2⟩
/-- ahead of a store into an attribute: an instance stands there -/
def isIn : Sl → Bool
  | .ow _ (.ins _ _ _) => true
  | _ => false
theorem snd_setf {cs : List String} {f : String} (h : PE X (.Name x p) (tVar i)) (hn : notComp e = true) (he : PE X e (tX X.K W (rF X.K) fa)) (hc : ∀ c ∈ cs, Cls X.K (clsA X.K c) ∧ NoAttr X.K (clsA X.K c) (enc f)) :
    PS X (.Assign [.Attribute (.Name x p) (enc f) apos] e pos) (tS X.K W nw (fun r => (fa r).out fun d r1 => (match get r1 i with
    | .ow b (.ins c ns vs) => if cs.contains c && decide (ns.length < 1000) && decide (ns.length = vs.length) then .nx (put r1 i (.ow b (.ins c (CW.putF f d ns vs).1 (CW.putF f d ns vs).2))) else .no
    | _ => .no))) := by
  refine (ps_fld h he (notComp_ok hn)).imp fun D σ H _ ⟨r, G, s, q⟩ => ⟨r, G, s, q.seq fun d r1 v G1 H1 t h3 w2 => ?_⟩
  cases z : get r1 i with
  | ow b d0 =>
    rw [z] at w2
    cases d0 with
    | ins c ns vs =>
      dsimp only at w2
      cases hz : (cs.contains c && decide (ns.length < 1000) && decide (ns.length = vs.length)) with
      | false => rw [hz, if_neg (by decide)] at w2; exact w2.elim
      | true =>
        rw [hz, if_pos rfl] at w2
        simp only [Bool.and_eq_true, decide_eq_true_eq, List.contains_iff_mem] at hz
        obtain ⟨c1, c2⟩ := hc c hz.1.1
        obtain ⟨p', o, e1, e2, e3, dx, fs, rfl, m, rr⟩ := t.st.owned z
        obtain ⟨g1, g2⟩ := putF_ok h3 m rr
        have hlen : fs.length < 1000 := by
          have := congrArg List.length m
          rw [List.length_map, List.length_map] at this
          omega
        exact ⟨_, e1, p', _, dx, fs, rfl, e2, c1, c2, hlen, w2 _ _ _ (t.trans (Step.write t.st z e1 ⟨dx, _, rfl, g1, g2⟩))⟩
    | _ => exact w2.elim
  | _ => rw [z] at w2; exact w2.elim
/-- x = [..] -/
theorem swL_ok {elt : Expr} {gs : List Comprehension} {scope : Scope} {lpos : Pos} {l : Nat} {env : PySem.Env} (hk : env.scope.kind = .function) (hy : env.scope.names.lookup y = some .local) (hl : (py.line == lpos.line) = true) (ha : (scope.names.any fun (n, k) => n == y && (k == .local || k == .cell)) = false) :
    swapsWith (.ListComp elt gs scope lpos) (some (.Name y py)) l env = pure true := sw_true hk hy hl ha
theorem asg_lc {K : PySem.W.Frag} {f : Env → Ev D} {Dn : Ends} {σ : L2.St} {H : Hp} (hlt : ∀ r : Env, r.length = σ.length → i < r.length) (h : tS K W nw (fun r => (f r).out fun d r1 => if free (get r1 i) then .nx (put r1 i (.ow false d)) else .no) Dn σ H) :
    tAsg (tX K W (rN K) f) (gName i) Dn σ H := by
  obtain ⟨r, G, s, q⟩ := h
  exact ⟨r, G, s, q.seq fun d r1 v G1 H1 t h4 q2 => setN_end t (hlt _ t.st.len) h4 q2⟩
end
end CW

set_option Elab.async false
set_option linter.all false
set_option maxRecDepth 100000
/-! try with several clauses that bind one name; raise. -/
namespace CW
open PySem PySem.Spec PyProof.Rows L2
abbrev HT := Value × (Addr → Value → Option Addr → TS)
/-- the slot of the clause's name is emptied at each end -/
abbrev offEnd (D : Ends) (i : Nat) : Ends := { nx := fun σ H => D.nx (σ.set i none) H, rt := D.rt, bk := fun σ H => D.bk (σ.set i none) H, ct := fun σ H => D.ct (σ.set i none) H }
/-- what the clauses ask of an error of the body -/
def wAll (K : PySem.W.Frag) (Wo : WX) (D : Ends) (i : Nat) : List HT → WX
  | [] => Wo
  | (c, ts) :: l => fun k d σ H => ∃ b, PySem.W.exmOne K k c = some b ∧ (b = true → ∀ a, H a = none → ts a k d (offEnd D i) (σ.set i (some (.ref a))) H) ∧ (b = false → wAll K Wo D i l k d σ H)
inductive Hds (X : Cx) (n : Str) : List ExceptHandler → List HT → Prop
  | nil : Hds X n [] []
  | cons {x : Str} {c : Value} {ts : Addr → Value → Option Addr → TS} {st : Stmt} {sts : List Stmt} {np hp : Pos} {hds : List ExceptHandler} {l : List HT} (hc : Names X x c)
      (hsu : ∀ (a : Addr) (oe : Obj) (k : Value) (d : Option Addr) (pn : List (Addr × Obj)), Zc k d oe → (∃ vs, oe.data = .fields vs) → PSs (X.suite a ((a, oe) :: pn)) (st :: sts) (ts a k d)) (r : Hds X n hds l) :
      Hds X n (.ExceptHandler (some (.Name x np)) (some n) (st :: sts) hp :: hds) ((c, ts) :: l)
section
variable {X : Cx} {n : Str} {i : Nat} {body : List Stmt} {h₀ : ExceptHandler} {hds : List ExceptHandler} {l : List HT} {pos : Pos} {tb : WX → TS} {Wo : WX}
theorem ps_try_all (hs : X.stack = X.env :: X.outer) (hf : X.env.frame = some X.env.locals) (hN : X.N.Nodup) (hi : X.N[i]? = some n) (hln : X.env.kindOf n = some .local) (tk : Takes X Wo)
    (hb : ∀ (W : WX) (pn : List (Addr × Obj)) (xe : Value → Shared → Prop), Takes (X.tr pn xe) W → PassesOwn (model X.prog X.w) X.A X.env xe → PSs (X.tr pn xe) body (tb W))
    (hh : Hds X n (h₀ :: hds) l) : PS X (.Try body (h₀ :: hds) [] [] pos) (fun D σ H => tb (wAll X.K Wo D i l) D σ H) := by
  refine ⟨fun pins s σ H D I h => ?_⟩
  have ok := I.ok
  have hfr : X.A.frames = some (X.env :: X.outer) := by rw [ok.frames, hs]
  have hloc : L2.Loc X.env.scope n := .inl hln
  refine wpAny_Try_except ?_
  refine wpAny_mono ((hb (wAll X.K Wo D i l) (X.pn ++ pins) (fun e s₁ => wpAny (model X.prog X.w) X.A (noteFrame e X.env) (fun _ s₂ => wpAny (model X.prog X.w) X.A (setFlight e none) (fun _ s₃ =>
    wpAny (model X.prog X.w) X.A (handleBy e X.env (h₀ :: hds)) (SP X pins D) X.xe s₃) X.xe s₂) X.xe s₁) (fun u s' xx => ?_) PassesOwn.looking).run [] s σ H D (I.toTry _) h) (fun f s1 hsp => ?_) (fun e s1 he => he)
  · obtain ⟨a, B, sI, pins', σ', H', k, d, rfl, J', nb, up, sky, na, os, ag, w⟩ := xx
    have J : Inv X pins σ' H' sI := J'.ofTry ok
    have sky' : Sky B (X.env :: X.outer) a (Zc k d) X.env.locals s'.heap := by rw [← hs]; exact sky
    show wpAny (model X.prog X.w) X.A (noteFrame (.ref a) X.env) _ _ _
    refine Sky.land Zc.steady hfr hf sky' fun h3 fl3 up3 => ?_
    have J3 : Inv X pins σ' H' { s' with heap := h3 } := J.landed nb fl3.1 (up.trans up3) os ag
    obtain ⟨oe3, vs3, he3, hz3, hd3⟩ := fl3.there
    have nfr : a ∉ frs (X.env :: X.outer) := fun hm => by
      obtain ⟨_, o', e', hnf⟩ := fl3.2.2.1.mem hm
      rw [he3] at e'; cases e'
      exact hnf _ hd3
    have nL : a ≠ X.env.locals := fun z => nfr (List.mem_filterMap.mpr ⟨X.env, List.mem_cons_self, by rw [hf, z]⟩)
    have nF : a ∉ X.fs := fun hm => by
      obtain ⟨e, he, q⟩ := List.mem_filterMap.mp hm
      exact nfr (List.mem_filterMap.mpr ⟨e, List.mem_cons_of_mem _ he, q⟩)
    have S3 := J3.suite he3 hd3 na nL nF
    have go : ∀ {hs2 : List ExceptHandler} {l2 : List HT}, Hds X n hs2 l2 → wAll X.K Wo D i l2 k d σ' H' →
        wpAny (model X.prog X.w) X.A (handleBy (.ref a) X.env hs2) (SP X pins D) X.xe { s' with heap := h3 } := by
      intro hs2 l2 hk
      induction hk with
      | nil =>
        intro w
        refine wpAny_handleBy_nil ?_
        obtain ⟨k1, k2, k3, oe, vs, T, oT, ts', he, hz, hd, h1, hr⟩ := id fl3
        unfold PySem.passOn
        refine wpAny_bind (wpAny_field he hd h1 ?_)
        rw [if_neg (show ¬ ((Value.ref T == Value.none) = true) from by simp)]
        have fin : wpAny (model X.prog X.w) X.A (setFlight (.ref a) X.env.frame) (fun _ s4 => wpAny (model X.prog X.w) X.A (throw (.ref a) : Sem Flow) (SP X pins D) X.xe s4) X.xe { s' with heap := h3 } := by
          rw [hf]
          refine HandSPX.setFlight_upZ fl3 fun h4 hh4 up4 => wpAny_throw (tk _ _ ?_)
          exact ⟨a, B, sI, pins, σ', H', k, d, rfl, J, nb, (up.trans up3).trans up4, .inr (.inr (by rw [hs]; exact hh4)), na, os, ag, w⟩
        first
          | exact wpAny_bind (wpAny_pure (wpAny_bind fin))
          | exact wpAny_bind fin
      | @cons x c ts st sts np hp hs3 l3 hc hsu r ih =>
        intro w
        obtain ⟨b, hb1, hyes, hno⟩ := w
        refine wpAny_handleBy_cons (codeAny_handlers_test ?_) (by intro q; cases q)
        have LT : PySem.W.Looks (model X.prog X.w) h3 (typeOf (.ref a)) k := fun A Q E s kk q => wpAny_typeOf_ref (kk _ _ he3) (by rw [hz3.1]; exact q)
        have LM := PySem.W.exm_one (M := model X.prog X.w) (J3.kIn) LT hb1
        have test : ∀ {Q : Value → Shared → Prop} {E : Value → Shared → Prop}, Q c { s' with heap := h3 } → wpAny (model X.prog X.w) (X.A.mark (some (.ref a))) (eval (.Name x np) X.env) Q E { s' with heap := h3 } := fun {Q E} q => by
          obtain ⟨hg, hdbg, hm | ⟨hm, hv, hnn⟩⟩ := hc
          · exact ld_glob (X := X.suite a ((a, oe3) :: (X.pn ++ pins))) S3 hg hm q hdbg
          · exact ld_blt (X := X.suite a ((a, oe3) :: (X.pn ++ pins))) S3 hg hm hv q hnn hdbg
        refine test (LM.here ?_)
        cases b with
        | true =>
          refine codeAny_handlers_suite_as ?_
          refine HandSPX.lands_againZ fl3 fun h4 fl4 up4 => ?_
          have J4 : Inv X pins σ' H' { s' with heap := h4 } := J.landed nb fl4.1 ((up.trans up3).trans up4) os ag
          obtain ⟨oe4, vs4, he4, hz4, hd4⟩ := fl4.there
          have S4 := J4.suite he4 hd4 na nL nF
          refine store_ok (X := X.suite a ((a, oe4) :: (X.pn ++ pins))) (v := .ref a) S4 hN hi hloc rfl (fun s5 S5 => ?_) (.inr hln)
          refine wpAny_mono ((hsu a oe4 k d (X.pn ++ pins) hz4 ⟨_, hd4⟩).run [] s5 _ H' _ S5 (hyes rfl a na)) (fun f s6 hsp => ?_) (fun _ _ z => False.elim z)
          have out : ∀ {σ6 : L2.St} {H6 : Hp} {Q : Shared → Prop}, Inv (X.suite a ((a, oe4) :: (X.pn ++ pins))) [] σ6 H6 s6 → (∀ s7, Inv X pins (σ6.set i none) H6 s7 → Q s7) →
              wpAny (model X.prog X.w) X.A (do bindName X.env n .none; unbindBehindTheSuite X.env n hp) (fun _ s7 => Q s7) X.xe s6 := fun {σ6 H6 Q} S6 hq => gone_ok (S6.unsuite ok) hN hi hln hq
          cases f with
          | next =>
            obtain ⟨σ6, H6, S6, q6⟩ := hsp
            exact out S6 fun s7 J7 => ⟨_, _, J7, q6⟩
          | brk =>
            obtain ⟨σ6, H6, S6, q6⟩ := hsp
            exact out S6 fun s7 J7 => ⟨_, _, J7, q6⟩
          | cont =>
            obtain ⟨σ6, H6, S6, q6⟩ := hsp
            exact out S6 fun s7 J7 => ⟨_, _, J7, q6⟩
          | ret u =>
            obtain ⟨v6, σ6, H6, S6, r6, q6⟩ := hsp
            exact out S6 fun s7 J7 => ⟨_, _, _, J7, r6, q6⟩
        | false =>
          show wpAny _ X.A (handleBy (.ref a) X.env hs3) _ _ _
          exact ih (hno rfl)
    exact go hh w
  · cases f with
    | next =>
      obtain ⟨σ', H', J', q⟩ := hsp
      exact wpAny_execs_nil ⟨σ', H', J'.ofTry ok, q⟩
    | brk =>
      obtain ⟨σ', H', J', q⟩ := hsp
      exact ⟨σ', H', J'.ofTry ok, q⟩
    | cont =>
      obtain ⟨σ', H', J', q⟩ := hsp
      exact ⟨σ', H', J'.ofTry ok, q⟩
    | ret u =>
      obtain ⟨v, σ', H', J', r, q⟩ := hsp
      exact ⟨v, σ', H', J'.ofTry ok, r, q⟩
end
end CW

set_option Elab.async false
set_option linter.all false
set_option maxRecDepth 100000
namespace CW
open PySem PySem.Spec PyProof.Rows L2

/-- a slot is forgotten, whatever stands in the frame then -/
theorem Step.off {K : PySem.W.Frag} {r : Env} {σ σ' : L2.St} {G H : Hp} {i : Nat} (s : StRel K r σ G H) (fr : free (get r i) = true) (bt : But [i] σ σ') : Step K r σ G H (put r i .un) σ' G H := by
  by_cases hi : i < r.length
  · have gi : ∀ j, get (put r i .un) j = if j = i then .un else get r j := fun j => get_put _ _ _ _ hi
    have at' : ∀ j, j ≠ i → σ'[j]? = σ[j]? := fun j hj => bt.2 j fun z => hj (List.mem_singleton.mp z)
    refine ⟨⟨by rw [put_len, bt.1]; exact s.len, s.sub, fun j => ?_, fun j k p hj hk ej ek => ?_⟩, Same.refl _, fun _ z => z, fun _ _ _ => ⟨rfl, id⟩, fun p ⟨j, c, x, g, e⟩ => ?_, fun p ⟨j, g, e⟩ => ?_, fun j x g => ?_, fun j c x g => ?_⟩
    · rw [gi]
      by_cases z : j = i
      · rw [if_pos z]; trivial
      · rw [if_neg z, at' j z]; exact s.sl j
    · rw [gi] at hj hk
      by_cases z : j = i
      · rw [if_pos z] at hj; cases hj
      · by_cases z' : k = i
        · rw [if_pos z'] at hk; cases hk
        · rw [if_neg z] at hj
          rw [if_neg z'] at hk
          rw [at' j z] at ej
          rw [at' k z'] at ek
          exact s.inj j k p hj hk ej ek
    · rw [gi] at g
      by_cases z : j = i
      · rw [if_pos z] at g; cases g
      · rw [if_neg z] at g; exact .inl ⟨j, c, x, g, by rw [← at' j z]; exact e⟩
    · rw [gi] at g
      by_cases z : j = i
      · rw [if_pos z] at g; cases g
      · rw [if_neg z] at g; exact .inl ⟨j, g, by rw [← at' j z]; exact e⟩
    · have z : j ≠ i := fun z => by rw [z] at g; rw [g] at fr; cases fr
      exact ⟨at' j z, x, by rw [gi, if_neg z]; exact g⟩
    · have z : j ≠ i := fun z => by rw [z] at g; rw [g] at fr; cases fr
      exact ⟨at' j z, by rw [gi, if_neg z]; exact g⟩
  · have e : σ' = σ := by
      apply List.ext_getElem?
      intro j
      by_cases z : j = i
      · rw [z, List.getElem?_eq_none (by rw [bt.1, ← s.len]; omega), List.getElem?_eq_none (by rw [← s.len]; omega)]
      · exact bt.2 j fun y => z (List.mem_singleton.mp y)
    rw [put_out _ _ _ (Nat.le_of_not_lt hi), e]
    exact .refl s

/-! ### constants, in any context -/
mutual
def conB : E → Expr → Bool
  | .int i, .Constant (.int j) _ _ => decide (i = j)
  | .str s, .Constant (.str t) _ _ => decide (t = enc s)
  | .bl b, .Constant (.bool c) _ _ => decide (b = c)
  | .non, .Constant .none _ _ => true
  | .tup es, .Tuple l _ _ => consB es l
  | _, _ => false
def consB : Es → List Expr → Bool
  | .nil, [] => true
  | .cons e es, x :: l => noStar x && (conB e x && consB es l)
  | _, _ => false
end
mutual
theorem con_sound {X : Cx} {W : WX} {cf : CF} : ∀ {e : E} {x : Expr}, conB e x = true → PE X x (tX X.K W (rF X.K) (evE cf e))
  | .int i, x, h => by
    cases x with
    | Constant c k p =>
      cases c with
      | int j => obtain rfl : i = j := of_decide_eq_true h; exact snd_con pe_int fun _ => .int i
      | _ => exact Bool.noConfusion h
    | _ => exact Bool.noConfusion h
  | .str s, x, h => by
    cases x with
    | Constant c k p =>
      cases c with
      | str j => obtain rfl : j = enc s := of_decide_eq_true h; exact snd_con pe_str fun _ => .str s
      | _ => exact Bool.noConfusion h
    | _ => exact Bool.noConfusion h
  | .bl b, x, h => by
    cases x with
    | Constant c k p =>
      cases c with
      | bool j => obtain rfl : b = j := of_decide_eq_true h; exact snd_con pe_bl fun _ => .bl b
      | _ => exact Bool.noConfusion h
    | _ => exact Bool.noConfusion h
  | .non, x, h => by
    cases x with
    | Constant c k p =>
      cases c with
      | none => exact snd_con pe_non fun _ => .non
      | _ => exact Bool.noConfusion h
    | _ => exact Bool.noConfusion h
  | .tup es, x, h => by
    cases x with
    | Tuple l k p => exact snd_tup (cons_sound (es := es) h)
    | _ => exact Bool.noConfusion h
  | .var _, x, h => by cases x <;> exact Bool.noConfusion h
  | .frz _, x, h => by cases x <;> exact Bool.noConfusion h
  | .cst _ _, x, h => by cases x <;> exact Bool.noConfusion h
  | .op1 _ _, x, h => by cases x <;> exact Bool.noConfusion h
  | .op2 _ _ _, x, h => by cases x <;> exact Bool.noConfusion h
  | .chain _ _ _ _ _, x, h => by cases x <;> exact Bool.noConfusion h
  | .bop _ _, x, h => by cases x <;> exact Bool.noConfusion h
  | .ite _ _ _, x, h => by cases x <;> exact Bool.noConfusion h
  | .lst _, x, h => by cases x <;> exact Bool.noConfusion h
  | .sl _ _ _ _, x, h => by cases x <;> exact Bool.noConfusion h
  | .fld _ _ _, x, h => by cases x <;> exact Bool.noConfusion h
  | .call _ _ _ _, x, h => by cases x <;> exact Bool.noConfusion h
  | .make _ _ _, x, h => by cases x <;> exact Bool.noConfusion h
  | .meth _ _ _ _ _ _, x, h => by cases x <;> exact Bool.noConfusion h
  | .eqo _ _ _ _, x, h => by cases x <;> exact Bool.noConfusion h
  | .isi _ _, x, h => by cases x <;> exact Bool.noConfusion h
  | .pop _, x, h => by cases x <;> exact Bool.noConfusion h
  | .popAt _ _, x, h => by cases x <;> exact Bool.noConfusion h
  | .lrng _ _ _, x, h => by cases x <;> exact Bool.noConfusion h
  | .lc _ _ _ _ _, x, h => by cases x <;> exact Bool.noConfusion h
theorem cons_sound {X : Cx} {W : WX} {cf : CF} : ∀ {es : Es} {l : List Expr}, consB es l = true → PA X l (tX X.K W (rL X.K) (evEs cf es))
  | .nil, [], _ => snd_nil
  | .nil, _ :: _, h => Bool.noConfusion h
  | .cons _ _, [], h => Bool.noConfusion h
  | .cons e es, x :: l, h => by
    have h' : noStar x = true ∧ conB e x = true ∧ consB es l = true := by simpa [consB] using h
    exact snd_cons h'.1 (con_sound h'.2.1) (cons_sound h'.2.2)
end
/-- a constant's value: no state in it -/
def conV : E → Option D
  | .int i => some (.int i)
  | .str s => some (.str s)
  | .bl b => some (.bl b)
  | .non => some .non
  | _ => none
mutual
theorem con_pure {cf : CF} : ∀ {e : E} {x : Expr}, conB e x = true → ∃ r : Option D, ∀ ρ, evE cf e ρ = (match r with | some d => .ok d ρ | none => .no)
  | .int i, _, _ => ⟨some (.int i), fun _ => rfl⟩
  | .str i, _, _ => ⟨some (.str i), fun _ => rfl⟩
  | .bl i, _, _ => ⟨some (.bl i), fun _ => rfl⟩
  | .non, _, _ => ⟨some .non, fun _ => rfl⟩
  | .tup es, x, h => by
    cases x with
    | Tuple l k p =>
      obtain ⟨r, hr⟩ := cons_pure (cf := cf) (es := es) (l := l) h
      cases r with
      | none => exact ⟨none, fun ρ => by simp only [evE, hr ρ, Ev.bind]⟩
      | some ds =>
        by_cases hz : ds.length ≤ SZ
        · exact ⟨some (.tup ds), fun ρ => by simp only [evE, hr ρ, Ev.bind, if_pos hz]⟩
        · exact ⟨none, fun ρ => by simp only [evE, hr ρ, Ev.bind, if_neg hz]⟩
    | _ => exact Bool.noConfusion h
  | .var _, x, h => by cases x <;> exact Bool.noConfusion h
  | .frz _, x, h => by cases x <;> exact Bool.noConfusion h
  | .cst _ _, x, h => by cases x <;> exact Bool.noConfusion h
  | .op1 _ _, x, h => by cases x <;> exact Bool.noConfusion h
  | .op2 _ _ _, x, h => by cases x <;> exact Bool.noConfusion h
  | .chain _ _ _ _ _, x, h => by cases x <;> exact Bool.noConfusion h
  | .bop _ _, x, h => by cases x <;> exact Bool.noConfusion h
  | .ite _ _ _, x, h => by cases x <;> exact Bool.noConfusion h
  | .lst _, x, h => by cases x <;> exact Bool.noConfusion h
  | .sl _ _ _ _, x, h => by cases x <;> exact Bool.noConfusion h
  | .fld _ _ _, x, h => by cases x <;> exact Bool.noConfusion h
  | .call _ _ _ _, x, h => by cases x <;> exact Bool.noConfusion h
  | .make _ _ _, x, h => by cases x <;> exact Bool.noConfusion h
  | .meth _ _ _ _ _ _, x, h => by cases x <;> exact Bool.noConfusion h
  | .eqo _ _ _ _, x, h => by cases x <;> exact Bool.noConfusion h
  | .isi _ _, x, h => by cases x <;> exact Bool.noConfusion h
  | .pop _, x, h => by cases x <;> exact Bool.noConfusion h
  | .popAt _ _, x, h => by cases x <;> exact Bool.noConfusion h
  | .lrng _ _ _, x, h => by cases x <;> exact Bool.noConfusion h
  | .lc _ _ _ _ _, x, h => by cases x <;> exact Bool.noConfusion h
theorem cons_pure {cf : CF} : ∀ {es : Es} {l : List Expr}, consB es l = true → ∃ r : Option (List D), ∀ ρ, evEs cf es ρ = (match r with | some d => .ok d ρ | none => .no)
  | .nil, [], _ => ⟨some [], fun _ => rfl⟩
  | .nil, _ :: _, h => Bool.noConfusion h
  | .cons _ _, [], h => Bool.noConfusion h
  | .cons e es, x :: l, h => by
    have h' : noStar x = true ∧ conB e x = true ∧ consB es l = true := by simpa [consB] using h
    obtain ⟨r, hr⟩ := con_pure (cf := cf) h'.2.1
    obtain ⟨q, hq⟩ := cons_pure (cf := cf) h'.2.2
    cases r with
    | none => exact ⟨none, fun ρ => by simp only [evEs, hr ρ, Ev.bind]⟩
    | some d =>
      cases q with
      | none => exact ⟨none, fun ρ => by simp only [evEs, hr ρ, hq ρ, Ev.bind]⟩
      | some ds => exact ⟨some (d :: ds), fun ρ => by simp only [evEs, hr ρ, hq ρ, Ev.bind]⟩
end

/-! ### try -/
/-- the own errors, as a context knows them -/
structure ErrOk (K : PySem.W.Frag) (mg : Str → Option Value) (Y : Ex) : Prop where
  nm : ∀ c ∈ Y.cls, mg (enc c) = some (.ref (clsA K c))
  ex : ∀ a ∈ Y.cls, ∀ b ∈ Y.cls, PySem.W.exmOne K (.ref (clsA K a)) (.ref (clsA K b)) = some (Y.sub a b)
/-- the clauses -/
def hsB (sc : Scope) (Y : Ex) (n : Str) : Hs → List ExceptHandler → Bool
  | .nil, [] => true
  | .cons c e hs, .ExceptHandler (some (.Name x _)) (some n') [.Return (some x') _] _ :: l => (decide (n' = n) && (decide (x = enc c) && (globB sc x && plainN x))) && (Y.cls.contains c && (conB e x' && hsB sc Y n hs l))
  | _, _ => false
def hsL (K : PySem.W.Frag) (cf : CF) : Hs → List HT
  | .nil => []
  | .cons c e hs => (.ref (clsA K c), fun _ _ _ => tRet (tX K W0 (rF K) (evE cf e))) :: hsL K cf hs
theorem hsB_cons {sc : Scope} {Y : Ex} {n : Str} {c : String} {e : E} {hs : Hs} {hd : ExceptHandler} {l : List ExceptHandler} (h : hsB sc Y n (.cons c e hs) (hd :: l) = true) :
    ∃ px x' pr ph, hd = .ExceptHandler (some (.Name (enc c) px)) (some n) [.Return (some x') pr] ph ∧ globB sc (enc c) = true ∧ plainN (enc c) = true ∧ c ∈ Y.cls ∧ conB e x' = true ∧ hsB sc Y n hs l = true := by
  unfold hsB at h
  split at h
  · next a => cases a
  · next c' e' hs' x px n' x' pr ph l' a1 a2 =>
    injection a1 with b1 b2 b3
    injection a2 with d1 d2
    subst b1; subst b2; subst b3; subst d1; subst d2
    simp only [Bool.and_eq_true, decide_eq_true_eq] at h
    obtain ⟨⟨rfl, rfl, h1, h2⟩, h3, h4, h5⟩ := h
    exact ⟨_, _, _, _, rfl, h1, h2, by simpa using h3, h4, h5⟩
  · cases h
section
variable {X : Cx} {cf : CF} {Y : Ex} {sc : Scope} {n : Str}
theorem hds_ok (es : X.env.scope = sc) (K0 : ErrOk X.K X.mg Y) : ∀ {hs : Hs} {l : List ExceptHandler}, hsB sc Y n hs l = true → Hds X n l (hsL X.K cf hs)
  | .nil, [], _ => .nil
  | .nil, _ :: _, h => by simp [hsB] at h
  | .cons _ _ _, [], h => by simp [hsB] at h
  | .cons c e hs, hd :: l, h => by
    obtain ⟨px, x', pr, ph, rfl, h1, h2, hc, h4, h5⟩ := hsB_cons h
    refine .cons ⟨?_, (plainN_ok h2).1, .inl (K0.nm c hc)⟩ (fun a oe k d pn _ _ => ?_) (hds_ok es K0 h5)
    · show X.env.scope.names.lookup _ = _
      rw [es]; exact globB_ok h1
    · exact pss_one (ps_ret (con_sound (X := X.suite a ((a, oe) :: pn)) h4))
theorem try_all {W : WX} {r r1 : Env} {σ σ' : L2.St} {G G' H H' : Hp} {D : Ends} {i : Nat} {x : Exn} {dx : Addr} (K0 : ErrOk X.K X.mg Y) (s : StRel X.K r σ G H) (t : Step X.K r σ G H r1 σ' G' H') (fr : free (get r1 i) = true) (hx : x.cls ∈ Y.cls) (ea : ExAt X.K G' H' dx x) :
    ∀ {hs : Hs} {l : List ExceptHandler}, hsB sc Y n hs l = true → PO X.K W false r σ G H (evH cf Y x hs (put r1 i .un)) D → wAll X.K W D i (hsL X.K cf hs) (.ref (clsA X.K x.cls)) (some dx) σ' H'
  | .nil, _, _, q => q dx σ' G' H' (t.trans (Step.off t.st fr ⟨rfl, fun _ _ => rfl⟩)) ea
  | .cons _ _ _, [], h, _ => by simp [hsB] at h
  | .cons c e hs, hd :: l, h, q => by
    obtain ⟨px, x', pr, ph, rfl, h1, h2, hc, h4, h5⟩ := hsB_cons h
    simp only [evH] at q
    refine ⟨Y.sub x.cls c, K0.ex _ hx _ hc, fun hb a _ => ?_, fun hb => ?_⟩
    · rw [hb, if_pos rfl] at q
      have T := Step.off t.st fr (σ' := σ'.set i (some (.ref a))) ⟨List.length_set, fun j hj => by rw [List.getElem?_set]; rw [if_neg (fun z => hj (List.mem_singleton.mpr z.symm))]⟩
      refine ⟨put r1 i .un, G', T.st, ?_⟩
      obtain ⟨rr, hr⟩ := con_pure (cf := cf) h4
      rw [hr] at q ⊢
      cases rr with
      | none => exact q.elim
      | some d => exact fun b G2 H2 t2 hb2 => q b _ G2 H2 (t.trans (T.trans t2)) hb2
    · rw [hb, if_neg (by decide)] at q
      exact try_all K0 s t fr hx ea h5 q
theorem snd_try {N : List String} {ss : Scope} {W : WX} {i : Nat} {body : List Stmt} {h₀ : ExceptHandler} {hds : List ExceptHandler} {pos : Pos} {hs : Hs} {fs : Env → Out} (C : CtxG N ss X) (es : X.env.scope = sc) (K0 : ErrOk X.K X.mg Y) (hst : X.stack = X.env :: X.outer) (hf : X.env.frame = some X.env.locals)
    (hi : (N.map enc)[i]? = some n) (hln : sc.names.lookup n = some .local) (tk : Takes X W) (hh : hsB sc Y n hs (h₀ :: hds) = true)
    (hb : ∀ (W' : WX) (pn : List (Addr × Obj)) (xe : Value → Shared → Prop), Takes (X.tr pn xe) W' → PassesOwn (model X.prog X.w) X.A X.env xe → PSs (X.tr pn xe) body (tS X.K W' false fs)) :
    PS X (.Try body (h₀ :: hds) [] [] pos) (tS X.K W false (fun r => match fs r with
      | .ex x r1 => if Y.cls.contains x.cls && free (get r1 i) then evH cf Y x hs (put r1 i .un) else .no
      | o => o)) := by
  refine (ps_try_all hst hf C.nd (by rw [C.eN]; exact hi) (by show X.env.scope.names.lookup n = _; rw [es]; exact hln) tk hb (hds_ok (cf := cf) es K0 hh)).imp fun D σ H _ ⟨r, G, s, q⟩ => ⟨r, G, s, ?_⟩
  dsimp only at q
  cases z : fs r with
  | ex x r1 =>
    rw [z] at q
    intro dx σ' G' H' t ea
    cases hz : (Y.cls.contains x.cls && free (get r1 i)) with
    | false => dsimp only at q; rw [hz, if_neg (by decide)] at q; exact q.elim
    | true =>
      dsimp only at q
      rw [hz, if_pos rfl] at q
      simp only [Bool.and_eq_true, List.contains_iff_mem] at hz
      exact try_all K0 s t hz.2 hz.1 ea hh q
  | _ => rw [z] at q; exact q
/-! ### raise -/
/-- an own error is made -/
def MkX (X : Cx) (c : String) : Prop := ∀ (e : Expr) (ta : TE) (p pos : Pos), noStar e = true → PE X e ta → PMk X (.Call (.Name (enc c) p) [e] [] pos) (fun σ H Q => ta σ H fun v H1 => ∀ f dx, H1 dx = none → Q (.ref (clsA X.K c)) (some dx) (upd H1 dx (.xd [(f, v)])))
theorem snd_rse {W : WX} {nw : Bool} {c : String} {e : Expr} {p pos pos' : Pos} {fa : Env → Ev D} (hc : X.calm = true) (tk : Takes X W) (hm : MkX X c) (ns : noStar e = true) (he : PE X e (tX X.K W (rF X.K) fa)) :
    PS X (.Raise (some (.Call (.Name (enc c) p) [e] [] pos)) none pos') (tS X.K W nw (fun r => (fa r).out fun d r1 => .ex ⟨c, d⟩ r1)) :=
  (ps_raise hc tk (hm e _ p pos ns he)).imp fun D σ H _ ⟨r, G, s, q⟩ => ⟨r, G, s, q.seq fun d r1 v G1 H1 t h3 q2 => fun f dx hdx => q2 dx σ _ _ (t.trans (Step.fresh t.st hdx)) ⟨_, _, upd_same, h3⟩⟩
end
end CW

set_option Elab.async false
set_option linter.all false
set_option maxRecDepth 100000
/-! Does a text say what a term of the small language says? -/
namespace CW
open PySem PySem.Spec PyProof.Rows L2

/-! ### views of a text -/
def vNm (N : List String) (sc : Scope) (i : Nat) : Expr → Bool
  | .Name x _ => nameB N sc i x
  | _ => false
theorem vNm_ok {N : List String} {sc : Scope} {i : Nat} {e : Expr} (h : vNm N sc i e = true) : ∃ x p, e = .Name x p ∧ nameB N sc i x = true := by
  cases e <;> first | (exact Bool.noConfusion h) | exact ⟨_, _, rfl, h⟩
def vTup : Expr → Option (List Expr)
  | .Tuple l _ _ => some l
  | _ => none
theorem vTup_ok {e : Expr} {l : List Expr} (h : vTup e = some l) : ∃ k p, e = .Tuple l k p := by
  cases e <;> first | (cases h; done) | (cases h; exact ⟨_, _, rfl⟩)
def vLst : Expr → Option (List Expr)
  | .List l _ => some l
  | _ => none
theorem vLst_ok {e : Expr} {l : List Expr} (h : vLst e = some l) : ∃ p, e = .List l p := by
  cases e <;> first | (cases h; done) | (cases h; exact ⟨_, rfl⟩)
def isAnd : BoolOp → Bool
  | .And => true
  | .Or => false
def vBop : Expr → Option (Bool × List Expr)
  | .BoolOp o l _ => some (isAnd o, l)
  | _ => none
theorem vBop_ok {e : Expr} {k : Bool} {l : List Expr} (h : vBop e = some (k, l)) : ∃ p, e = .BoolOp (if k = true then .And else .Or) l p := by
  cases e with
  | BoolOp o l' p =>
    injection h with h
    injection h with h1 h2
    subst h1; subst h2
    cases o <;> exact ⟨p, rfl⟩
  | _ => cases h
def vIf : Expr → Option (Expr × Expr × Expr)
  | .IfExp c a b _ => some (c, a, b)
  | _ => none
theorem vIf_ok {e c a b : Expr} (h : vIf e = some (c, a, b)) : ∃ p, e = .IfExp c a b p := by
  cases e <;> first | (cases h; done) | (cases h; exact ⟨_, rfl⟩)
def vChain (o1 o2 : CmpOp) : Expr → Option (Expr × Expr × Expr)
  | .Compare a [p, q] [b, c] _ => if cmpEq o1 p && (cmpEq o2 q && noSet c) then some (a, b, c) else none
  | _ => none
theorem vChain_ok {o1 o2 : CmpOp} {e a b c : Expr} (h : vChain o1 o2 e = some (a, b, c)) : ∃ p, e = .Compare a [o1, o2] [b, c] p ∧ noSet c = true := by
  unfold vChain at h
  split at h
  · next a' p q b' c' pos =>
    obtain ⟨z, e1⟩ := ifs h
    simp only [Bool.and_eq_true] at z
    cases e1
    obtain rfl := cmpEq_ok z.1
    obtain rfl := cmpEq_ok z.2.1
    exact ⟨_, rfl, z.2.2⟩
  · cases h
def vNon (ne : Bool) : Expr → Option Expr
  | .Compare a [.Is] [.Constant .none _ _] _ => if ne then none else some a
  | .Compare a [.IsNot] [.Constant .none _ _] _ => if ne then some a else none
  | _ => none
theorem vNon_ok {ne : Bool} {e a : Expr} (h : vNon ne e = some a) : ∃ k p2 p, e = .Compare a [if ne then .IsNot else .Is] [.Constant .none k p2] p := by
  unfold vNon at h
  split at h
  · cases ne
    · cases h; exact ⟨_, _, _, rfl⟩
    · cases h
  · cases ne
    · cases h
    · cases h; exact ⟨_, _, _, rfl⟩
  · cases h
def vSl : Expr → Option (Expr × Option Expr × Option Expr)
  | .Subscript a (.Slice lo hi none _) _ => some (a, lo, hi)
  | _ => none
theorem vSl_ok {e a : Expr} {lo hi : Option Expr} (h : vSl e = some (a, lo, hi)) : ∃ p p2, e = .Subscript a (.Slice lo hi none p2) p := by
  unfold vSl at h
  split at h
  · cases h; exact ⟨_, _, rfl⟩
  · cases h
def vFld : Expr → Option (Expr × Str)
  | .Attribute a f _ => some (a, f)
  | _ => none
theorem vFld_ok {e a : Expr} {f : Str} (h : vFld e = some (a, f)) : ∃ p, e = .Attribute a f p := by
  cases e <;> first | (cases h; done) | (cases h; exact ⟨_, rfl⟩)
def vCall : Expr → Option (Str × List Expr)
  | .Call (.Name x _) l [] _ => some (x, l)
  | _ => none
theorem vCall_ok {e : Expr} {x : Str} {l : List Expr} (h : vCall e = some (x, l)) : ∃ p pos, e = .Call (.Name x p) l [] pos := by
  unfold vCall at h
  split at h
  · cases h; exact ⟨_, _, rfl⟩
  · cases h
def vMeth : Expr → Option (Expr × Str × List Expr)
  | .Call (.Attribute a m ap) l [] pos => if ap.endLine == pos.line then some (a, m, l) else none
  | _ => none
theorem vMeth_ok {e a : Expr} {m : Str} {l : List Expr} (h : vMeth e = some (a, m, l)) : ∃ ap pos, e = .Call (.Attribute a m ap) l [] pos ∧ (ap.endLine == pos.line) = true := by
  unfold vMeth at h
  split at h
  · obtain ⟨z, e1⟩ := ifs h
    cases e1
    exact ⟨_, _, rfl, z⟩
  · cases h
def vLc : Expr → Option (Expr × Expr × Expr × List Expr × Scope)
  | .ListComp elt [⟨tg, iter, ifs, 0⟩] sc _ => some (elt, tg, iter, ifs, sc)
  | _ => none
theorem vLc_ok {e elt tg iter : Expr} {ifs : List Expr} {sc : Scope} (h : vLc e = some (elt, tg, iter, ifs, sc)) : ∃ p, e = .ListComp elt [⟨tg, iter, ifs, 0⟩] sc p := by
  unfold vLc at h
  split at h
  · cases h; exact ⟨_, rfl⟩
  · cases h
def vConst : Expr → Option Const
  | .Constant c _ _ => some c
  | _ => none
theorem vConst_ok {e : Expr} {c : Const} (h : vConst e = some c) : ∃ k p, e = .Constant c k p := by
  cases e <;> first | (cases h; done) | (cases h; exact ⟨_, _, rfl⟩)
def cI (i : Int) (e : Expr) : Bool := match vConst e with
  | some (.int j) => decide (i = j)
  | _ => false
theorem cI_ok {i : Int} {e : Expr} (h : cI i e = true) : ∃ k p, e = .Constant (.int i) k p := by
  unfold cI at h
  cases q : vConst e with
  | none => rw [q] at h; cases h
  | some c =>
    rw [q] at h
    cases c with
    | int j => obtain rfl : i = j := of_decide_eq_true h; exact vConst_ok q
    | _ => cases h
def cS (s : String) (e : Expr) : Bool := match vConst e with
  | some (.str j) => decide (j = enc s)
  | _ => false
theorem cS_ok {s : String} {e : Expr} (h : cS s e = true) : ∃ k p, e = .Constant (.str (enc s)) k p := by
  unfold cS at h
  cases q : vConst e with
  | none => rw [q] at h; cases h
  | some c =>
    rw [q] at h
    cases c with
    | str j => obtain rfl : j = enc s := of_decide_eq_true h; exact vConst_ok q
    | _ => cases h
def cB (b : Bool) (e : Expr) : Bool := match vConst e with
  | some (.bool j) => decide (b = j)
  | _ => false
theorem cB_ok {b : Bool} {e : Expr} (h : cB b e = true) : ∃ k p, e = .Constant (.bool b) k p := by
  unfold cB at h
  cases q : vConst e with
  | none => rw [q] at h; cases h
  | some c =>
    rw [q] at h
    cases c with
    | bool j => obtain rfl : b = j := of_decide_eq_true h; exact vConst_ok q
    | _ => cases h
def cN (e : Expr) : Bool := match vConst e with
  | some .none => true
  | _ => false
theorem cN_ok {e : Expr} (h : cN e = true) : ∃ k p, e = .Constant .none k p := by
  unfold cN at h
  cases q : vConst e with
  | none => rw [q] at h; cases h
  | some c =>
    rw [q] at h
    cases c with
    | none => exact vConst_ok q
    | _ => cases h

def vCst (sc : Scope) (c : String) : Expr → Bool
  | .Name x _ => decide (x = enc c) && (globB sc x && plainN x)
  | _ => false
theorem vCst_ok {sc : Scope} {c : String} {e : Expr} (h : vCst sc c e = true) : ∃ p, e = .Name (enc c) p ∧ globB sc (enc c) = true ∧ plainN (enc c) = true := by
  cases e with
  | Name x p =>
    simp only [vCst, Bool.and_eq_true, decide_eq_true_eq] at h
    obtain ⟨rfl, h1, h2⟩ := h
    exact ⟨p, rfl, h1, h2⟩
  | _ => cases h

/-! ### the program's table -/
structure Tab where
  P : List Fd
  csts : List (String × Int)
  flds : List (String × String)
  mets : List (String × String)
  mks : List String
  eqs : List String
  isis : List String
  Y : Ex
theorem findF_name : ∀ {P : List Fd} {x : String} {f : Fd}, findF P x = some f → f.name = x
  | [], _, _, h => by cases h
  | g :: r, x, f, h => by
    unfold findF at h
    by_cases z : (g.name == x) = true
    · rw [if_pos z] at h; cases h; exact eq_of_beq z
    · rw [if_neg z] at h; exact findF_name h
theorem findF_mem : ∀ {P : List Fd} {x : String} {f : Fd}, findF P x = some f → f ∈ P
  | [], _, _, h => by cases h
  | g :: r, x, f, h => by
    unfold findF at h
    by_cases z : (g.name == x) = true
    · rw [if_pos z] at h; cases h; exact List.mem_cons_self
    · rw [if_neg z] at h; exact List.mem_cons_of_mem _ (findF_mem h)
def sigB (P : List Fd) (x : String) (ms : List Bool) (nw : Bool) : Bool := match findF P x with
  | some f => decide (f.ms = ms) && decide (f.nw = nw)
  | none => false
theorem sigB_ok {P : List Fd} {x : String} {ms : List Bool} {nw : Bool} (h : sigB P x ms nw = true) : ∃ f, findF P x = some f ∧ f.name = x ∧ f.ms = ms ∧ f.nw = nw := by
  unfold sigB at h
  cases q : findF P x with
  | none => rw [q] at h; cases h
  | some f =>
    rw [q] at h
    simp only [Bool.and_eq_true, decide_eq_true_eq] at h
    exact ⟨f, rfl, findF_name q, h.1, h.2⟩
def plainF (P : List Fd) (x : String) : Bool := match findF P x with
  | some f => f.cls.isNone
  | none => false
theorem plainF_ok {P : List Fd} {x : String} {f : Fd} (h : plainF P x = true) (e : findF P x = some f) : f.cls = none := by
  unfold plainF at h
  rw [e] at h
  cases q : f.cls with
  | none => rfl
  | some c => dsimp only at h; rw [q] at h; cases h

/-- which terms make a thing of their own -/
def isN : E → Bool
  | .op1 p _ => IsNew p
  | .op2 p _ _ => IsNew2 p
  | .lst _ => true
  | .sl nw _ _ _ => nw
  | .call _ _ nw _ => nw
  | .make _ _ _ => true
  | .meth _ _ _ nw _ _ => nw
  | .lrng tp _ _ => !tp
  | .lc _ _ _ _ _ => true
  | _ => false
def isVar : E → Option Nat
  | .var i => some i
  | _ => none
def isZero : E → Bool
  | .int 0 => true
  | _ => false

/-- there is one, and it is so -/
def opt {α : Type} (o : Option α) (f : α → Bool) : Bool := match o with
  | some a => f a
  | none => false
theorem opt_ok {α : Type} {o : Option α} {f : α → Bool} (h : opt o f = true) : ∃ a, o = some a ∧ f a = true := by
  cases o with
  | none => cases h
  | some a => exact ⟨a, rfl, h⟩
def isiB (Tb : Tab) (t : Ty) : Bool := match t with
  | .own c => Tb.isis.contains c
  | _ => true
def one1 : List Expr → Option Expr
  | [a] => some a
  | _ => none
theorem one1_ok {l : List Expr} {a : Expr} (h : one1 l = some a) : l = [a] := by
  match l, h with
  | [b], h => cases h; rfl
def two2 : List Expr → Option (Expr × Expr)
  | [a, b] => some (a, b)
  | _ => none
theorem two2_ok {l : List Expr} {t : Expr × Expr} (h : two2 l = some t) : l = [t.1, t.2] := by
  match l, h with
  | [a, b], h => cases h; rfl
def thr3 : List Expr → Option (Expr × Expr × Expr)
  | [a, b, c] => some (a, b, c)
  | _ => none
theorem thr3_ok {l : List Expr} {t : Expr × Expr × Expr} (h : thr3 l = some t) : l = [t.1, t.2.1, t.2.2] := by
  match l, h with
  | [a, b, c], h => cases h; rfl
def isM1 : Expr → Bool
  | .UnaryOp .USub (.Constant (.int 1) _ _) _ => true
  | _ => false
mutual
def chkE (Tb : Tab) (N : List String) : Scope → E → Expr → Bool
  | sc, .var i, x => vNm N sc i x
  | sc, .frz i, x => vNm N sc i x
  | _, .int i, x => cI i x
  | _, .str s, x => cS s x
  | _, .bl b, x => cB b x
  | _, .non, x => cN x
  | sc, .cst c i, x => vCst sc c x && Tb.csts.contains (c, i)
  | sc, .op1 p a, x => opt (un1 sc p x) fun a' => chkE Tb N sc a a'
  | sc, .op2 p a b, x => opt (bi2 sc p x) fun c => chkE Tb N sc a c.1 && chkE Tb N sc b c.2
  | sc, .chain p q a b c, x => opt (cop2 p) fun o1 => opt (cop2 q) fun o2 => opt (vChain o1 o2 x) fun t => chkE Tb N sc a t.1 && (chkE Tb N sc b t.2.1 && chkE Tb N sc c t.2.2)
  | sc, .bop k es, x => opt (vBop x) fun t => decide (t.1 = k) && (!t.2.isEmpty && chkB Tb N sc es t.2)
  | sc, .ite c a b, x => opt (vIf x) fun t => chkT Tb N sc c t.1 && (chkE Tb N sc a t.2.1 && chkE Tb N sc b t.2.2)
  | sc, .tup es, x => opt (vTup x) fun t => chkEs Tb N sc es t
  | sc, .lst es, x => opt (vLst x) fun t => chkEs Tb N sc es t
  | sc, .sl nw a lo hi, x => opt (vSl x) fun t => chkE Tb N sc a t.1 && (chkO Tb N sc lo t.2.1 && chkO Tb N sc hi t.2.2)
  | sc, .fld cs a f, x => opt (vFld x) fun t => decide (t.2 = enc f) && (noSuper t.1 && ((cs.all fun c => Tb.flds.contains (c, f)) && chkE Tb N sc a t.1))
  | sc, .call f ms nw es, x => opt (vCall x) fun t => (decide (t.1 = enc f) && (globB sc t.1 && plainN t.1)) && ((sigB Tb.P f ms nw && plainF Tb.P f) && (t.2.all noStar && chkAs Tb N sc ms es t.2))
  | sc, .make c ms es, x => opt (vCall x) fun t => (decide (t.1 = enc c) && (globB sc t.1 && plainN t.1)) && ((Tb.mks.contains c && sigB Tb.P (c ++ ".__init__") (true :: ms) false) && (t.2.all noStar && (!t.2.isEmpty && chkAs Tb N sc ms es t.2)))
  | sc, .meth cs m ms nw a es, x => opt (vMeth x) fun t => (decide (t.2.1 = enc m) && (noSuper t.1 && (!ms.isEmpty && decide (t.2.2.length < 30)))) && ((cs.all fun c => Tb.mets.contains (c, m) && sigB Tb.P (c ++ "." ++ m) ms nw) && ((t.2.2.all noStar && chkAs Tb N sc ms.tail es t.2.2) &&
      (if ms.headD false then (match isVar a with
        | some i => vNm N sc i t.1
        | none => isN a && chkE Tb N sc a t.1) else chkE Tb N sc a t.1)))
  | sc, .lm m a b, x => opt (vMeth x) fun t => opt (one1 t.2.2) fun b' => decide (t.2.1 = lmName m) && ((noSuper t.1 && noStar b') && (chkE Tb N sc a t.1 && chkE Tb N sc b b'))
  | sc, .eqo c ne a b, x => opt (cmpOf .Eq x) fun d => (!ne && (Tb.eqs.contains c && sigB Tb.P (c ++ ".__eq__") [false, false] false)) && (chkE Tb N sc a d.1 && chkE Tb N sc b d.2)
  | sc, .isi a t, x => opt (isiOf sc t x) fun a' => isiB Tb t && chkE Tb N sc a a'
  | sc, .pop i, x => opt (vMeth x) fun t => decide (t.2.1 = "pop") && (t.2.2.isEmpty && vNm N sc i t.1)
  | sc, .popAt i a, x => opt (vMeth x) fun t => opt (one1 t.2.2) fun a' => decide (t.2.1 = "pop") && (vNm N sc i t.1 && (noStar a' && chkE Tb N sc a a'))
  | sc, .lrng tp a b, x => opt (lrngOf sc tp x) fun t => (match t.1 with
    | none => isZero a
    | some a' => chkE Tb N sc a a') && chkE Tb N sc b t.2
  | sc, .lc elt g own it cs, x => opt (vLc x) fun t => ((blkC (N.map enc) sc t.2.2.2.2 (ownP N own) && tgB N t.2.2.2.2 g t.2.1) && ((tgs g).all (fun i => decide (i ∈ own)) && notSet t.2.2.1)) &&
        (chkI Tb N sc it t.2.1 t.2.2.1 && (chkC Tb N (relS t.2.2.2.2 sc) cs t.2.2.2.1 && chkE Tb N (relS t.2.2.2.2 sc) elt t.1))
def chkEs (Tb : Tab) (N : List String) : Scope → Es → List Expr → Bool
  | _, .nil, [] => true
  | sc, .cons e es, x :: l => noStar x && (chkE Tb N sc e x && chkEs Tb N sc es l)
  | _, _, _ => false
def chkB (Tb : Tab) (N : List String) : Scope → Es → List Expr → Bool
  | _, .nil, [] => true
  | sc, .cons e es, x :: l => chkE Tb N sc e x && chkB Tb N sc es l
  | _, _, _ => false
def chkO (Tb : Tab) (N : List String) : Scope → Eo → Option Expr → Bool
  | _, .none, none => true
  | sc, .some e, some x => chkE Tb N sc e x
  | _, _, _ => false
def chkAs (Tb : Tab) (N : List String) : Scope → List Bool → Es → List Expr → Bool
  | _, [], .nil, [] => true
  | sc, m :: ms, .cons e es, x :: l => (if m then (match isVar e with
      | some i => vNm N sc i x
      | none => isN e && chkE Tb N sc e x) else chkE Tb N sc e x) && chkAs Tb N sc ms es l
  | _, _, _, _ => false
def chkT (Tb : Tab) (N : List String) : Scope → T → Expr → Bool
  | sc, .tr e, x => plainT x && chkE Tb N sc e x
  | sc, .cmp p a b, x => opt (cop2 p) fun o => opt (cmpOf o x) fun d => chkE Tb N sc a d.1 && chkE Tb N sc b d.2
  | sc, .cmpN ne a, x => opt (vNon ne x) fun a' => chkE Tb N sc a a'
  | sc, .chain p q a b c, x => opt (cop2 p) fun o1 => opt (cop2 q) fun o2 => opt (vChain o1 o2 x) fun t => chkE Tb N sc a t.1 && (chkE Tb N sc b t.2.1 && chkE Tb N sc c t.2.2)
  | sc, .not t, x => opt (unNot x) fun x' => chkT Tb N sc t x'
  | sc, .bop k ts, x => opt (vBop x) fun t => decide (t.1 = k) && (!t.2.isEmpty && chkTs Tb N sc ts t.2)
  | sc, .eqo c a b, x => opt (cmpOf .Eq x) fun d => (Tb.eqs.contains c && sigB Tb.P (c ++ ".__eq__") [false, false] false) && (chkE Tb N sc a d.1 && chkE Tb N sc b d.2)
def chkTs (Tb : Tab) (N : List String) : Scope → Ts → List Expr → Bool
  | _, .nil, [] => true
  | sc, .cons t ts, x :: l => chkT Tb N sc t x && chkTs Tb N sc ts l
  | _, _, _ => false
def chkC (Tb : Tab) (N : List String) : Scope → Ts → List Expr → Bool
  | _, .nil, [] => true
  | sc, .cons t ts, x :: l => (l.isEmpty && chkT Tb N sc t x) && chkC Tb N sc ts l
  | _, _, _ => false
def chkI (Tb : Tab) (N : List String) : Scope → It → Expr → Expr → Bool
  | sc, .seq e, _, x => chkE Tb N sc e x
  | sc, .live i, _, x => vNm N sc i x
  | sc, .rng1 a, _, x => opt (bltCall sc "range" x) fun l => opt (one1 l) fun a' => chkE Tb N sc a a'
  | sc, .rng2 a b, _, x => opt (bltCall sc "range" x) fun l => opt (two2 l) fun t => chkE Tb N sc a t.1 && chkE Tb N sc b t.2
  | sc, .rng3 a b c, _, x => opt (bltCall sc "range" x) fun l => opt (thr3 l) fun t => (decide (c = -1) && isM1 t.2.2) && (chkE Tb N sc a t.1 && chkE Tb N sc b t.2.1)
  | sc, .enum e, tg, x => opt (bltCall sc "enumerate" x) fun l => opt (one1 l) fun a' => isTupE tg && chkE Tb N sc e a'
  | sc, .zip a b, tg, x => opt (bltCall sc "zip" x) fun l => opt (two2 l) fun t => isTupE tg && (chkE Tb N sc a t.1 && chkE Tb N sc b t.2)
  | sc, .rev e, _, x => opt (bltCall sc "reversed" x) fun l => opt (one1 l) fun a' => chkE Tb N sc e a'
end
end CW

set_option Elab.async false
set_option linter.all false
set_option maxRecDepth 100000
/-! A text that says what a term says does what the term's evaluation tells. -/
namespace CW
open PySem PySem.Spec PyProof.Rows L2

structure Fcts (P : Program) (w : World) (K : PySem.W.Frag) (mg : Str → Option Value) (base : Heap) (Tb : Tab) (n : Nat) (cf : CF) : Prop where
  fr : Free mg
  fn : ∀ x f, findF Tb.P x = some f → FOk P w K mg base (2 * n) f (cf f.name)
  nm : ∀ x f, findF Tb.P x = some f → f.cls = none → mg (enc x) = some (.ref (fA K f)) ∧ PySem.W.keepIn K (.ref (fA K f)) = true
  fl : ∀ c f, (c, f) ∈ Tb.flds → Cls K (clsA K c) ∧ NoAttr K (clsA K c) (enc f)
  me : ∀ c m f, (c, m) ∈ Tb.mets → findF Tb.P (c ++ "." ++ m) = some f → Cls K (clsA K c) ∧ Meth K (clsA K c) (enc m) (fA K f)
  mak : ∀ c f, c ∈ Tb.mks → findF Tb.P (c ++ ".__init__") = some f → Mk K (clsA K c) (fA K f) ∧ mg (enc c) = some (.ref (clsA K c))
  eq : ∀ c f, c ∈ Tb.eqs → findF Tb.P (c ++ ".__eq__") = some f → PySem.W.findIn K (.ref (clsA K c)) "__eq__" = some (some (.ref (fA K f))) ∧ PySem.W.isFn K (.ref (fA K f)) = true
  cs : ∀ c i, (c, i) ∈ Tb.csts → ∃ t, mg (enc c) = some (.int i t)
  is : ∀ c, c ∈ Tb.isis → mg (enc c) = some (.ref (clsA K c)) ∧ ClsI K (clsA K c)
  er : ErrOk K mg Tb.Y

def rK (K : PySem.W.Frag) (b : Bool) : Rl V D := match b with
  | true => rN K
  | false => rF K
section
variable {P : Program} {w : World} {K : PySem.W.Frag} {mg : Str → Option Value} {base : Heap} {N : List String} {sc : Scope} {n : Nat} {W : WX} {X : Cx} {Tb : Tab} {cf : CF} {e a b : E} {x y : Expr} {es : Es} {l : List Expr}
theorem Fcts.at (F : Fcts P w K mg base Tb n cf) (C : CtxE P w K mg base N sc n W X) : Fcts X.prog X.w X.K X.mg X.base Tb n cf := by
  rw [C.eP, C.eW, C.eK, C.eM, C.eB]; exact F
theorem toF {f : Env → Ev D} {k : Bool} (h : PE X x (tX X.K W (rK X.K k) f)) : PE X x (tX X.K W (rF X.K) f) := by
  cases k with
  | true => exact snd_froze h
  | false => exact h
theorem toP (C : CtxE P w K mg base N sc n W X) (h : chkE Tb N sc e x = true) (hF : PE X x (tX X.K W (rF X.K) (evE cf e))) : PE X x (tX X.K W (rA X.K) (fun r => pk e r (evE cf e r))) := by
  cases e with
  | var i =>
    obtain ⟨y, p, rfl, hy⟩ := vNm_ok (show vNm N sc i x = true from h)
    exact snd_pkv (C.name hy) _
  | _ => exact snd_pk hF
theorem noEmpty {l : List Expr} (h : (!l.isEmpty) = true) : ∃ a r, l = a :: r := by
  cases l with
  | nil => cases h
  | cons a r => exact ⟨a, r, rfl⟩

theorem cs_op1 (C : CtxE P w K mg base N sc n W X) (F : Free mg) {p : P1} (q : un1 sc p x = some y) (ha : PE X y (tX X.K W (rA X.K) (fun r => pk a r (evE cf a r)))) : PE X x (tX X.K W (rK X.K (isN (.op1 p a))) (evE cf (.op1 p a))) := by
  cases z : IsNew p with
  | true =>
    have : isN (.op1 p a) = true := z
    rw [this]; exact sound1N C F q z ha
  | false =>
    have : isN (.op1 p a) = false := z
    rw [this]; exact sound1 C F q ha
theorem cs_op2 (C : CtxE P w K mg base N sc n W X) (F : Free mg) {p : P2} {c : Expr × Expr} (q : bi2 sc p x = some c) (ha : PE X c.1 (tX X.K W (rA X.K) (fun r => pk a r (evE cf a r)))) (hb : PE X c.2 (tX X.K W (rA X.K) (fun r => pk b r (evE cf b r)))) :
    PE X x (tX X.K W (rK X.K (isN (.op2 p a b))) (evE cf (.op2 p a b))) := by
  cases z : IsNew2 p with
  | true =>
    have : isN (.op2 p a b) = true := z
    rw [this]; exact sound2N C F q z ha hb
  | false =>
    have : isN (.op2 p a b) = false := z
    rw [this]; exact sound2 C F q ha hb
theorem rD_rK {nw : Bool} {f : Env → Ev D} (h : PE X x (tX X.K W (rD X.K nw) f)) : PE X x (tX X.K W (rK X.K nw) f) := by
  cases nw with
  | true => exact h
  | false => exact h
theorem cs_call (C : CtxE P w K mg base N sc n W X) (Fc : Fcts P w K mg base Tb n cf) {f : String} {ms : List Bool} {nw : Bool} {x' : Str} (q : vCall x = some (x', l))
    (h : ((decide (x' = enc f) && (globB sc x' && plainN x')) && ((sigB Tb.P f ms nw && plainF Tb.P f) && (l.all noStar && chkAs Tb N sc ms es l))) = true) (ha : PA X l (tX X.K W (rAs X.K ms) (evAs cf ms es))) (h0 : l = [] → ms = [] ∧ ∀ r, evAs cf ms es r = .ok [] r) :
    PE X x (tX X.K W (rK X.K nw) (evE cf (.call f ms nw es))) := by
  simp only [Bool.and_eq_true, decide_eq_true_eq] at h
  obtain ⟨⟨rfl, h1, h2⟩, ⟨h3, h4⟩, h5, h6⟩ := h
  obtain ⟨fd, e1, e2, e3, e4⟩ := sigB_ok h3
  obtain ⟨p, pos, rfl⟩ := vCall_ok q
  have Fx := Fc.at C
  obtain ⟨m1, m2⟩ := Fx.nm f fd e1 (plainF_ok h4 e1)
  subst e2; subst e3; subst e4
  exact rD_rK (snd_call (Fx.fn _ fd e1) (C.room.mono (Nat.le_succ _)) (C.glob h1) m1 m2 C.pa (plainN_ok h2).1 h5 ha h0)
theorem cs_make (C : CtxE P w K mg base N sc n W X) (Fc : Fcts P w K mg base Tb n cf) {c : String} {ms : List Bool} {x' : Str} (q : vCall x = some (x', l))
    (h : ((decide (x' = enc c) && (globB sc x' && plainN x')) && ((Tb.mks.contains c && sigB Tb.P (c ++ ".__init__") (true :: ms) false) && (l.all noStar && (!l.isEmpty && chkAs Tb N sc ms es l)))) = true) (ha : PA X l (tX X.K W (rAs X.K ms) (evAs cf ms es))) :
    PE X x (tX X.K W (rN X.K) (evE cf (.make c ms es))) := by
  simp only [Bool.and_eq_true, decide_eq_true_eq] at h
  obtain ⟨⟨rfl, h1, h2⟩, ⟨h3, h4⟩, h5, h6, h7⟩ := h
  obtain ⟨fd, e1, e2, e3, e4⟩ := sigB_ok h4
  obtain ⟨p, pos, rfl⟩ := vCall_ok q
  have Fx := Fc.at C
  obtain ⟨m1, m2⟩ := Fx.mak c fd (by simpa using h3) e1
  obtain ⟨a0, r0, rfl⟩ := noEmpty h6
  have ns : noStar a0 = true ∧ r0.all noStar = true := by simpa using h5
  exact snd_make m1 (Fx.fn _ fd e1) C.room (C.glob h1) m2 e2 e3 e4 C.pa (plainN_ok h2).1 ns.1 ns.2 ha
theorem cs_meth (C : CtxE P w K mg base N sc n W X) (Fc : Fcts P w K mg base Tb n cf) {cs : List String} {m : String} {ms : List Bool} {nw : Bool} {m' : Str} (q : vMeth x = some (y, m', l))
    (h1 : (decide (m' = enc m) && (noSuper y && (!ms.isEmpty && decide (l.length < 30)))) = true) (h2 : (cs.all fun c => Tb.mets.contains (c, m) && sigB Tb.P (c ++ "." ++ m) ms nw) = true) (h3 : l.all noStar = true)
    (ho : PE X y (tX X.K W (rAr X.K (ms.headD false)) (fun r => arg (ms.headD false) a r (evE cf a r)))) (ha : PA X l (tX X.K W (rAs X.K ms.tail) (evAs cf ms.tail es))) (h0 : l = [] → ms.tail = [] ∧ ∀ r, evAs cf ms.tail es r = .ok [] r) :
    PE X x (tX X.K W (rK X.K nw) (evE cf (.meth cs m ms nw a es))) := by
  simp only [Bool.and_eq_true, decide_eq_true_eq] at h1
  obtain ⟨rfl, g1, g2, g3⟩ := h1
  obtain ⟨ap, pos, rfl, hl⟩ := vMeth_ok q
  have Fx := Fc.at C
  cases ms with
  | nil => cases g2
  | cons m0 mt =>
    refine rD_rK (snd_meth (k := 2 * n) (cs := cs) (m := m) (m0 := m0) (nw := nw) (ms := mt) (fun c hc => ?_) (C.room.mono (Nat.le_succ _)) C.pa g1 h3 g3 hl ho ha h0)
    have := List.all_eq_true.mp h2 c hc
    simp only [Bool.and_eq_true] at this
    obtain ⟨fd, e1, e2, e3, e4⟩ := sigB_ok this.2
    obtain ⟨m1, m2⟩ := Fx.me c m fd (by simpa using this.1) e1
    exact ⟨fd, e2, e3, e4, m1, m2, Fx.fn _ fd e1⟩
theorem cs_eqo (C : CtxE P w K mg base N sc n W X) (Fc : Fcts P w K mg base Tb n cf) {c : String} {ne : Bool} {d : Expr × Expr} (q : cmpOf .Eq x = some d) (h : (!ne && (Tb.eqs.contains c && sigB Tb.P (c ++ ".__eq__") [false, false] false)) = true)
    (ha : PE X d.1 (tX X.K W (rF X.K) (evE cf a))) (hb : PE X d.2 (tX X.K W (rF X.K) (evE cf b))) : PE X x (tX X.K W (rF X.K) (evE cf (.eqo c ne a b))) := by
  simp only [Bool.and_eq_true, Bool.not_eq_true'] at h
  obtain ⟨rfl, h1, h2⟩ := h
  obtain ⟨fd, e1, e2, e3, e4⟩ := sigB_ok h2
  obtain ⟨p, rfl, ns⟩ := cmpOf_ok q
  have Fx := Fc.at C
  obtain ⟨m1, m2⟩ := Fx.eq c fd (by simpa using h1) e1
  exact snd_eqo e2 e3 e4 (Fx.fn _ fd e1) (C.room.mono (Nat.le_succ _)) m1 m2 ha hb ns
theorem cs_eqoT (C : CtxE P w K mg base N sc n W X) (Fc : Fcts P w K mg base Tb n cf) {c : String} {d : Expr × Expr} (q : cmpOf .Eq x = some d) (h : (Tb.eqs.contains c && sigB Tb.P (c ++ ".__eq__") [false, false] false) = true)
    (ha : PE X d.1 (tX X.K W (rF X.K) (evE cf a))) (hb : PE X d.2 (tX X.K W (rF X.K) (evE cf b))) : PT X x (tX X.K W rB (evT cf (.eqo c a b))) := by
  simp only [Bool.and_eq_true] at h
  obtain ⟨h1, h2⟩ := h
  obtain ⟨fd, e1, e2, e3, e4⟩ := sigB_ok h2
  obtain ⟨p, rfl, ns⟩ := cmpOf_ok q
  have Fx := Fc.at C
  obtain ⟨m1, m2⟩ := Fx.eq c fd (by simpa using h1) e1
  exact snd_eqoT e2 e3 e4 (Fx.fn _ fd e1) (C.room.mono (Nat.le_succ _)) m1 m2 ha hb ns
theorem cs_isi (C : CtxE P w K mg base N sc n W X) (Fc : Fcts P w K mg base Tb n cf) {t : Ty} (q : isiOf sc t x = some y) (h : isiB Tb t = true) (ha : PE X y (tX X.K W (rA X.K) (fun r => pk a r (evE cf a r)))) : PE X x (tX X.K W (rF X.K) (evE cf (.isi a t))) := by
  have Fx := Fc.at C
  refine snd_isi C Fc.fr q ?_ ha
  cases t with
  | own c => exact Fx.is c (by simpa [isiB] using h)
  | int => show tyNm .int ∈ BL; decide
  | bool => show tyNm .bool ∈ BL; decide
  | str => show tyNm .str ∈ BL; decide
  | list => show tyNm .list ∈ BL; decide
  | tuple => show tyNm .tuple ∈ BL; decide
theorem cs_lrng1 (C : CtxE P w K mg base N sc n W X) (F : Free mg) {tp : Bool} (q : lrngOf sc tp x = some (none, y)) (hz : isZero a = true) (hb : PE X y (tX X.K W (rF X.K) (evE cf b))) : PE X x (tX X.K W (rK X.K (!tp)) (evE cf (.lrng tp a b))) := by
  have e : a = .int 0 := by
    cases a with
    | int i =>
      have : i = 0 := by
        cases i with
        | ofNat k => cases k with
          | zero => rfl
          | succ k => cases hz
        | negSucc k => cases hz
      rw [this]
    | _ => cases hz
  subst e
  cases tp with
  | true => exact snd_lrng1 (tp := true) (fa := evE cf (.int 0)) C F q hb (fun _ => rfl)
  | false => exact snd_lrng1 (tp := false) (fa := evE cf (.int 0)) C F q hb (fun _ => rfl)
theorem cs_lrng2 (C : CtxE P w K mg base N sc n W X) (F : Free mg) {tp : Bool} {y1 y2 : Expr} (q : lrngOf sc tp x = some (some y1, y2)) (ha : PE X y1 (tX X.K W (rF X.K) (evE cf a))) (hb : PE X y2 (tX X.K W (rF X.K) (evE cf b))) : PE X x (tX X.K W (rK X.K (!tp)) (evE cf (.lrng tp a b))) := by
  cases tp with
  | true => exact snd_lrng2 (tp := true) C F q ha hb
  | false => exact snd_lrng2 (tp := false) C F q ha hb
theorem cs_argR (C : CtxE P w K mg base N sc n W X) {i : Nat} (h : vNm N sc i x = true) (m : Env → Ev D) : PE X x (tX X.K W (rAr X.K true) (fun r => arg true (.var i) r (m r))) := by
  obtain ⟨y, p, rfl, hy⟩ := vNm_ok h
  exact snd_argR (C.name hy)
theorem isVar_ok {e : E} {i : Nat} (h : isVar e = some i) : e = .var i := by
  cases e <;> first | (cases h; done) | (cases h; rfl)
theorem cs_argT (hv : isVar e = none) (h : PE X x (tX X.K W (rN X.K) (evE cf e))) : PE X x (tX X.K W (rAr X.K true) (fun r => arg true e r (evE cf e r))) := by
  cases e with
  | var i => cases hv
  | _ => exact snd_argT h
/-- an argument -/
theorem cs_arg (C : CtxE P w K mg base N sc n W X) {m : Bool} (hE : PE X x (tX X.K W (rK X.K (isN e)) (evE cf e)) ∨ isVar e ≠ none) (h : (if m then (match isVar e with
      | some i => vNm N sc i x
      | none => isN e && chkE Tb N sc e x) else chkE Tb N sc e x) = true) (hF : m = false → PE X x (tX X.K W (rF X.K) (evE cf e))) : PE X x (tX X.K W (rAr X.K m) (fun r => arg m e r (evE cf e r))) := by
  cases m with
  | false => exact snd_argV (hF rfl)
  | true =>
    rw [if_pos rfl] at h
    cases z : isVar e with
    | some i =>
      rw [z] at h
      obtain rfl := isVar_ok z
      exact cs_argR C h _
    | none =>
      rw [z] at h
      have h' : isN e = true ∧ chkE Tb N sc e x = true := by simpa using h
      rcases hE with hE | hE
      · rw [h'.1] at hE
        exact cs_argT z hE
      · exact absurd z hE
theorem as0 {ms : List Bool} (h : chkAs Tb N sc ms es [] = true) : ms = [] ∧ ∀ r, evAs cf ms es r = .ok [] r := by
  cases es with
  | nil =>
    cases ms with
    | nil => exact ⟨rfl, fun _ => rfl⟩
    | cons m ms => exact Bool.noConfusion h
  | cons e es =>
    cases ms with
    | nil => exact Bool.noConfusion h
    | cons m ms => exact Bool.noConfusion h
theorem unNot_is {e a : Expr} (h : unNot e = some a) : ∃ p, e = .UnaryOp .Not a p := by
  unfold unNot at h
  split at h
  · cases h; exact ⟨_, rfl⟩
  · cases h
theorem cs_m1 {c : Expr} (h : isM1 c = true) : PE X c (tC (.int (-1))) := by
  unfold isM1 at h
  split at h
  · exact (pe_un un_neg pe_int).imp fun σ H Q q => ⟨1, rfl, q⟩
  · cases h
theorem and2 {a b : Bool} (h : (a && b) = true) : a = true ∧ b = true := by simpa using h
end
section
variable {P : Program} {w : World} {K : PySem.W.Frag} {mg : Str → Option Value} {base : Heap} {N : List String} {n : Nat} {Tb : Tab} {cf : CF}
mutual
theorem sE (Fc : Fcts P w K mg base Tb n cf) : ∀ (e : E) {sc : Scope} {x : Expr} {W : WX} {X : Cx}, CtxE P w K mg base N sc n W X → chkE Tb N sc e x = true → PE X x (tX X.K W (rK X.K (isN e)) (evE cf e))
  | .var i, sc, x, W, X, C, h => by
    obtain ⟨y, p, rfl, hy⟩ := vNm_ok (show vNm N sc i x = true from h)
    exact snd_var (C.name hy)
  | .frz i, sc, x, W, X, C, h => by
    obtain ⟨y, p, rfl, hy⟩ := vNm_ok (show vNm N sc i x = true from h)
    exact snd_frz (C.name hy)
  | .int i, sc, x, W, X, C, h => by
    obtain ⟨k, p, rfl⟩ := cI_ok (show cI i x = true from h)
    exact snd_con pe_int fun _ => .int i
  | .str i, sc, x, W, X, C, h => by
    obtain ⟨k, p, rfl⟩ := cS_ok (show cS i x = true from h)
    exact snd_con pe_str fun _ => .str i
  | .bl i, sc, x, W, X, C, h => by
    obtain ⟨k, p, rfl⟩ := cB_ok (show cB i x = true from h)
    exact snd_con pe_bl fun _ => .bl i
  | .non, sc, x, W, X, C, h => by
    obtain ⟨k, p, rfl⟩ := cN_ok (show cN x = true from h)
    exact snd_con pe_non fun _ => .non
  | .cst c i, sc, x, W, X, C, h => by
    obtain ⟨h1, h2⟩ := and2 (show (vCst sc c x && Tb.csts.contains (c, i)) = true from h)
    obtain ⟨p, rfl, hg, hp⟩ := vCst_ok h1
    obtain ⟨t, ht⟩ := Fc.cs c i (by simpa using h2)
    exact snd_con (pe_glob (C.glob hg) (by rw [C.eM]; exact ht) (show RelV (.int i) _ from ⟨t, rfl⟩) (plainN_ok hp).1) fun _ => .int i
  | .op1 p a, sc, x, W, X, C, h => by
    obtain ⟨a', q, ha⟩ := opt_ok (o := un1 sc p x) (f := fun a' => chkE Tb N sc a a') h
    exact cs_op1 C Fc.fr q (toP C ha (toF (sE Fc a C ha)))
  | .op2 p a b, sc, x, W, X, C, h => by
    obtain ⟨c, q, hh⟩ := opt_ok (o := bi2 sc p x) (f := fun c => chkE Tb N sc a c.1 && chkE Tb N sc b c.2) h
    obtain ⟨ha, hb⟩ := and2 hh
    exact cs_op2 C Fc.fr q (toP C ha (toF (sE Fc a C ha))) (toP C hb (toF (sE Fc b C hb)))
  | .chain p q a b c, sc, x, W, X, C, h => by
    obtain ⟨o1, e1, h⟩ := opt_ok (o := cop2 p) (f := fun o1 => opt (cop2 q) fun o2 => opt (vChain o1 o2 x) fun t => chkE Tb N sc a t.1 && (chkE Tb N sc b t.2.1 && chkE Tb N sc c t.2.2)) h
    obtain ⟨o2, e2, h⟩ := opt_ok h
    obtain ⟨⟨a', b', c'⟩, e3, hh⟩ := opt_ok h
    obtain ⟨ha, hh⟩ := and2 hh
    obtain ⟨hb, hc⟩ := and2 hh
    obtain ⟨pp, rfl, ns⟩ := vChain_ok e3
    obtain ⟨z1, c1⟩ := cmpR_of C e1
    obtain ⟨z2, c2⟩ := cmpR_of C e2
    exact snd_chain e1 e2 c1 c2 ns (toP C ha (toF (sE Fc a C ha))) (toP C hb (toF (sE Fc b C hb))) (toP C hc (toF (sE Fc c C hc)))
  | .bop k es, sc, x, W, X, C, h => by
    obtain ⟨⟨k', l⟩, q, hh⟩ := opt_ok (o := vBop x) (f := fun t => decide (t.1 = k) && (!t.2.isEmpty && chkB Tb N sc es t.2)) h
    obtain ⟨h1, hh⟩ := and2 hh
    obtain ⟨h2, h3⟩ := and2 hh
    obtain rfl : k' = k := of_decide_eq_true h1
    obtain ⟨p, rfl⟩ := vBop_ok q
    exact sB Fc es C h3 h2
  | .ite c a b, sc, x, W, X, C, h => by
    obtain ⟨⟨c', a', b'⟩, q, hh⟩ := opt_ok (o := vIf x) (f := fun t => chkT Tb N sc c t.1 && (chkE Tb N sc a t.2.1 && chkE Tb N sc b t.2.2)) h
    obtain ⟨hc, hh⟩ := and2 hh
    obtain ⟨ha, hb⟩ := and2 hh
    obtain ⟨p, rfl⟩ := vIf_ok q
    exact snd_ite (sT Fc c C hc) (toF (sE Fc a C ha)) (toF (sE Fc b C hb))
  | .tup es, sc, x, W, X, C, h => by
    obtain ⟨l, q, hh⟩ := opt_ok (o := vTup x) (f := fun t => chkEs Tb N sc es t) h
    obtain ⟨k, p, rfl⟩ := vTup_ok q
    exact snd_tup (sEs Fc es C hh)
  | .lst es, sc, x, W, X, C, h => by
    obtain ⟨l, q, hh⟩ := opt_ok (o := vLst x) (f := fun t => chkEs Tb N sc es t) h
    obtain ⟨p, rfl⟩ := vLst_ok q
    exact snd_lst (sEs Fc es C hh)
  | .sl nw a lo hi, sc, x, W, X, C, h => by
    obtain ⟨⟨a', lo', hi'⟩, q, hh⟩ := opt_ok (o := vSl x) (f := fun t => chkE Tb N sc a t.1 && (chkO Tb N sc lo t.2.1 && chkO Tb N sc hi t.2.2)) h
    obtain ⟨ha, hh⟩ := and2 hh
    obtain ⟨hl, hh⟩ := and2 hh
    obtain ⟨p, p2, rfl⟩ := vSl_ok q
    cases nw with
    | true => exact snd_slN (toP C ha (toF (sE Fc a C ha))) (sO Fc lo C hl) (sO Fc hi C hh)
    | false => exact snd_sl (toP C ha (toF (sE Fc a C ha))) (sO Fc lo C hl) (sO Fc hi C hh)
  | .fld cs a f, sc, x, W, X, C, h => by
    obtain ⟨⟨a', f'⟩, q, hh⟩ := opt_ok (o := vFld x) (f := fun t => decide (t.2 = enc f) && (noSuper t.1 && ((cs.all fun c => Tb.flds.contains (c, f)) && chkE Tb N sc a t.1))) h
    obtain ⟨h1, hh⟩ := and2 hh
    obtain ⟨h2, hh⟩ := and2 hh
    obtain ⟨h3, ha⟩ := and2 hh
    obtain rfl : f' = enc f := of_decide_eq_true h1
    obtain ⟨p, rfl⟩ := vFld_ok q
    exact snd_fld h2 (toP C ha (toF (sE Fc a C ha))) fun c hc => (Fc.at C).fl c f (by simpa using List.all_eq_true.mp h3 c hc)
  | .call f ms nw es, sc, x, W, X, C, h => by
    obtain ⟨⟨x', l⟩, q, hh⟩ := opt_ok (o := vCall x) (f := fun t => (decide (t.1 = enc f) && (globB sc t.1 && plainN t.1)) && ((sigB Tb.P f ms nw && plainF Tb.P f) && (t.2.all noStar && chkAs Tb N sc ms es t.2))) h
    obtain ⟨h1, h2⟩ := and2 (and2 (and2 hh).2).2
    exact cs_call C Fc q hh (sAs Fc es C h1 h2) fun e => as0 (by rw [← e]; exact h2)
  | .make c ms es, sc, x, W, X, C, h => by
    obtain ⟨⟨x', l⟩, q, hh⟩ := opt_ok (o := vCall x) (f := fun t => (decide (t.1 = enc c) && (globB sc t.1 && plainN t.1)) && ((Tb.mks.contains c && sigB Tb.P (c ++ ".__init__") (true :: ms) false) && (t.2.all noStar && (!t.2.isEmpty && chkAs Tb N sc ms es t.2)))) h
    obtain ⟨h1, h2⟩ := and2 (and2 (and2 hh).2).2
    exact cs_make C Fc q hh (sAs Fc es C h1 (and2 h2).2)
  | .meth cs m ms nw a es, sc, x, W, X, C, h => by
    obtain ⟨⟨a', m', l⟩, q, hh⟩ := opt_ok (o := vMeth x) (f := fun t => (decide (t.2.1 = enc m) && (noSuper t.1 && (!ms.isEmpty && decide (t.2.2.length < 30)))) && ((cs.all fun c => Tb.mets.contains (c, m) && sigB Tb.P (c ++ "." ++ m) ms nw) && ((t.2.2.all noStar && chkAs Tb N sc ms.tail es t.2.2) &&
      (if ms.headD false then (match isVar a with
        | some i => vNm N sc i t.1
        | none => isN a && chkE Tb N sc a t.1) else chkE Tb N sc a t.1)))) h
    obtain ⟨h1, hh⟩ := and2 hh
    obtain ⟨h2, hh⟩ := and2 hh
    obtain ⟨h34, h5⟩ := and2 hh
    obtain ⟨h3, h4⟩ := and2 h34
    refine cs_meth C Fc q h1 h2 h3 (cs_arg C ?_ h5 fun hm => ?_) (sAs Fc es C h3 h4) fun e => as0 (by rw [← e]; exact h4)
    · cases z : isVar a with
      | some i => exact .inr (by simp)
      | none =>
        rw [z] at h5
        by_cases hm : ms.headD false = true
        · rw [if_pos hm] at h5
          exact .inl (sE Fc a C (and2 h5).2)
        · rw [if_neg hm] at h5
          exact .inl (sE Fc a C h5)
    · rw [hm, if_neg (by decide)] at h5
      exact toF (sE Fc a C h5)
  | .lm m a b, sc, x, W, X, C, h => by
    obtain ⟨⟨o', m', l⟩, q, hh⟩ := opt_ok (o := vMeth x) (f := fun t => opt (one1 t.2.2) fun b' => decide (t.2.1 = lmName m) && ((noSuper t.1 && noStar b') && (chkE Tb N sc a t.1 && chkE Tb N sc b b'))) h
    obtain ⟨b', e1, hh⟩ := opt_ok hh
    obtain rfl := one1_ok e1
    obtain ⟨h1, hh⟩ := and2 hh
    obtain ⟨h2, h3⟩ := and2 hh
    obtain ⟨ns, na⟩ := and2 h2
    obtain ⟨ha, hb⟩ := and2 h3
    obtain rfl : m' = lmName m := of_decide_eq_true h1
    obtain ⟨ap, pos, rfl, hl⟩ := vMeth_ok q
    exact sound_lm C m (toP C ha (toF (sE Fc a C ha))) (toP C hb (toF (sE Fc b C hb))) ns na hl
  | .eqo c ne a b, sc, x, W, X, C, h => by
    obtain ⟨d, q, hh⟩ := opt_ok (o := cmpOf .Eq x) (f := fun d => (!ne && (Tb.eqs.contains c && sigB Tb.P (c ++ ".__eq__") [false, false] false)) && (chkE Tb N sc a d.1 && chkE Tb N sc b d.2)) h
    obtain ⟨h1, hh⟩ := and2 hh
    obtain ⟨ha, hb⟩ := and2 hh
    exact cs_eqo C Fc q h1 (toF (sE Fc a C ha)) (toF (sE Fc b C hb))
  | .isi a t, sc, x, W, X, C, h => by
    obtain ⟨a', q, hh⟩ := opt_ok (o := isiOf sc t x) (f := fun a' => isiB Tb t && chkE Tb N sc a a') h
    obtain ⟨h1, ha⟩ := and2 hh
    exact cs_isi C Fc q h1 (toP C ha (toF (sE Fc a C ha)))
  | .pop i, sc, x, W, X, C, h => by
    obtain ⟨⟨a', m', l⟩, q, hh⟩ := opt_ok (o := vMeth x) (f := fun t => decide (t.2.1 = "pop") && (t.2.2.isEmpty && vNm N sc i t.1)) h
    obtain ⟨h1, hh⟩ := and2 hh
    obtain ⟨h2, h3⟩ := and2 hh
    obtain rfl : m' = ("pop" : Str) := of_decide_eq_true h1
    obtain rfl : l = [] := List.isEmpty_iff.mp h2
    obtain ⟨ap, pos, rfl, hl⟩ := vMeth_ok q
    obtain ⟨y, p, rfl, hy⟩ := vNm_ok h3
    exact snd_pop (C.name hy) hl
  | .popAt i a, sc, x, W, X, C, h => by
    obtain ⟨⟨o', m', l⟩, q, hh⟩ := opt_ok (o := vMeth x) (f := fun t => opt (one1 t.2.2) fun a' => decide (t.2.1 = "pop") && (vNm N sc i t.1 && (noStar a' && chkE Tb N sc a a'))) h
    obtain ⟨a', e1, hh⟩ := opt_ok hh
    obtain rfl := one1_ok e1
    obtain ⟨h1, hh⟩ := and2 hh
    obtain ⟨h3, hh⟩ := and2 hh
    obtain ⟨h4, ha⟩ := and2 hh
    obtain rfl : m' = ("pop" : Str) := of_decide_eq_true h1
    obtain ⟨ap, pos, rfl, hl⟩ := vMeth_ok q
    obtain ⟨y, p, rfl, hy⟩ := vNm_ok h3
    exact snd_popAt (C.name hy) (toF (sE Fc a C ha)) h4 hl
  | .lrng tp a b, sc, x, W, X, C, h => by
    obtain ⟨⟨o, b'⟩, q, hh⟩ := opt_ok (o := lrngOf sc tp x) (f := fun t => (match t.1 with
      | none => isZero a
      | some a' => chkE Tb N sc a a') && chkE Tb N sc b t.2) h
    obtain ⟨h1, hb⟩ := and2 hh
    cases o with
    | none => exact cs_lrng1 C Fc.fr q h1 (toF (sE Fc b C hb))
    | some a' => exact cs_lrng2 C Fc.fr q (toF (sE Fc a C h1)) (toF (sE Fc b C hb))
  | .lc elt g own it cs, sc, x, W, X, C, h => by
    obtain ⟨⟨elt', tg, iter, fs, scope⟩, q, hh⟩ := opt_ok (o := vLc x) (f := fun t => ((blkC (N.map enc) sc t.2.2.2.2 (ownP N own) && tgB N t.2.2.2.2 g t.2.1) && ((tgs g).all (fun i => decide (i ∈ own)) && notSet t.2.2.1)) &&
        (chkI Tb N sc it t.2.1 t.2.2.1 && (chkC Tb N (relS t.2.2.2.2 sc) cs t.2.2.2.1 && chkE Tb N (relS t.2.2.2.2 sc) elt t.1))) h
    obtain ⟨h1, h2⟩ := and2 hh
    obtain ⟨h11, h12⟩ := and2 h1
    obtain ⟨h111, h112⟩ := and2 h11
    obtain ⟨h121, h122⟩ := and2 h12
    obtain ⟨hi, h2⟩ := and2 h2
    obtain ⟨hc, he⟩ := and2 h2
    obtain ⟨p, rfl⟩ := vLc_ok q
    exact snd_lc C h111 h112 h121 h122 (sI Fc it C hi) (fun _ C' => sC Fc cs C' hc) (fun _ C' => toF (sE Fc elt C' he))
theorem sEs (Fc : Fcts P w K mg base Tb n cf) : ∀ (es : Es) {sc : Scope} {l : List Expr} {W : WX} {X : Cx}, CtxE P w K mg base N sc n W X → chkEs Tb N sc es l = true → PA X l (tX X.K W (rL X.K) (evEs cf es))
  | .nil, sc, [], W, X, C, h => snd_nil
  | .nil, sc, _ :: _, W, X, C, h => Bool.noConfusion h
  | .cons _ _, sc, [], W, X, C, h => Bool.noConfusion h
  | .cons e es, sc, x :: l, W, X, C, h => by
    obtain ⟨h1, hh⟩ := and2 (show (noStar x && (chkE Tb N sc e x && chkEs Tb N sc es l)) = true from h)
    obtain ⟨h2, h3⟩ := and2 hh
    exact snd_cons h1 (toF (sE Fc e C h2)) (sEs Fc es C h3)
theorem sB (Fc : Fcts P w K mg base Tb n cf) : ∀ (es : Es) {k : Bool} {sc : Scope} {l : List Expr} {p : Pos} {W : WX} {X : Cx}, CtxE P w K mg base N sc n W X → chkB Tb N sc es l = true → (!l.isEmpty) = true → PE X (.BoolOp (if k = true then .And else .Or) l p) (tX X.K W (rF X.K) (evB cf k es))
  | .nil, k, sc, [], p, W, X, C, h, h0 => Bool.noConfusion h0
  | .nil, k, sc, _ :: _, p, W, X, C, h, h0 => Bool.noConfusion h
  | .cons _ _, k, sc, [], p, W, X, C, h, h0 => Bool.noConfusion h0
  | .cons e .nil, k, sc, [x], p, W, X, C, h, h0 => snd_bop1 (toF (sE Fc e C (and2 (show (chkE Tb N sc e x && chkB Tb N sc .nil []) = true from h)).1))
  | .cons e .nil, k, sc, x :: y :: l, p, W, X, C, h, h0 => Bool.noConfusion (and2 (show (chkE Tb N sc e x && chkB Tb N sc .nil (y :: l)) = true from h)).2
  | .cons e (.cons e2 es), k, sc, [x], p, W, X, C, h, h0 => Bool.noConfusion (and2 (show (chkE Tb N sc e x && chkB Tb N sc (.cons e2 es) []) = true from h)).2
  | .cons e (.cons e2 es), k, sc, x :: y :: l, p, W, X, C, h, h0 => by
    obtain ⟨h1, h2⟩ := and2 (show (chkE Tb N sc e x && chkB Tb N sc (.cons e2 es) (y :: l)) = true from h)
    exact snd_bop (toF (sE Fc e C h1)) (sB Fc (.cons e2 es) C h2 rfl)
theorem sO (Fc : Fcts P w K mg base Tb n cf) : ∀ (o : Eo) {sc : Scope} {l : Option Expr} {W : WX} {X : Cx}, CtxE P w K mg base N sc n W X → chkO Tb N sc o l = true → L2.PO X l (tX X.K W rO (evO cf o))
  | .none, sc, none, W, X, C, h => snd_o0
  | .none, sc, some _, W, X, C, h => Bool.noConfusion h
  | .some _, sc, none, W, X, C, h => Bool.noConfusion h
  | .some e, sc, some x, W, X, C, h => snd_o1 (toF (sE Fc e C h))
theorem sAs (Fc : Fcts P w K mg base Tb n cf) : ∀ (es : Es) {ms : List Bool} {sc : Scope} {l : List Expr} {W : WX} {X : Cx}, CtxE P w K mg base N sc n W X → l.all noStar = true → chkAs Tb N sc ms es l = true → PA X l (tX X.K W (rAs X.K ms) (evAs cf ms es))
  | .nil, [], sc, [], W, X, C, h0, h => snd_args0
  | .nil, [], sc, _ :: _, W, X, C, h0, h => Bool.noConfusion h
  | .nil, _ :: _, sc, _, W, X, C, h0, h => Bool.noConfusion h
  | .cons _ _, [], sc, _, W, X, C, h0, h => Bool.noConfusion h
  | .cons _ _, _ :: _, sc, [], W, X, C, h0, h => Bool.noConfusion h
  | .cons e es, m :: ms, sc, x :: l, W, X, C, h0, h => by
    obtain ⟨h1, h2⟩ := and2 (show ((if m then (match isVar e with
      | some i => vNm N sc i x
      | none => isN e && chkE Tb N sc e x) else chkE Tb N sc e x) && chkAs Tb N sc ms es l) = true from h)
    have ns : noStar x = true ∧ l.all noStar = true := by simpa using h0
    refine snd_args ns.1 (cs_arg C ?_ h1 fun hm => ?_) (sAs Fc es C ns.2 h2)
    · cases z : isVar e with
      | some i => exact .inr (by simp)
      | none =>
        rw [z] at h1
        by_cases hm : m = true
        · rw [if_pos hm] at h1
          exact .inl (sE Fc e C (and2 h1).2)
        · rw [if_neg hm] at h1
          exact .inl (sE Fc e C h1)
    · rw [hm, if_neg (by decide)] at h1
      exact toF (sE Fc e C h1)
theorem sT (Fc : Fcts P w K mg base Tb n cf) : ∀ (t : T) {sc : Scope} {x : Expr} {W : WX} {X : Cx}, CtxE P w K mg base N sc n W X → chkT Tb N sc t x = true → PT X x (tX X.K W rB (evT cf t))
  | .tr e, sc, x, W, X, C, h => by
    obtain ⟨h1, h2⟩ := and2 (show (plainT x && chkE Tb N sc e x) = true from h)
    exact snd_tr h1 (toP C h2 (toF (sE Fc e C h2)))
  | .cmp p a b, sc, x, W, X, C, h => by
    obtain ⟨o, e1, h⟩ := opt_ok (o := cop2 p) (f := fun o => opt (cmpOf o x) fun d => chkE Tb N sc a d.1 && chkE Tb N sc b d.2) h
    obtain ⟨d, q, hh⟩ := opt_ok h
    obtain ⟨ha, hb⟩ := and2 hh
    obtain ⟨pp, rfl, ns⟩ := cmpOf_ok q
    obtain ⟨z1, c1⟩ := cmpR_of C e1
    exact snd_cmpT e1 c1 ns (toP C ha (toF (sE Fc a C ha))) (toP C hb (toF (sE Fc b C hb)))
  | .cmpN ne a, sc, x, W, X, C, h => by
    obtain ⟨a', q, ha⟩ := opt_ok (o := vNon ne x) (f := fun a' => chkE Tb N sc a a') h
    obtain ⟨k, p2, p, rfl⟩ := vNon_ok q
    cases ne with
    | true => exact snd_notNT (toP C ha (toF (sE Fc a C ha)))
    | false => exact snd_isNT (toP C ha (toF (sE Fc a C ha)))
  | .chain p q a b c, sc, x, W, X, C, h => by
    obtain ⟨o1, e1, h⟩ := opt_ok (o := cop2 p) (f := fun o1 => opt (cop2 q) fun o2 => opt (vChain o1 o2 x) fun t => chkE Tb N sc a t.1 && (chkE Tb N sc b t.2.1 && chkE Tb N sc c t.2.2)) h
    obtain ⟨o2, e2, h⟩ := opt_ok h
    obtain ⟨⟨a', b', c'⟩, e3, hh⟩ := opt_ok h
    obtain ⟨ha, hh⟩ := and2 hh
    obtain ⟨hb, hc⟩ := and2 hh
    obtain ⟨pp, rfl, ns⟩ := vChain_ok e3
    obtain ⟨z1, c1⟩ := cmpR_of C e1
    obtain ⟨z2, c2⟩ := cmpR_of C e2
    exact snd_chainT e1 e2 c1 c2 ns (toP C ha (toF (sE Fc a C ha))) (toP C hb (toF (sE Fc b C hb))) (toP C hc (toF (sE Fc c C hc)))
  | .not t, sc, x, W, X, C, h => by
    obtain ⟨x', q, hh⟩ := opt_ok (o := unNot x) (f := fun x' => chkT Tb N sc t x') h
    obtain ⟨p, rfl⟩ := unNot_is q
    exact snd_not (sT Fc t C hh)
  | .bop k ts, sc, x, W, X, C, h => by
    obtain ⟨⟨k', l⟩, q, hh⟩ := opt_ok (o := vBop x) (f := fun t => decide (t.1 = k) && (!t.2.isEmpty && chkTs Tb N sc ts t.2)) h
    obtain ⟨h1, hh⟩ := and2 hh
    obtain ⟨h2, h3⟩ := and2 hh
    obtain rfl : k' = k := of_decide_eq_true h1
    obtain ⟨p, rfl⟩ := vBop_ok q
    exact (sTs Fc ts C h3 h2).pt
  | .eqo c a b, sc, x, W, X, C, h => by
    obtain ⟨d, q, hh⟩ := opt_ok (o := cmpOf .Eq x) (f := fun d => (Tb.eqs.contains c && sigB Tb.P (c ++ ".__eq__") [false, false] false) && (chkE Tb N sc a d.1 && chkE Tb N sc b d.2)) h
    obtain ⟨h1, hh⟩ := and2 hh
    obtain ⟨ha, hb⟩ := and2 hh
    exact cs_eqoT C Fc q h1 (toF (sE Fc a C ha)) (toF (sE Fc b C hb))
theorem sTs (Fc : Fcts P w K mg base Tb n cf) : ∀ (ts : Ts) {k : Bool} {sc : Scope} {l : List Expr} {p : Pos} {W : WX} {X : Cx}, CtxE P w K mg base N sc n W X → chkTs Tb N sc ts l = true → (!l.isEmpty) = true → PW X (.BoolOp (if k = true then .And else .Or) l p) (tX X.K W rB (evTs cf k ts))
  | .nil, k, sc, [], p, W, X, C, h, h0 => Bool.noConfusion h0
  | .nil, k, sc, _ :: _, p, W, X, C, h, h0 => Bool.noConfusion h
  | .cons _ _, k, sc, [], p, W, X, C, h, h0 => Bool.noConfusion h0
  | .cons e .nil, k, sc, [x], p, W, X, C, h, h0 => by
    have h1 := (and2 (show (chkT Tb N sc e x && chkTs Tb N sc .nil []) = true from h)).1
    cases k with
    | true => exact snd_and1 (sT Fc e C h1)
    | false => exact snd_or1 (sT Fc e C h1)
  | .cons e .nil, k, sc, x :: y :: l, p, W, X, C, h, h0 => Bool.noConfusion (and2 (show (chkT Tb N sc e x && chkTs Tb N sc .nil (y :: l)) = true from h)).2
  | .cons e (.cons e2 es), k, sc, [x], p, W, X, C, h, h0 => Bool.noConfusion (and2 (show (chkT Tb N sc e x && chkTs Tb N sc (.cons e2 es) []) = true from h)).2
  | .cons e (.cons e2 es), k, sc, x :: y :: l, p, W, X, C, h, h0 => by
    obtain ⟨h1, h2⟩ := and2 (show (chkT Tb N sc e x && chkTs Tb N sc (.cons e2 es) (y :: l)) = true from h)
    have ih := sTs (k := k) Fc (.cons e2 es) (p := p) C h2 rfl
    cases k with
    | true => exact snd_and (sT Fc e C h1) ih
    | false => exact snd_or (sT Fc e C h1) ih
theorem sC (Fc : Fcts P w K mg base Tb n cf) : ∀ (ts : Ts) {sc : Scope} {l : List Expr} {W : WX} {X : Cx}, CtxE P w K mg base N sc n W X → chkC Tb N sc ts l = true → PTs X l (tX X.K W rB (evTs cf true ts))
  | .nil, sc, [], W, X, C, h => snd_c0
  | .nil, sc, _ :: _, W, X, C, h => Bool.noConfusion h
  | .cons _ _, sc, [], W, X, C, h => Bool.noConfusion h
  | .cons t .nil, sc, [x], W, X, C, h => by
    have h1 := (and2 (and2 (show (((([] : List Expr).isEmpty) && chkT Tb N sc t x) && chkC Tb N sc .nil []) = true from h)).1).2
    exact snd_c1 (sT Fc t C h1)
  | .cons t (.cons t2 ts), sc, [x], W, X, C, h => Bool.noConfusion (and2 (show (((([] : List Expr).isEmpty) && chkT Tb N sc t x) && chkC Tb N sc (.cons t2 ts) []) = true from h)).2
  | .cons t ts, sc, x :: y :: l, W, X, C, h => Bool.noConfusion (and2 (and2 (show ((((y :: l).isEmpty) && chkT Tb N sc t x) && chkC Tb N sc ts (y :: l)) = true from h)).1).1
theorem sI (Fc : Fcts P w K mg base Tb n cf) : ∀ (it : It) {sc : Scope} {tg x : Expr} {W : WX} {X : Cx}, CtxE P w K mg base N sc n W X → chkI Tb N sc it tg x = true → PI X tg x (tX X.K W (rI X.K) (evI cf it))
  | .seq e, sc, tg, x, W, X, C, h => snd_iseq (toF (sE Fc e C h))
  | .live i, sc, tg, x, W, X, C, h => by
    obtain ⟨y, p, rfl, hy⟩ := vNm_ok (show vNm N sc i x = true from h)
    exact snd_ilive (C.name hy)
  | .rng1 a, sc, tg, x, W, X, C, h => by
    obtain ⟨l, q, h⟩ := opt_ok (o := bltCall sc "range" x) (f := fun l => opt (one1 l) fun a' => chkE Tb N sc a a') h
    obtain ⟨a', e1, ha⟩ := opt_ok h
    obtain rfl := one1_ok e1
    exact snd_irng1 C Fc.fr q (toF (sE Fc a C ha))
  | .rng2 a b, sc, tg, x, W, X, C, h => by
    obtain ⟨l, q, h⟩ := opt_ok (o := bltCall sc "range" x) (f := fun l => opt (two2 l) fun t => chkE Tb N sc a t.1 && chkE Tb N sc b t.2) h
    obtain ⟨t, e1, hh⟩ := opt_ok h
    obtain rfl := two2_ok e1
    exact snd_irng2 C Fc.fr q (toF (sE Fc a C (and2 hh).1)) (toF (sE Fc b C (and2 hh).2))
  | .rng3 a b c, sc, tg, x, W, X, C, h => by
    obtain ⟨l, q, h⟩ := opt_ok (o := bltCall sc "range" x) (f := fun l => opt (thr3 l) fun t => (decide (c = -1) && isM1 t.2.2) && (chkE Tb N sc a t.1 && chkE Tb N sc b t.2.1)) h
    obtain ⟨t, e1, hh⟩ := opt_ok h
    obtain rfl := thr3_ok e1
    obtain ⟨h1, h2⟩ := and2 hh
    obtain ⟨h11, h12⟩ := and2 h1
    have hc : c = -1 := of_decide_eq_true h11
    exact snd_irng3 C Fc.fr q hc (by rw [hc]; exact cs_m1 h12) (toF (sE Fc a C (and2 h2).1)) (toF (sE Fc b C (and2 h2).2))
  | .enum e, sc, tg, x, W, X, C, h => by
    obtain ⟨l, q, h⟩ := opt_ok (o := bltCall sc "enumerate" x) (f := fun l => opt (one1 l) fun a' => isTupE tg && chkE Tb N sc e a') h
    obtain ⟨a', e1, hh⟩ := opt_ok h
    obtain rfl := one1_ok e1
    exact snd_ienum C Fc.fr (and2 hh).1 q (toF (sE Fc e C (and2 hh).2))
  | .zip a b, sc, tg, x, W, X, C, h => by
    obtain ⟨l, q, h⟩ := opt_ok (o := bltCall sc "zip" x) (f := fun l => opt (two2 l) fun t => isTupE tg && (chkE Tb N sc a t.1 && chkE Tb N sc b t.2)) h
    obtain ⟨t, e1, hh⟩ := opt_ok h
    obtain rfl := two2_ok e1
    exact snd_izip C Fc.fr (and2 hh).1 q (toF (sE Fc a C (and2 (and2 hh).2).1)) (toF (sE Fc b C (and2 (and2 hh).2).2))
  | .rev e, sc, tg, x, W, X, C, h => by
    obtain ⟨l, q, h⟩ := opt_ok (o := bltCall sc "reversed" x) (f := fun l => opt (one1 l) fun a' => chkE Tb N sc e a') h
    obtain ⟨a', e1, ha⟩ := opt_ok h
    obtain rfl := one1_ok e1
    exact snd_irev C Fc.fr q (toF (sE Fc e C ha))
end
end
end CW

set_option Elab.async false
set_option linter.all false
set_option maxRecDepth 100000
/-! The same for statements. -/
namespace CW
open PySem PySem.Spec PyProof.Rows L2

def vAsg : Stmt → Option (Expr × Expr)
  | .Assign [t] e _ => some (t, e)
  | _ => none
theorem vAsg_ok {s : Stmt} {t e : Expr} (h : vAsg s = some (t, e)) : ∃ p, s = .Assign [t] e p := by
  unfold vAsg at h
  split at h
  · cases h; exact ⟨_, rfl⟩
  · cases h
def vN (e : Expr) : Option (Str × Pos) := match e with
  | .Name x p => some (x, p)
  | _ => none
theorem vN_ok {e : Expr} {t : Str × Pos} (h : vN e = some t) : e = .Name t.1 t.2 := by
  unfold vN at h
  split at h
  · cases h; rfl
  · cases h
def vSub : Expr → Option (Expr × Expr)
  | .Subscript a b _ => some (a, b)
  | _ => none
theorem vSub_ok {e a b : Expr} (h : vSub e = some (a, b)) : ∃ p, e = .Subscript a b p := by
  unfold vSub at h
  split at h
  · cases h; exact ⟨_, rfl⟩
  · cases h
def vExp : Stmt → Option Expr
  | .Expr e _ => some e
  | _ => none
theorem vExp_ok {s : Stmt} {e : Expr} (h : vExp s = some e) : ∃ p, s = .Expr e p := by
  unfold vExp at h
  split at h
  · cases h; exact ⟨_, rfl⟩
  · cases h
def vRet : Stmt → Option Expr
  | .Return (some e) _ => some e
  | _ => none
theorem vRet_ok {s : Stmt} {e : Expr} (h : vRet s = some e) : ∃ p, s = .Return (some e) p := by
  unfold vRet at h
  split at h
  · cases h; exact ⟨_, rfl⟩
  · cases h
def vRet0 : Stmt → Bool
  | .Return none _ => true
  | _ => false
theorem vRet0_ok {s : Stmt} (h : vRet0 s = true) : ∃ p, s = .Return none p := by
  unfold vRet0 at h
  split at h
  · exact ⟨_, rfl⟩
  · cases h
def vIfS : Stmt → Option (Expr × List Stmt × List Stmt)
  | .If c a b _ => some (c, a, b)
  | _ => none
theorem vIfS_ok {s : Stmt} {c : Expr} {a b : List Stmt} (h : vIfS s = some (c, a, b)) : ∃ p, s = .If c a b p := by
  unfold vIfS at h
  split at h
  · cases h; exact ⟨_, rfl⟩
  · cases h
def vWhl : Stmt → Option (Expr × List Stmt)
  | .While c a [] _ => some (c, a)
  | _ => none
theorem vWhl_ok {s : Stmt} {c : Expr} {a : List Stmt} (h : vWhl s = some (c, a)) : ∃ p, s = .While c a [] p := by
  unfold vWhl at h
  split at h
  · cases h; exact ⟨_, rfl⟩
  · cases h
def vFor : Stmt → Option (Expr × Expr × List Stmt)
  | .For t i a [] _ => some (t, i, a)
  | _ => none
theorem vFor_ok {s : Stmt} {t i : Expr} {a : List Stmt} (h : vFor s = some (t, i, a)) : ∃ p, s = .For t i a [] p := by
  unfold vFor at h
  split at h
  · cases h; exact ⟨_, rfl⟩
  · cases h
def vRse : Stmt → Option (Str × Expr)
  | .Raise (some (.Call (.Name x _) [e] [] _)) none _ => some (x, e)
  | _ => none
theorem vRse_ok {s : Stmt} {x : Str} {e : Expr} (h : vRse s = some (x, e)) : ∃ p pos pos', s = .Raise (some (.Call (.Name x p) [e] [] pos)) none pos' := by
  unfold vRse at h
  split at h
  · cases h; exact ⟨_, _, _, rfl⟩
  · cases h
def vTry : Stmt → Option (List Stmt × ExceptHandler × List ExceptHandler)
  | .Try a (h :: hs) [] [] _ => some (a, h, hs)
  | _ => none
theorem vTry_ok {s : Stmt} {a : List Stmt} {h : ExceptHandler} {hs : List ExceptHandler} (e : vTry s = some (a, h, hs)) : ∃ p, s = .Try a (h :: hs) [] [] p := by
  unfold vTry at e
  split at e
  · cases e; exact ⟨_, rfl⟩
  · cases e
def vPass : Stmt → Bool
  | .Pass _ => true
  | .Expr (.Constant (.str _) _ _) _ => true
  | _ => false
def vBrk : Stmt → Bool
  | .Break _ => true
  | _ => false
theorem vBrk_ok {s : Stmt} (h : vBrk s = true) : ∃ p, s = .Break p := by
  unfold vBrk at h
  split at h
  · exact ⟨_, rfl⟩
  · cases h
def vCnt : Stmt → Bool
  | .Continue _ => true
  | _ => false
theorem vCnt_ok {s : Stmt} (h : vCnt s = true) : ∃ p, s = .Continue p := by
  unfold vCnt at h
  split at h
  · exact ⟨_, rfl⟩
  · cases h
/-- the names of a scope that a block makes its own -/
def anyOwn (scope : Scope) (y : Str) : Bool := scope.names.any fun (n, k) => n == y && (k == .local || k == .cell)
/-- x = [..] : the list is stored ahead of the block's end -/
def lcLine (sc : Scope) (x : Str) (px : Pos) (e : Expr) : Bool := match e with
  | .ListComp _ _ scope p => decide (sc.names.lookup x = some .local) && ((px.line == p.line) && !anyOwn scope x)
  | _ => false
def isLc : E → Bool
  | .lc _ _ _ _ _ => true
  | _ => false
/-- handlers' name -/
def hdName : ExceptHandler → Option Str
  | .ExceptHandler _ n _ _ => n

mutual
def chkS (Tb : Tab) (N : List String) (sc : Scope) (nw : Bool) : S → Stmt → Bool
  | .set i e, s => opt (vAsg s) fun t => opt (vN t.1) fun x => locNB N sc i x.1 && (noSw sc x.1 t.2 && chkE Tb N sc e t.2)
  | .setN i e, s => opt (vAsg s) fun t => opt (vN t.1) fun x => locNB N sc i x.1 && (isN e && (chkE Tb N sc e t.2 && (noSw sc x.1 t.2 || (lcLine sc x.1 x.2 t.2 && isLc e))))
  | .par i j a b, s => opt (vAsg s) fun t => opt (vTup t.1) fun l => opt (vTup t.2) fun r => opt (two2 l) fun n => opt (two2 r) fun v => opt (vN n.1) fun x => opt (vN n.2) fun y =>
      (locNB N sc i x.1 && locNB N sc j y.1) && ((parB sc x.1 x.2 y.1 y.2 v.1 v.2 && decide (i ≠ j)) && (chkE Tb N sc a v.1 && chkE Tb N sc b v.2))
  | .unp g e, s => opt (vAsg s) fun t => (tgB N sc g t.1 && notComp t.2) && (noSwap t.1 t.2 && chkE Tb N sc e t.2)
  | .setix i k v, s => opt (vAsg s) fun t => opt (vSub t.1) fun o => (vNm N sc i o.1 && notComp t.2) && (noSlice o.2 && (chkE Tb N sc k o.2 && chkE Tb N sc v t.2))
  | .swap i k1 k2 v1 v2, s => opt (vAsg s) fun t => opt (vTup t.1) fun l => opt (vTup t.2) fun r => opt (two2 l) fun n => opt (two2 r) fun v => opt (vSub n.1) fun o1 => opt (vSub n.2) fun o2 => opt (vN o1.1) fun x => opt (vN o2.1) fun y =>
      ((nameB N sc i x.1 && decide (y.1 = x.1)) && ((noSlice o1.2 && noSlice o2.2) && (noStar v.1 && noStar v.2))) && ((chkE Tb N sc k1 o1.2 && chkE Tb N sc k2 o2.2) && (chkE Tb N sc v1 v.1 && chkE Tb N sc v2 v.2))
  | .setf i cs f e, s => opt (vAsg s) fun t => opt (vFld t.1) fun o => (vNm N sc i o.1 && (decide (o.2 = enc f) && notComp t.2)) && ((cs.all fun c => Tb.flds.contains (c, f)) && chkE Tb N sc e t.2)
  | .app i e, s => opt (vExp s) fun t => opt (vMeth t) fun o => opt (one1 o.2.2) fun a => (decide (o.2.1 = "append") && vNm N sc i o.1) && (noStar a && chkE Tb N sc e a)
  | .ext i e, s => opt (vExp s) fun t => opt (vMeth t) fun o => opt (one1 o.2.2) fun a => (decide (o.2.1 = "extend") && vNm N sc i o.1) && (noStar a && chkE Tb N sc e a)
  | .ins0 i e, s => opt (vExp s) fun t => opt (vMeth t) fun o => opt (two2 o.2.2) fun a => (decide (o.2.1 = "insert") && vNm N sc i o.1) && (cI 0 a.1 && (noStar a.2 && chkE Tb N sc e a.2))
  | .rvs i, s => opt (vExp s) fun t => opt (vMeth t) fun o => decide (o.2.1 = "reverse") && (vNm N sc i o.1 && o.2.2.isEmpty)
  | .exp e, s => opt (vExp s) fun t => notComp t && chkE Tb N sc e t
  | .ret e, s => !nw && opt (vRet s) fun t => chkE Tb N sc e t
  | .retN e, s => nw && opt (vRet s) fun t => (match isVar e with
    | some i => vNm N sc i t
    | none => isN e && chkE Tb N sc e t)
  | .ret0, s => !nw && vRet0 s
  | .ifs c a b, s => opt (vIfS s) fun t => chkT Tb N sc c t.1 && (chkSs Tb N sc nw a t.2.1 && chkSs Tb N sc nw b t.2.2)
  | .whl c a, s => opt (vWhl s) fun t => chkT Tb N sc c t.1 && chkSs Tb N sc nw a t.2
  | .for_ g it a, s => opt (vFor s) fun t => (tgB N sc g t.1 && notSet t.2.1) && (chkI Tb N sc it t.1 t.2.1 && chkSs Tb N sc nw a t.2.2)
  | .rse c e, s => opt (vRse s) fun t => (decide (t.1 = enc c) && globB sc t.1) && (Tb.Y.cls.contains c && (noStar t.2 && chkE Tb N sc e t.2))
  | .try_ i a hs, s => !nw && opt (vTry s) fun t => opt (hdName t.2.1) fun n => (decide ((N.map enc)[i]? = some n) && decide (sc.names.lookup n = some .local)) && (hsB sc Tb.Y n hs (t.2.1 :: t.2.2) && chkSs Tb N sc false a t.1)
  | .pass, s => vPass s
  | .brk, s => vBrk s
  | .cnt, s => vCnt s
def chkSs (Tb : Tab) (N : List String) (sc : Scope) (nw : Bool) : Ss → List Stmt → Bool
  | .nil, [] => true
  | .cons s ss, x :: l => chkS Tb N sc nw s x && chkSs Tb N sc nw ss l
  | _, _ => false
end
end CW

set_option Elab.async false
set_option linter.all false
set_option maxRecDepth 100000
namespace CW
open PySem PySem.Spec PyProof.Rows L2

/-- where statements stand -/
structure CtxS (P : Program) (w : World) (K : PySem.W.Frag) (mg : Str → Option Value) (base : Heap) (N : List String) (sc : Scope) (n : Nat) (W : WX) (X : Cx) : Prop where
  e : CtxE P w K mg base N sc n W X
  g : CtxG N sc X
  tk : Takes X W
  po : PassesOwn (model X.prog X.w) X.A X.env X.xe
  hs : X.stack = X.env :: X.outer
  hf : X.env.frame = some X.env.locals
  kd : sc.kind = .function
/-- own errors are made everywhere -/
def MkAll (P : Program) (w : World) (K : PySem.W.Frag) (mg : Str → Option Value) (base : Heap) (n : Nat) (Y : Ex) : Prop :=
  ∀ {N : List String} {sc : Scope} {W : WX} {X : Cx}, CtxE P w K mg base N sc n W X → ∀ c ∈ Y.cls, Gl X (enc c) → MkX X c
section
variable {P : Program} {w : World} {K : PySem.W.Frag} {mg : Str → Option Value} {base : Heap} {N : List String} {sc : Scope} {n : Nat} {W : WX} {X : Cx} {Tb : Tab} {cf : CF}
theorem CtxS.tr (C : CtxS P w K mg base N sc n W X) {W' : WX} {pn : List (Addr × Obj)} {xe : Value → Shared → Prop} (tk : Takes (X.tr pn xe) W') (po : PassesOwn (model X.prog X.w) X.A X.env xe) : CtxS P w K mg base N sc n W' (X.tr pn xe) where
  e := { eP := C.e.eP, eW := C.e.eW, eK := C.e.eK, eM := C.e.eM, eB := C.e.eB, eN := C.e.eN, nd := C.e.nd, eS := C.e.eS, calm := C.e.calm, room := C.e.room, pa := passAt tk }
  g := { eN := C.g.eN, nd := C.g.nd, calm := C.g.calm, st := C.g.st }
  tk := tk
  po := po
  hs := C.hs
  hf := C.hf
  kd := C.kd
theorem cs_setLc (Fc : Fcts P w K mg base Tb n cf) (C : CtxS P w K mg base N sc n W X) {nw : Bool} {i : Nat} {y : Str} {py spos : Pos} {x : Expr} {e : E} (h1 : locNB N sc i y = true) (h2 : chkE Tb N sc e x = true) (h3 : lcLine sc y py x = true) (h4 : isLc e = true) :
    PS X (.Assign [.Name y py] x spos) (tS X.K W nw (evS cf Tb.Y (.setN i e))) := by
  cases e with
  | lc elt g own it cs =>
    obtain ⟨⟨elt', tg, iter, fs, scope⟩, q, hh⟩ := opt_ok (o := vLc x) (f := fun t => ((blkC (N.map enc) sc t.2.2.2.2 (ownP N own) && tgB N t.2.2.2.2 g t.2.1) && ((tgs g).all (fun i => decide (i ∈ own)) && notSet t.2.2.1)) &&
        (chkI Tb N sc it t.2.1 t.2.2.1 && (chkC Tb N (relS t.2.2.2.2 sc) cs t.2.2.2.1 && chkE Tb N (relS t.2.2.2.2 sc) elt t.1))) h2
    obtain ⟨h1', h2'⟩ := and2 hh
    obtain ⟨h11, h12⟩ := and2 h1'
    obtain ⟨h111, h112⟩ := and2 h11
    obtain ⟨h121, h122⟩ := and2 h12
    obtain ⟨hi, h2''⟩ := and2 h2'
    obtain ⟨hc, he⟩ := and2 h2''
    obtain ⟨p, rfl⟩ := vLc_ok q
    obtain ⟨k1, k2⟩ := and2 (show (decide (sc.names.lookup y = some .local) && ((py.line == p.line) && !anyOwn scope y)) = true from h3)
    obtain ⟨k3, k4⟩ := and2 k2
    have hy := (and2 (show (locB sc y && decide ((N.map enc)[i]? = some y)) = true from h1)).2
    have hy' : (N.map enc)[i]? = some y := of_decide_eq_true hy
    have k1' : sc.names.lookup y = some .local := of_decide_eq_true k1
    refine (snd_setLc (i := i) (own := own) (g := g) C.e hy' k1' (sw_true (by rw [C.e.eS]; exact C.kd) (by rw [C.e.eS]; exact k1') k3 (by simpa [anyOwn] using k4)) h111 h112 h121 h122 (sI Fc it C.e hi) (fun _ C' => sC Fc cs C' hc) (fun _ C' => toF (sE Fc elt C' he))).imp fun D σ H hl h => ?_
    refine asg_lc (fun r hr => ?_) h
    rw [hr, hl, C.e.eN]
    exact Nat.lt_of_not_le fun z => by rw [List.getElem?_eq_none z] at hy'; cases hy'
  | _ => cases h4
theorem isN_to {e : E} {x : Expr} (h : isN e = true) (p : PE X x (tX X.K W (rK X.K (isN e)) (evE cf e))) : PE X x (tX X.K W (rN X.K) (evE cf e)) := by
  rw [h] at p; exact p
theorem cs_retN {e : E} {x : Expr} {pos : Pos} (hv : isVar e = none) (h : PE X x (tX X.K W (rN X.K) (evE cf e))) : PS X (.Return (some x) pos) (tS X.K W true (evS cf Tb.Y (.retN e))) := by
  cases e with
  | var i => cases hv
  | _ => exact snd_retN h
theorem vPass_ok {nw : Bool} {s : Stmt} (h : vPass s = true) : PS X s (tS X.K W nw (fun r => .nx r)) := by
  unfold vPass at h
  split at h
  · exact snd_pass
  · exact snd_doc
  · cases h
end
section
variable {P : Program} {w : World} {K : PySem.W.Frag} {mg : Str → Option Value} {base : Heap} {N : List String} {sc : Scope} {n : Nat} {Tb : Tab} {cf : CF}
mutual
theorem sS (Fc : Fcts P w K mg base Tb n cf) (Mx : MkAll P w K mg base n Tb.Y) : ∀ (s : S) {nw : Bool} {st : Stmt} {W : WX} {X : Cx}, CtxS P w K mg base N sc n W X → chkS Tb N sc nw s st = true → PS X st (tS X.K W nw (evS cf Tb.Y s))
  | .set i e, nw, st, W, X, C, h => by
    obtain ⟨⟨t, x⟩, q, h⟩ := opt_ok (o := vAsg st) (f := fun t => opt (vN t.1) fun x => locNB N sc i x.1 && (noSw sc x.1 t.2 && chkE Tb N sc e t.2)) h
    obtain ⟨y, q2, h⟩ := opt_ok h
    obtain ⟨h1, h⟩ := and2 h
    obtain ⟨h2, h3⟩ := and2 h
    obtain ⟨p, rfl⟩ := vAsg_ok q
    obtain rfl := vN_ok q2
    exact snd_set C.g h1 (by rw [C.e.eS]; exact h2) (toF (sE Fc e C.e h3))
  | .setN i e, nw, st, W, X, C, h => by
    obtain ⟨⟨t, x⟩, q, h⟩ := opt_ok (o := vAsg st) (f := fun t => opt (vN t.1) fun x => locNB N sc i x.1 && (isN e && (chkE Tb N sc e t.2 && (noSw sc x.1 t.2 || (lcLine sc x.1 x.2 t.2 && isLc e))))) h
    obtain ⟨y, q2, h⟩ := opt_ok h
    obtain ⟨h1, h⟩ := and2 h
    obtain ⟨h2, h⟩ := and2 h
    obtain ⟨h3, h4⟩ := and2 h
    obtain ⟨p, rfl⟩ := vAsg_ok q
    obtain rfl := vN_ok q2
    by_cases z : noSw sc y.1 x = true
    · exact snd_setN C.g h1 (by rw [C.e.eS]; exact z) (isN_to h2 (sE Fc e C.e h3))
    · have h5 : lcLine sc y.1 y.2 x = true ∧ isLc e = true := by
        have : noSw sc y.1 x = true ∨ (lcLine sc y.1 y.2 x = true ∧ isLc e = true) := by simpa using h4
        exact this.resolve_left z
      exact cs_setLc Fc C h1 h3 h5.1 h5.2
  | .par i j a b, nw, st, W, X, C, h => by
    obtain ⟨⟨t, x⟩, q, h⟩ := opt_ok (o := vAsg st) (f := fun t => opt (vTup t.1) fun l => opt (vTup t.2) fun r => opt (two2 l) fun n => opt (two2 r) fun v => opt (vN n.1) fun x => opt (vN n.2) fun y =>
      (locNB N sc i x.1 && locNB N sc j y.1) && ((parB sc x.1 x.2 y.1 y.2 v.1 v.2 && decide (i ≠ j)) && (chkE Tb N sc a v.1 && chkE Tb N sc b v.2))) h
    obtain ⟨l, q2, h⟩ := opt_ok h
    obtain ⟨r, q3, h⟩ := opt_ok h
    obtain ⟨nn, q4, h⟩ := opt_ok h
    obtain ⟨v, q5, h⟩ := opt_ok h
    obtain ⟨x1, q6, h⟩ := opt_ok h
    obtain ⟨y1, q7, h⟩ := opt_ok h
    obtain ⟨h1, h⟩ := and2 h
    obtain ⟨h2, h3⟩ := and2 h
    obtain ⟨h11, h12⟩ := and2 h1
    obtain ⟨h21, h22⟩ := and2 h2
    obtain ⟨h31, h32⟩ := and2 h3
    obtain ⟨p, rfl⟩ := vAsg_ok q
    obtain ⟨k1, p1, rfl⟩ := vTup_ok q2
    obtain ⟨k2, p2, rfl⟩ := vTup_ok q3
    obtain rfl := two2_ok q4
    obtain rfl := two2_ok q5
    rw [vN_ok q6, vN_ok q7]
    exact snd_par C.g C.e.eS h11 h12 h21 (of_decide_eq_true h22) (toF (sE Fc a C.e h31)) (toF (sE Fc b C.e h32))
  | .unp g e, nw, st, W, X, C, h => by
    obtain ⟨⟨t, x⟩, q, h⟩ := opt_ok (o := vAsg st) (f := fun t => (tgB N sc g t.1 && notComp t.2) && (noSwap t.1 t.2 && chkE Tb N sc e t.2)) h
    obtain ⟨h1, h⟩ := and2 h
    obtain ⟨h11, h12⟩ := and2 h1
    obtain ⟨h2, h3⟩ := and2 h
    obtain ⟨p, rfl⟩ := vAsg_ok q
    exact snd_unp C.g h11 h12 h2 (toF (sE Fc e C.e h3))
  | .setix i k v, nw, st, W, X, C, h => by
    obtain ⟨⟨t, x⟩, q, h⟩ := opt_ok (o := vAsg st) (f := fun t => opt (vSub t.1) fun o => (vNm N sc i o.1 && notComp t.2) && (noSlice o.2 && (chkE Tb N sc k o.2 && chkE Tb N sc v t.2))) h
    obtain ⟨⟨o1, o2⟩, q2, h⟩ := opt_ok h
    obtain ⟨h1, h⟩ := and2 h
    obtain ⟨h11, h12⟩ := and2 h1
    obtain ⟨h2, h⟩ := and2 h
    obtain ⟨h3, h4⟩ := and2 h
    obtain ⟨p, rfl⟩ := vAsg_ok q
    obtain ⟨p2, rfl⟩ := vSub_ok q2
    obtain ⟨y, p3, rfl, hy⟩ := vNm_ok h11
    exact snd_setix (C.e.name hy) h12 h2 (toF (sE Fc k C.e h3)) (toF (sE Fc v C.e h4))
  | .swap i k1 k2 v1 v2, nw, st, W, X, C, h => by
    obtain ⟨⟨t, x⟩, q, h⟩ := opt_ok (o := vAsg st) (f := fun t => opt (vTup t.1) fun l => opt (vTup t.2) fun r => opt (two2 l) fun n => opt (two2 r) fun v => opt (vSub n.1) fun o1 => opt (vSub n.2) fun o2 => opt (vN o1.1) fun x => opt (vN o2.1) fun y =>
      ((nameB N sc i x.1 && decide (y.1 = x.1)) && ((noSlice o1.2 && noSlice o2.2) && (noStar v.1 && noStar v.2))) && ((chkE Tb N sc k1 o1.2 && chkE Tb N sc k2 o2.2) && (chkE Tb N sc v1 v.1 && chkE Tb N sc v2 v.2))) h
    obtain ⟨l, q2, h⟩ := opt_ok h
    obtain ⟨r, q3, h⟩ := opt_ok h
    obtain ⟨⟨n1, n2⟩, q4, h⟩ := opt_ok h
    obtain ⟨v, q5, h⟩ := opt_ok h
    obtain ⟨⟨o1, a1⟩, q6, h⟩ := opt_ok h
    obtain ⟨⟨o2, a2⟩, q7, h⟩ := opt_ok h
    obtain ⟨x1, q8, h⟩ := opt_ok h
    obtain ⟨⟨y1, y2⟩, q9, h⟩ := opt_ok h
    obtain ⟨h1, h⟩ := and2 h
    obtain ⟨h2, h3⟩ := and2 h
    obtain ⟨h11, h12⟩ := and2 h1
    obtain ⟨h111, h112⟩ := and2 h11
    obtain ⟨h121, h122⟩ := and2 h12
    obtain ⟨p, rfl⟩ := vAsg_ok q
    obtain ⟨kk1, p1, rfl⟩ := vTup_ok q2
    obtain ⟨kk2, p2, rfl⟩ := vTup_ok q3
    obtain rfl := two2_ok q4
    obtain rfl := two2_ok q5
    obtain ⟨ps1, e6⟩ := vSub_ok q6
    obtain ⟨ps2, e7⟩ := vSub_ok q7
    have e8 := vN_ok q8
    have e9 := vN_ok q9
    have ey : y1 = x1.1 := of_decide_eq_true h112
    dsimp only at e6 e7 e8 e9
    rw [ey] at e9
    dsimp only
    rw [e6, e7, e8, e9]
    exact snd_swap C.g.calm (C.e.name h111) (C.e.name h111) (and2 h122).1 (and2 h122).2 (and2 h121).1 (and2 h121).2 (toF (sE Fc k1 C.e (and2 h2).1)) (toF (sE Fc k2 C.e (and2 h2).2)) (toF (sE Fc v1 C.e (and2 h3).1)) (toF (sE Fc v2 C.e (and2 h3).2))
  | .setf i cs f e, nw, st, W, X, C, h => by
    obtain ⟨⟨t, x⟩, q, h⟩ := opt_ok (o := vAsg st) (f := fun t => opt (vFld t.1) fun o => (vNm N sc i o.1 && (decide (o.2 = enc f) && notComp t.2)) && ((cs.all fun c => Tb.flds.contains (c, f)) && chkE Tb N sc e t.2)) h
    obtain ⟨⟨o1, o2⟩, q2, h⟩ := opt_ok h
    obtain ⟨h1, h⟩ := and2 h
    obtain ⟨h11, h12⟩ := and2 h1
    obtain ⟨h121, h122⟩ := and2 h12
    obtain ⟨h2, h3⟩ := and2 h
    obtain ⟨p, rfl⟩ := vAsg_ok q
    obtain ⟨p2, rfl⟩ := vFld_ok q2
    obtain rfl : o2 = enc f := of_decide_eq_true h121
    obtain ⟨y, p3, rfl, hy⟩ := vNm_ok h11
    exact snd_setf (C.e.name hy) h122 (toF (sE Fc e C.e h3)) fun c hc => (Fc.at C.e).fl c f (by simpa using List.all_eq_true.mp h2 c hc)
  | .app i e, nw, st, W, X, C, h => by
    obtain ⟨t, q, h⟩ := opt_ok (o := vExp st) (f := fun t => opt (vMeth t) fun o => opt (one1 o.2.2) fun a => (decide (o.2.1 = "append") && vNm N sc i o.1) && (noStar a && chkE Tb N sc e a)) h
    obtain ⟨⟨o, m, l⟩, q2, h⟩ := opt_ok h
    obtain ⟨a, q3, h⟩ := opt_ok h
    obtain ⟨h1, h⟩ := and2 h
    obtain ⟨h11, h12⟩ := and2 h1
    obtain ⟨h2, h3⟩ := and2 h
    obtain ⟨p, rfl⟩ := vExp_ok q
    obtain ⟨ap, pos, rfl, hl⟩ := vMeth_ok q2
    obtain rfl := one1_ok q3
    obtain rfl : m = ("append" : Str) := of_decide_eq_true h11
    obtain ⟨y, p3, rfl, hy⟩ := vNm_ok h12
    exact snd_app (C.e.name hy) (toF (sE Fc e C.e h3)) h2 hl
  | .ext i e, nw, st, W, X, C, h => by
    obtain ⟨t, q, h⟩ := opt_ok (o := vExp st) (f := fun t => opt (vMeth t) fun o => opt (one1 o.2.2) fun a => (decide (o.2.1 = "extend") && vNm N sc i o.1) && (noStar a && chkE Tb N sc e a)) h
    obtain ⟨⟨o, m, l⟩, q2, h⟩ := opt_ok h
    obtain ⟨a, q3, h⟩ := opt_ok h
    obtain ⟨h1, h⟩ := and2 h
    obtain ⟨h11, h12⟩ := and2 h1
    obtain ⟨h2, h3⟩ := and2 h
    obtain ⟨p, rfl⟩ := vExp_ok q
    obtain ⟨ap, pos, rfl, hl⟩ := vMeth_ok q2
    obtain rfl := one1_ok q3
    obtain rfl : m = ("extend" : Str) := of_decide_eq_true h11
    obtain ⟨y, p3, rfl, hy⟩ := vNm_ok h12
    exact snd_ext (C.e.name hy) (toF (sE Fc e C.e h3)) h2 hl
  | .ins0 i e, nw, st, W, X, C, h => by
    obtain ⟨t, q, h⟩ := opt_ok (o := vExp st) (f := fun t => opt (vMeth t) fun o => opt (two2 o.2.2) fun a => (decide (o.2.1 = "insert") && vNm N sc i o.1) && (cI 0 a.1 && (noStar a.2 && chkE Tb N sc e a.2))) h
    obtain ⟨⟨o, m, l⟩, q2, h⟩ := opt_ok h
    obtain ⟨⟨a1, a2⟩, q3, h⟩ := opt_ok h
    obtain ⟨h1, h⟩ := and2 h
    obtain ⟨h11, h12⟩ := and2 h1
    obtain ⟨h2, h⟩ := and2 h
    obtain ⟨h3, h4⟩ := and2 h
    obtain ⟨p, rfl⟩ := vExp_ok q
    obtain ⟨ap, pos, rfl, hl⟩ := vMeth_ok q2
    obtain rfl := two2_ok q3
    obtain rfl : m = ("insert" : Str) := of_decide_eq_true h11
    obtain ⟨y, p3, rfl, hy⟩ := vNm_ok h12
    obtain ⟨kk, pp, e1⟩ := cI_ok h2
    dsimp only at e1
    subst e1
    exact snd_ins0 (C.e.name hy) pe_int rfl (toF (sE Fc e C.e h4)) h3 hl
  | .rvs i, nw, st, W, X, C, h => by
    obtain ⟨t, q, h⟩ := opt_ok (o := vExp st) (f := fun t => opt (vMeth t) fun o => decide (o.2.1 = "reverse") && (vNm N sc i o.1 && o.2.2.isEmpty)) h
    obtain ⟨⟨o, m, l⟩, q2, h⟩ := opt_ok h
    obtain ⟨h1, h⟩ := and2 h
    obtain ⟨h2, h3⟩ := and2 h
    obtain ⟨p, rfl⟩ := vExp_ok q
    obtain ⟨ap, pos, rfl, hl⟩ := vMeth_ok q2
    obtain rfl : l = [] := List.isEmpty_iff.mp h3
    obtain rfl : m = ("reverse" : Str) := of_decide_eq_true h1
    obtain ⟨y, p3, rfl, hy⟩ := vNm_ok h2
    exact snd_rvs (C.e.name hy) hl
  | .exp e, nw, st, W, X, C, h => by
    obtain ⟨t, q, h⟩ := opt_ok (o := vExp st) (f := fun t => notComp t && chkE Tb N sc e t) h
    obtain ⟨h1, h2⟩ := and2 h
    obtain ⟨p, rfl⟩ := vExp_ok q
    exact snd_exp h1 (sE Fc e C.e h2)
  | .ret e, nw, st, W, X, C, h => by
    obtain ⟨h0, h⟩ := and2 (show (!nw && opt (vRet st) fun t => chkE Tb N sc e t) = true from h)
    obtain ⟨t, q, h⟩ := opt_ok h
    obtain ⟨p, rfl⟩ := vRet_ok q
    cases nw with
    | true => cases h0
    | false => exact snd_ret (toF (sE Fc e C.e h))
  | .retN e, nw, st, W, X, C, h => by
    obtain ⟨h0, hq⟩ := and2 (show (nw && opt (vRet st) fun t => (match isVar e with
      | some i => vNm N sc i t
      | none => isN e && chkE Tb N sc e t)) = true from h)
    obtain ⟨t, q, hr⟩ := opt_ok hq
    obtain ⟨p, rfl⟩ := vRet_ok q
    cases nw with
    | false => cases h0
    | true =>
      cases z : isVar e with
      | some i =>
        rw [z] at hr
        obtain rfl := isVar_ok z
        obtain ⟨y, p3, rfl, hy⟩ := vNm_ok hr
        exact snd_retV (C.e.name hy)
      | none =>
        rw [z] at hr
        obtain ⟨h1, h2⟩ := and2 hr
        exact cs_retN z (isN_to h1 (sE Fc e C.e h2))
  | .ret0, nw, st, W, X, C, h => by
    obtain ⟨h0, h⟩ := and2 (show (!nw && vRet0 st) = true from h)
    obtain ⟨p, rfl⟩ := vRet0_ok h
    cases nw with
    | true => cases h0
    | false => exact snd_ret0
  | .ifs c a b, nw, st, W, X, C, h => by
    obtain ⟨⟨c', a', b'⟩, q, h⟩ := opt_ok (o := vIfS st) (f := fun t => chkT Tb N sc c t.1 && (chkSs Tb N sc nw a t.2.1 && chkSs Tb N sc nw b t.2.2)) h
    obtain ⟨h1, h⟩ := and2 h
    obtain ⟨h2, h3⟩ := and2 h
    obtain ⟨p, rfl⟩ := vIfS_ok q
    exact snd_if (sT Fc c C.e h1) (sSs Fc Mx a C h2) (sSs Fc Mx b C h3)
  | .whl c a, nw, st, W, X, C, h => by
    obtain ⟨⟨c', a'⟩, q, h⟩ := opt_ok (o := vWhl st) (f := fun t => chkT Tb N sc c t.1 && chkSs Tb N sc nw a t.2) h
    obtain ⟨h1, h2⟩ := and2 h
    obtain ⟨p, rfl⟩ := vWhl_ok q
    exact snd_whl C.po (sT Fc c C.e h1) (sSs Fc Mx a C h2)
  | .for_ g it a, nw, st, W, X, C, h => by
    obtain ⟨⟨t, i, a'⟩, q, h⟩ := opt_ok (o := vFor st) (f := fun t => (tgB N sc g t.1 && notSet t.2.1) && (chkI Tb N sc it t.1 t.2.1 && chkSs Tb N sc nw a t.2.2)) h
    obtain ⟨h1, h⟩ := and2 h
    obtain ⟨h11, h12⟩ := and2 h1
    obtain ⟨h2, h3⟩ := and2 h
    obtain ⟨p, rfl⟩ := vFor_ok q
    exact snd_for C.g C.po h11 h12 (sI Fc it C.e h2) (sSs Fc Mx a C h3)
  | .rse c e, nw, st, W, X, C, h => by
    obtain ⟨⟨x, e'⟩, q, h⟩ := opt_ok (o := vRse st) (f := fun t => (decide (t.1 = enc c) && globB sc t.1) && (Tb.Y.cls.contains c && (noStar t.2 && chkE Tb N sc e t.2))) h
    obtain ⟨h1, h⟩ := and2 h
    obtain ⟨h11, h12⟩ := and2 h1
    obtain ⟨h2, h⟩ := and2 h
    obtain ⟨h3, h4⟩ := and2 h
    obtain ⟨p, pos, pos', rfl⟩ := vRse_ok q
    obtain rfl : x = enc c := of_decide_eq_true h11
    exact snd_rse C.g.calm C.tk (Mx C.e c (by simpa using h2) (C.e.glob h12)) h3 (toF (sE Fc e C.e h4))
  | .try_ i a hs, nw, st, W, X, C, h => by
    obtain ⟨h0, h⟩ := and2 (show (!nw && opt (vTry st) fun t => opt (hdName t.2.1) fun n => (decide ((N.map enc)[i]? = some n) && decide (sc.names.lookup n = some .local)) && (hsB sc Tb.Y n hs (t.2.1 :: t.2.2) && chkSs Tb N sc false a t.1)) = true from h)
    obtain ⟨⟨body, hd, hds⟩, q, h⟩ := opt_ok h
    obtain ⟨nn, q2, h⟩ := opt_ok h
    obtain ⟨h1, h⟩ := and2 h
    obtain ⟨h11, h12⟩ := and2 h1
    obtain ⟨h2, h3⟩ := and2 h
    obtain ⟨p, rfl⟩ := vTry_ok q
    cases nw with
    | true => cases h0
    | false => exact snd_try C.g C.e.eS (Fc.at C.e).er C.hs C.hf (of_decide_eq_true h11) (of_decide_eq_true h12) C.tk h2 fun W' pn xe tk po => sSs Fc Mx a (C.tr tk po) h3
  | .pass, nw, st, W, X, C, h => vPass_ok h
  | .brk, nw, st, W, X, C, h => by
    obtain ⟨p, rfl⟩ := vBrk_ok (show vBrk st = true from h)
    exact snd_brk
  | .cnt, nw, st, W, X, C, h => by
    obtain ⟨p, rfl⟩ := vCnt_ok (show vCnt st = true from h)
    exact snd_cnt
theorem sSs (Fc : Fcts P w K mg base Tb n cf) (Mx : MkAll P w K mg base n Tb.Y) : ∀ (ss : Ss) {nw : Bool} {l : List Stmt} {W : WX} {X : Cx}, CtxS P w K mg base N sc n W X → chkSs Tb N sc nw ss l = true → PSs X l (tS X.K W nw (evSs cf Tb.Y ss))
  | .nil, nw, [], W, X, C, h => snd_snil
  | .nil, nw, _ :: _, W, X, C, h => Bool.noConfusion h
  | .cons _ _, nw, [], W, X, C, h => Bool.noConfusion h
  | .cons s ss, nw, x :: l, W, X, C, h => by
    obtain ⟨h1, h2⟩ := and2 (show (chkS Tb N sc nw s x && chkSs Tb N sc nw ss l) = true from h)
    exact snd_scons (sS Fc Mx s C h1) (sSs Fc Mx ss C h2)
end
end
end CW

set_option Elab.async false
set_option linter.all false
set_option maxRecDepth 100000
/-! Whole defs: what the small language's call tells, the def keeps. -/
namespace CW
open PySem PySem.Spec PyProof.Rows L2

theorem init_at : ∀ {ms : List Bool} {ds : List D} {rho : Env}, initE ms ds = some rho → rho.length = ms.length ∧ ∀ k, k < ms.length → ∃ d, ds[k]? = some d ∧ ((ms[k]? = some false ∧ get rho k = .va d) ∨ (ms[k]? = some true ∧ get rho k = .ow true d))
  | [], [], rho, h => by
    obtain rfl : [] = rho := Option.some.inj h
    exact ⟨rfl, fun k hk => absurd hk (Nat.not_lt_zero _)⟩
  | [], _ :: _, _, h => by cases h
  | _ :: _, [], _, h => by cases h
  | m :: ms, d :: ds, rho, h => by
    obtain ⟨r', h1, rfl⟩ := initE_cons h
    obtain ⟨i1, i2⟩ := init_at h1
    refine ⟨congrArg Nat.succ i1, fun k hk => ?_⟩
    cases k with
    | zero =>
      refine ⟨d, rfl, ?_⟩
      cases m with
      | false => exact .inl ⟨rfl, rfl⟩
      | true => exact .inr ⟨rfl, rfl⟩
    | succ k =>
      obtain ⟨d', e1, e2⟩ := i2 k (Nat.lt_of_succ_lt_succ hk)
      exact ⟨d', by simpa using e1, by simpa [get] using e2⟩
theorem outs_at : ∀ {ms : List Bool} {ds o : List D} {r : Env}, outsE ms ds r = some o → ∃ rho1, initE ms o = some rho1 ∧ rho1.length = ms.length ∧
    ∀ k, k < ms.length → (∃ d, get rho1 k = .va d ∧ ds[k]? = some d ∧ ms[k]? = some false) ∨ (∃ d, get rho1 k = .ow true d ∧ get r k = .ow true d ∧ ms[k]? = some true)
  | [], [], o, r, h => by
    obtain rfl : [] = o := Option.some.inj h
    exact ⟨[], rfl, rfl, fun k hk => absurd hk (Nat.not_lt_zero _)⟩
  | [], _ :: _, _, _, h => by cases h
  | false :: ms, d :: ds, o, r, h => by
    cases r with
    | nil => cases h
    | cons x r =>
      have h' : (outsE ms ds r).map (d :: ·) = some o := h
      obtain ⟨o', e1, rfl⟩ := Option.map_eq_some_iff.mp h'
      obtain ⟨rho1, a1, a2, a3⟩ := outs_at e1
      refine ⟨.va d :: rho1, by show (initE ms o').map _ = _; rw [a1]; rfl, congrArg Nat.succ a2, fun k hk => ?_⟩
      cases k with
      | zero => exact .inl ⟨d, rfl, rfl, rfl⟩
      | succ k => simpa [get] using a3 k (Nat.lt_of_succ_lt_succ hk)
  | true :: ms, d :: ds, o, r, h => by
    cases r with
    | nil => cases h
    | cons x r =>
      cases x with
      | ow b d' =>
        cases b with
        | false => cases h
        | true =>
          have h' : (outsE ms ds r).map (d' :: ·) = some o := h
          obtain ⟨o', e1, rfl⟩ := Option.map_eq_some_iff.mp h'
          obtain ⟨rho1, a1, a2, a3⟩ := outs_at e1
          refine ⟨.ow true d' :: rho1, by show (initE ms o').map _ = _; rw [a1]; rfl, congrArg Nat.succ a2, fun k hk => ?_⟩
          cases k with
          | zero => exact .inr ⟨d', rfl, rfl, rfl⟩
          | succ k => simpa [get] using a3 k (Nat.lt_of_succ_lt_succ hk)
      | _ => cases h
  | true :: _, [], _, _, h => by cases h
  | false :: _, [], _, _, h => by cases h
theorem get_app : ∀ (a b : Env) (k : Nat), k < a.length → get (a ++ b) k = get a k
  | [], _, _, h => absurd h (Nat.not_lt_zero _)
  | _ :: _, _, 0, _ => rfl
  | _ :: a, b, k + 1, h => get_app a b k (Nat.lt_of_succ_lt_succ h)
theorem get_pad : ∀ (a : Env) (n k : Nat), a.length ≤ k → get (a ++ List.replicate n .un) k = .un
  | [], n, k, _ => by
    induction n generalizing k with
    | zero => cases k <;> rfl
    | succ n ih => cases k with
      | zero => rfl
      | succ k => exact ih k (Nat.zero_le _)
  | _ :: _, _, 0, h => absurd h (Nat.not_succ_le_zero _)
  | _ :: a, n, k + 1, h => get_pad a n k (Nat.le_of_succ_le_succ h)
section
variable {K : PySem.W.Frag} {rho r : Env} {σ σ' : L2.St} {G G' H H' : Hp} {ms : List Bool} {ds o : List D} {n : Nat}
theorem StRel.pad (s : StRel K rho σ G H) : StRel K (rho ++ List.replicate n .un) (σ ++ List.replicate n none) G H := by
  have key : ∀ k, isO (get (rho ++ List.replicate n .un) k) = true → k < rho.length ∧ isO (get rho k) = true := fun k h => by
    by_cases z : k < rho.length
    · rw [get_app _ _ _ z] at h; exact ⟨z, h⟩
    · rw [get_pad _ _ _ (Nat.le_of_not_lt z)] at h; cases h
  have sat : ∀ k, k < rho.length → (σ ++ List.replicate n none)[k]? = σ[k]? := fun k z => List.getElem?_append_left (by rw [← s.len]; exact z)
  refine ⟨by simp [s.len], s.sub, fun k => ?_, fun i j p hi hj ei ej => ?_⟩
  · by_cases z : k < rho.length
    · rw [get_app _ _ _ z, sat k z]; exact s.sl k
    · rw [get_pad _ _ _ (Nat.le_of_not_lt z)]; trivial
  · obtain ⟨zi, hi⟩ := key i hi
    obtain ⟨zj, hj⟩ := key j hj
    rw [sat i zi] at ei
    rw [sat j zj] at ej
    exact s.inj i j p hi hj ei ej
/-- the parameters as they stand behind the body -/
theorem Step.leave (s : StRel K rho σ G H) (e0 : initE ms ds = some rho) (h : Step K (rho ++ List.replicate n .un) (σ ++ List.replicate n none) G H r σ' G' H') (eo : outsE ms ds r = some o) :
    ∃ rho1, initE ms o = some rho1 ∧ Step K rho σ G H rho1 σ G' H' ∧ (∀ k, isO (get rho1 k) = true → isO (get r k) = true ∧ σ'[k]? = σ[k]?) ∧ ∀ k d, get (rho ++ List.replicate n .un) k ≠ .ow false d := by
  obtain ⟨l0, i0⟩ := init_at e0
  obtain ⟨rho1, a1, a2, a3⟩ := outs_at eo
  have sat : ∀ k, k < ms.length → (σ ++ List.replicate n none)[k]? = σ[k]? := fun k z => List.getElem?_append_left (by rw [← s.len, l0]; exact z)
  have g0 : ∀ k, k < ms.length → get (rho ++ List.replicate n .un) k = get rho k := fun k z => get_app _ _ _ (by rw [l0]; exact z)
  have gp : ∀ k, ¬ k < ms.length → get (rho ++ List.replicate n .un) k = .un := fun k z => get_pad _ _ _ (by rw [l0]; exact Nat.le_of_not_lt z)
  have out1 : ∀ k, ¬ k < ms.length → get rho1 k = .un := fun k z => get_out _ _ (by rw [a2]; exact Nat.le_of_not_lt z)
  have out0 : ∀ k, ¬ k < ms.length → get rho k = .un := fun k z => get_out _ _ (by rw [l0]; exact Nat.le_of_not_lt z)
  have len : ∀ k, k < ms.length → ms[k]? = some true → ∃ d d', get rho k = .ow true d ∧ get r k = .ow true d' ∧ get rho1 k = .ow true d' ∧ σ'[k]? = σ[k]? := fun k z e => by
    obtain ⟨d, _, e1⟩ := i0 k z
    rcases e1 with ⟨q, _⟩ | ⟨_, q⟩
    · rw [e] at q; cases q
    · rcases a3 k z with ⟨_, _, _, q'⟩ | ⟨d', q1, q2, _⟩
      · rw [e] at q'; cases q'
      · obtain ⟨f1, _⟩ := h.lent k d (by rw [g0 k z]; exact q)
        exact ⟨d, d', q, q2, q1, by rw [f1, sat k z]⟩
  have own1 : ∀ k, isO (get rho1 k) = true → k < ms.length ∧ ms[k]? = some true := fun k hk => by
    by_cases z : k < ms.length
    · rcases a3 k z with ⟨d, q, _, _⟩ | ⟨d, _, _, q⟩
      · rw [q] at hk; cases hk
      · exact ⟨z, q⟩
    · rw [out1 k z] at hk; cases hk
  have io : ∀ k, isO (get rho1 k) = true → isO (get r k) = true ∧ σ'[k]? = σ[k]? := fun k hk => by
    obtain ⟨z, e⟩ := own1 k hk
    obtain ⟨d, d', q1, q2, q3, q4⟩ := len k z e
    exact ⟨by rw [q2]; rfl, q4⟩
  have back : ∀ p, OwA (rho ++ List.replicate n .un) (σ ++ List.replicate n none) p → OwA rho σ p := fun p ⟨k, b, d, g, e⟩ => by
    by_cases z : k < ms.length
    · rw [g0 k z] at g; rw [sat k z] at e; exact ⟨k, b, d, g, e⟩
    · rw [gp k z] at g; cases g
  have forth : ∀ p, OwA rho σ p → OwA (rho ++ List.replicate n .un) (σ ++ List.replicate n none) p := fun p ⟨k, b, d, g, e⟩ => by
    by_cases z : k < ms.length
    · exact ⟨k, b, d, by rw [g0 k z]; exact g, by rw [sat k z]; exact e⟩
    · rw [out0 k z] at g; cases g
  have backI : ∀ p, OwI (rho ++ List.replicate n .un) (σ ++ List.replicate n none) p → OwI rho σ p := fun p ⟨k, g, e⟩ => by
    by_cases z : k < ms.length
    · rw [g0 k z] at g; rw [sat k z] at e; exact ⟨k, g, e⟩
    · rw [gp k z] at g; cases g
  refine ⟨rho1, a1, ⟨⟨by rw [a2, ← l0]; exact s.len, h.st.sub, fun k => ?_, fun i j p hi hj ei ej => ?_⟩, h.ext, h.live, fun a ha no => h.frame a ha fun w => no (back a w), fun p ⟨k, b, d, g, e⟩ => ?_, fun p ⟨k, g, e⟩ => ?_, fun k d g => ?_, fun k b d g => ?_⟩, io, fun k d g => ?_⟩
  · by_cases z : k < ms.length
    · rcases a3 k z with ⟨d, q1, q2, q3⟩ | ⟨d, q1, q2, q3⟩
      · obtain ⟨d0, e1, e2⟩ := i0 k z
        rcases e2 with ⟨_, e2⟩ | ⟨e2, _⟩
        · have : d0 = d := by rw [q2] at e1; exact (Option.some.inj e1).symm
          subst this
          rw [q1]
          obtain ⟨x, f1, f2⟩ := s.frozen e2
          exact ⟨x, f1, f2.mono h.ext⟩
        · rw [q3] at e2; cases e2
      · obtain ⟨_, _, _, _, _, q4⟩ := len k z q3
        have := h.st.sl k
        rw [q2, q4] at this
        rw [q1]; exact this
    · rw [out1 k z]; trivial
  · obtain ⟨i1, i2⟩ := io i hi
    obtain ⟨j1, j2⟩ := io j hj
    exact h.st.inj i j p i1 j1 (by rw [i2]; exact ei) (by rw [j2]; exact ej)
  · have hk : isO (get rho1 k) = true := by rw [g]; rfl
    obtain ⟨z, em⟩ := own1 k hk
    obtain ⟨d0, d', q1, q2, q3, q4⟩ := len k z em
    exact (h.own p ⟨k, true, d', q2, by rw [q4]; exact e⟩).imp (back p) id
  · obtain ⟨i1, i2⟩ := io k g
    exact (h.ownI p ⟨k, i1, by rw [i2]; exact e⟩).imp (backI p) id
  · by_cases z : k < ms.length
    · obtain ⟨d0, _, e2⟩ := i0 k z
      rcases e2 with ⟨_, e2⟩ | ⟨em, _⟩
      · rw [g] at e2; cases e2
      · obtain ⟨_, d', _, _, q3, _⟩ := len k z em
        exact ⟨rfl, d', q3⟩
    · rw [out0 k z] at g; cases g
  · by_cases z : k < ms.length
    · obtain ⟨d0, _, e2⟩ := i0 k z
      rcases e2 with ⟨_, e2⟩ | ⟨_, e2⟩ <;> rw [g] at e2 <;> cases e2
    · rw [out0 k z] at g; cases g
  · by_cases z : k < ms.length
    · obtain ⟨d0, _, e2⟩ := i0 k z
      rw [g0 k z] at g
      rcases e2 with ⟨_, e2⟩ | ⟨_, e2⟩ <;> rw [g] at e2 <;> cases e2
    · rw [gp k z] at g; cases g
end

/-! ### a def -/
section
variable {P : Program} {w : World} {K : PySem.W.Frag} {mg : Str → Option Value} {base : Heap} {Tb : Tab} {n : Nat}
theorem ctxS_of {N : List String} {sc : Scope} {qual : Str} {f : Addr} {cdv : Value} {A : Around} {outer : List PySem.Env} {s : Shared} {H : Hp} {E : XK} (hr : Room (2 * n + 1) (A.deeper (envOfC qual sc s.heap.objs.size f cdv))) (nd : (N.map enc).Nodup) (kd : sc.kind = .function) :
    CtxS P w K mg base N sc n (fun cls d _ H => E cls d H) (cxOf (L2.CX P w) P w K mg base (N.map enc) qual sc f cdv A outer s H E) where
  e := { eP := rfl, eW := rfl, eK := rfl, eM := rfl, eB := rfl, eN := rfl, nd := nd, eS := rfl, calm := rfl, room := hr, pa := passAt (takes_of rfl rfl rfl rfl) }
  g := { eN := rfl, nd := nd, calm := rfl, st := fun x h => ⟨locB_ok h, .inl rfl⟩ }
  tk := takes_of rfl rfl rfl rfl
  po := passes_of rfl
  hs := rfl
  hf := rfl
  kd := kd
/-- what must be known of a def -/
structure DefOk (K : PySem.W.Frag) (Tb : Tab) (f : Fd) : Prop where
  ex : ∃ (x qual : Str) (params : Arguments) (body : List Stmt) (scope : Scope) (fd : FuncData), FunD K x qual params body scope [] [] (fA K f) fd ∧ FnScope (f.N.map enc) f.ps scope ∧ Binds K fd f.ps [] ∧ chkSs Tb f.N scope f.nw f.body body = true
  le : f.ms.length ≤ f.N.length
theorem ps_len {f : Fd} (h : f.ms.length ≤ f.N.length) : f.ps.length = f.ms.length := by
  unfold Fd.ps
  rw [List.length_take, List.length_map]
  omega
theorem body_ok {f : Fd} {cf : CF} {W : WX} {E : XK} {vs : List V} {ds : List D} {rho : Env} {G H : Hp} {Q : VK} (le : f.ms.length ≤ f.N.length) (hv : vs.length = f.ms.length) (e0 : initE f.ms ds = some rho) (s : StRel K rho (vs.map some) G H)
    (rp : RetP K f.ms f.nw rho (vs.map some) G H (runF cf Tb.Y f ds) Q E) : tS K (fun cls d _ H => E cls d H) f.nw (evSs cf Tb.Y f.body) { nx := fun _ H' => Q .non H', rt := Q } (L2.start (f.N.map enc) vs) H := by
  have es : L2.start (f.N.map enc) vs = vs.map some ++ List.replicate (f.N.length - f.ms.length) none := by unfold L2.start; rw [List.length_map, hv]
  rw [es]
  refine ⟨rho ++ List.replicate (f.N.length - f.ms.length) .un, G, s.pad, ?_⟩
  unfold runF at rp
  rw [e0] at rp
  dsimp only at rp
  cases z : evSs cf Tb.Y f.body (rho ++ List.replicate (f.N.length - f.ms.length) .un) with
  | nx r =>
    rw [z] at rp
    intro σ' G' H' t
    dsimp only at rp
    cases eo : outsE f.ms ds r with
    | none => rw [eo] at rp; exact rp.elim
    | some o =>
      rw [eo] at rp
      dsimp only at rp
      cases hn : f.nw with
      | true => rw [hn] at rp; exact rp.elim
      | false =>
        rw [hn] at rp
        obtain ⟨rho1, a1, a2, _, _⟩ := Step.leave s e0 t eo
        exact rp rho1 .non G' H' a1 a2 (by rw [if_neg (by decide)]; exact .non)
  | rt d r =>
    rw [z] at rp
    intro v σ' G' H' t hr
    dsimp only at rp
    cases eo : outsE f.ms ds r with
    | none => rw [eo] at rp; exact rp.elim
    | some o =>
      rw [eo] at rp
      obtain ⟨rho1, a1, a2, a3, a4⟩ := Step.leave s e0 t eo
      refine rp rho1 v G' H' a1 a2 ?_
      cases hn : f.nw with
      | false => rw [hn] at hr; rw [if_neg (by decide)]; exact hr
      | true =>
        rw [hn] at hr
        rw [if_pos rfl]
        obtain ⟨p, ob, rfl, h1, h2, h3, h4, h5⟩ := hr
        refine ⟨⟨p, ob, rfl, h1, h2, h3, ?_⟩, fun i hi => ?_⟩
        · rcases h4 with h4 | ⟨i, d0, g, _⟩
          · exact h4
          · exact absurd g (a4 i d0)
        · obtain ⟨i1, i2⟩ := a3 i hi
          rw [← i2]; exact h5 i i1
  | ex x r =>
    rw [z] at rp
    intro dx σ' G' H' t ea
    dsimp only at rp
    cases eo : outsE f.ms ds r with
    | none => rw [eo] at rp; exact rp.elim
    | some o =>
      rw [eo] at rp
      obtain ⟨rho1, a1, a2, _, _⟩ := Step.leave s e0 t eo
      exact rp rho1 dx G' H' a1 a2 ea
  | bk r => rw [z] at rp; exact rp.elim
  | ct r => rw [z] at rp; exact rp.elim
  | no => rw [z] at rp; exact rp.elim
/-- what does not change from level to level -/
structure FctsS (K : PySem.W.Frag) (mg : Str → Option Value) (Tb : Tab) : Prop where
  fr : Free mg
  df : ∀ x f, findF Tb.P x = some f → DefOk K Tb f
  nm : ∀ x f, findF Tb.P x = some f → f.cls = none → mg (enc x) = some (.ref (fA K f)) ∧ PySem.W.keepIn K (.ref (fA K f)) = true
  fl : ∀ c f, (c, f) ∈ Tb.flds → Cls K (clsA K c) ∧ NoAttr K (clsA K c) (enc f)
  me : ∀ c m f, (c, m) ∈ Tb.mets → findF Tb.P (c ++ "." ++ m) = some f → Cls K (clsA K c) ∧ Meth K (clsA K c) (enc m) (fA K f)
  mak : ∀ c f, c ∈ Tb.mks → findF Tb.P (c ++ ".__init__") = some f → Mk K (clsA K c) (fA K f) ∧ mg (enc c) = some (.ref (clsA K c))
  eq : ∀ c f, c ∈ Tb.eqs → findF Tb.P (c ++ ".__eq__") = some f → PySem.W.findIn K (.ref (clsA K c)) "__eq__" = some (some (.ref (fA K f))) ∧ PySem.W.isFn K (.ref (fA K f)) = true
  cs : ∀ c i, (c, i) ∈ Tb.csts → ∃ t, mg (enc c) = some (.int i t)
  is : ∀ c, c ∈ Tb.isis → mg (enc c) = some (.ref (clsA K c)) ∧ ClsI K (clsA K c)
  er : ErrOk K mg Tb.Y
theorem defs_ok (Fs : FctsS K mg Tb) (Mx : ∀ n, MkAll P w K mg base (n + 1) Tb.Y) : ∀ n x f, findF Tb.P x = some f → FOk P w K mg base (2 * (n + 1)) f (callF Tb.P Tb.Y n f.name)
  | 0, x, f, h => by
    obtain ⟨⟨y, qual, params, body, scope, fd, F, S, B, hc⟩, le⟩ := Fs.df x f h
    exact ⟨fd, ⟨fun vs H Q E ⟨hv, _⟩ => by rw [hv, ps_len le], fun A outer s H args us vs Q E _ _ _ _ ⟨_, ds, rho, G, _, _, rp⟩ => rp.elim⟩, B⟩
  | n + 1, x, f, h => by
    have ih := defs_ok Fs Mx n
    have Fc : Fcts P w K mg base Tb (n + 1) (callF Tb.P Tb.Y n) := ⟨Fs.fr, fun y g e => ih y g e, Fs.nm, Fs.fl, Fs.me, Fs.mak, Fs.eq, Fs.cs, Fs.is, Fs.er⟩
    obtain ⟨⟨y, qual, params, body, scope, fd, F, S, B, hc⟩, le⟩ := Fs.df x f h
    refine ⟨fd, ?_, B⟩
    have key : FnOk P w K mg base (L2.CX P w) ((2 * (n + 1) + 1) + 1) (fA K f) fd f.ps (spF K f (callF Tb.P Tb.Y (n + 1) f.name)) := by
      refine F.ok S (fun vs H Q E ⟨hv, _⟩ => by rw [hv, ps_len le]) fun cdv A outer s H vs Q E hr ⟨hv, ds, rho, G, e0, sr, rp⟩ => ?_
      have hn : findF Tb.P f.name = some f := by rw [findF_name h]; exact h
      have er : callF Tb.P Tb.Y (n + 1) f.name ds = runF (callF Tb.P Tb.Y n) Tb.Y f ds := by show (match findF Tb.P f.name with | some f => _ | none => _) = _; rw [hn]
      rw [er] at rp
      exact ⟨_, sSs Fc (Mx n) f.body (ctxS_of hr S.nd S.kind) hc, body_ok (W := fun cls d _ H => E cls d H) le hv e0 sr rp⟩
    exact key
end
end CW

set_option Elab.async false
set_option linter.all false
set_option maxRecDepth 100000
/-! From the head's run to the facts. -/
namespace CW
open PySem PySem.Spec PyProof.Rows L2

/-! ### how plain parameters bind -/
theorem zip_lookup : ∀ {ns : List Str} {us : List Value} {n : Str}, n ∈ ns → us.length = ns.length → ((ns.zip us).lookup n).isNone = false
  | [], _, _, h, _ => by cases h
  | _ :: _, [], _, _, h => by cases h
  | m :: ns, u :: us, n, h, hl => by
    rw [List.zip_cons_cons, List.lookup_cons]
    cases q : n == m with
    | true => rfl
    | false =>
      rcases List.mem_cons.mp h with rfl | h
      · rw [beq_self_eq_true] at q; cases q
      · exact zip_lookup h (Nat.succ.inj hl)
theorem fm_congr {α β : Type} {f g : α → Option β} : ∀ {l : List α}, (∀ x ∈ l, f x = g x) → l.filterMap f = l.filterMap g
  | [], _ => rfl
  | x :: l, h => by
    rw [List.filterMap_cons, List.filterMap_cons, h x List.mem_cons_self, fm_congr (l := l) fun y hy => h y (List.mem_cons_of_mem _ hy)]
theorem zip_back : ∀ {ns : List Str} {us : List Value}, ns.Nodup → us.length = ns.length → ns.filterMap (fun n => ((ns.zip us).lookup n).map fun v => (n, v)) = ns.zip us
  | [], us, _, _ => by cases us <;> rfl
  | _ :: _, [], _, h => by cases h
  | m :: ns, u :: us, nd, hl => by
    have nd' := List.nodup_cons.mp nd
    have e0 : ((m :: ns).zip (u :: us)).lookup m = some u := by rw [List.zip_cons_cons, List.lookup_cons, beq_self_eq_true]
    rw [List.filterMap_cons, e0]
    dsimp only [Option.map]
    rw [List.zip_cons_cons]
    refine congrArg _ ((fm_congr fun n hn => ?_).trans (zip_back nd'.2 (Nat.succ.inj hl)))
    rw [List.lookup_cons]
    have : (n == m) = false := by
      cases q : n == m with
      | false => rfl
      | true => exact absurd (eq_of_beq q ▸ hn) nd'.1
    rw [this]
    cases List.lookup n (ns.zip us) <;> rfl
theorem bind_gen {fd : FuncData} {args : List Arg} (us : List Value) (hp : fd.params = ⟨[], args, none, [], [], none, []⟩) (hd : fd.defaults = .none) (h : us.length = (args.map (·.arg)).length) (nd : (args.map (·.arg)).Nodup) :
    bindArgs fd ⟨us, []⟩ = pure ((args.map (·.arg)).zip us) := by
  cases fd
  dsimp only at hp hd
  subst hp hd
  unfold bindArgs
  have e2 : ((args.map (·.arg)).filter fun n => (((args.map (·.arg)).zip us).lookup n).isNone) = [] := by
    rw [List.filter_eq_nil_iff]
    intro n hn
    rw [zip_lookup hn h]; decide
  have e4 : seqItems? Value.none = pure none := rfl
  have e5 := zip_back nd h
  rw [List.filterMap_map] at e5
  simp [e4, h]
  rw [if_neg]
  · exact congrArg pure e5
  · simp only [List.map_nil, List.nil_append, List.drop_nil, List.length_nil, Nat.sub_zero, List.take_length]
    rw [e2]; decide
theorem bind_simple {x qual : Str} {args : List Arg} {body : List Stmt} {sc : Scope} (kV doc pm : Value) (an : Option Addr) (cdv ct : Value) (us : List Value) (h : us.length = (args.map (·.arg)).length) (nd : (args.map (·.arg)).Nodup) :
    bindArgs (PySem.W.fnOf x qual ⟨[], args, none, [], [], none, []⟩ body sc .none kV doc pm an cdv ct) ⟨us, []⟩ = pure ((args.map (·.arg)).zip us) := bind_gen us rfl rfl h nd

/-! ### a program -/
structure DefE where
  f : Fd
  d : He.DefD
def Fd.at (f : Fd) : Str × Option Str := match f.cls with
  | none => (enc f.fn, none)
  | some c => (enc c, some (enc f.fn))
theorem fA_at {K : PySem.W.Frag} {f : Fd} : fA K f = He.fAd K f.at := by
  unfold fA Fd.at
  cases f.cls <;> rfl
def plainArgs (p : Arguments) : Bool := match p with
  | ⟨[], _, none, [], [], none, []⟩ => true
  | _ => false
def nodupB (l : List Str) : Bool := match l with
  | [] => true
  | x :: r => !(r.contains x) && nodupB r
theorem nodupB_ok : ∀ {l : List Str}, nodupB l = true → l.Nodup
  | [], _ => .nil
  | x :: r, h => by
    obtain ⟨h1, h2⟩ := and2 (show (!(r.contains x) && nodupB r) = true from h)
    exact List.nodup_cons.mpr ⟨by simpa using h1, nodupB_ok h2⟩
def scB (N P : List Str) (sc : Scope) : Bool :=
  ((match sc.kind with | .function => true | _ => false) && (!sc.isCoroutine && !sc.isGenerator)) && ((nodupB N && decide (N.take P.length = P)) &&
    (P.all (fun x => decide (sc.names.lookup x = some .local) || decide (sc.names.lookup x = some .cell)) && sc.names.all fun y => !(match y.2 with | .free => true | _ => false)))
theorem scB_ok {N P : List Str} {sc : Scope} (h : scB N P sc = true) : FnScope N P sc := by
  obtain ⟨h1, h⟩ := and2 h
  obtain ⟨h11, h1⟩ := and2 h1
  obtain ⟨h12, h13⟩ := and2 h1
  obtain ⟨h2, h⟩ := and2 h
  obtain ⟨h21, h22⟩ := and2 h2
  obtain ⟨h3, h4⟩ := and2 h
  refine ⟨?_, by simpa using h12, by simpa using h13, nodupB_ok h21, of_decide_eq_true h22, fun x hx => ?_, fun y hy e => ?_⟩
  · cases q : sc.kind <;> first | (rw [q] at h11; cases h11; done) | rfl
  · have := List.all_eq_true.mp h3 x hx
    simpa using this
  · have := List.all_eq_true.mp h4 y hy
    rw [e] at this; cases this
/-- the text of the defs is what the terms say -/
def statB (Tb : Tab) (e : DefE) : Bool :=
  ((decide (e.d.at_ = e.f.at) && (e.d.dfl.isEmpty && e.d.kwd.isEmpty)) && (plainArgs e.d.params && (decide (e.d.params.args.map (·.arg) = e.f.ps) && decide (e.f.ms.length ≤ e.f.N.length)))) &&
    (scB (e.f.N.map enc) e.f.ps e.d.scope && chkSs Tb e.f.N e.d.scope e.f.nw e.f.body e.d.body)
theorem defOk_of {K : PySem.W.Frag} {Tb : Tab} {e : DefE} {fa : List He.Fa} {fn : List He.DefD} (c : He.SaysD fa fn K) (he : e.d ∈ fn) (h : statB Tb e = true) : DefOk K Tb e.f := by
  obtain ⟨h1, h2⟩ := and2 h
  obtain ⟨h11, h12⟩ := and2 h1
  obtain ⟨a1, a2⟩ := and2 h11
  obtain ⟨a3, a4⟩ := and2 a2
  obtain ⟨b1, b2⟩ := and2 h12
  obtain ⟨b3, b4⟩ := and2 b2
  obtain ⟨c1, c2⟩ := and2 h2
  obtain ⟨fd, F⟩ := c.defs he
  have S := scB_ok c1
  have ed : e.d.dvs K = [] := by unfold He.DefD.dvs; rw [List.isEmpty_iff.mp a3]; rfl
  have ek : e.d.kws K = [] := by unfold He.DefD.kws; rw [List.isEmpty_iff.mp a4]; rfl
  rw [ed, ek, of_decide_eq_true a1, ← fA_at] at F
  refine ⟨⟨_, _, _, _, _, fd, F, S, F.bindsN fun kV doc pm an cdv ct us hl => ?_, c2⟩, of_decide_eq_true b4⟩
  have ep : e.d.params.args.map (·.arg) = e.f.ps := of_decide_eq_true b3
  have nd : (e.d.params.args.map (·.arg)).Nodup := by
    rw [ep]
    unfold Fd.ps
    exact S.nd.sublist (List.take_sublist _ _)
  rw [← ep] at hl ⊢
  cases q : e.d.params with
  | mk p1 p2 p3 p4 p5 p6 p7 =>
    rw [q] at b1 hl nd
    unfold plainArgs at b1
    split at b1
    · next z =>
      cases z
      exact bind_simple kV doc pm an cdv ct us hl nd
    · cases b1
end CW

set_option Elab.async false
set_option linter.all false
set_option maxRecDepth 100000
namespace CW
open PySem PySem.Spec PyProof.Rows L2

def mtOk (P : List Fd) (c m : String) : Bool := match findF P (c ++ "." ++ m) with
  | some f => decide (f.cls = some c) && decide (f.fn = m)
  | none => true
theorem mtOk_at {P : List Fd} {c m : String} {f : Fd} {K : PySem.W.Frag} (h : mtOk P c m = true) (e : findF P (c ++ "." ++ m) = some f) : fA K f = He.ma K (clsA K c) (enc m) := by
  unfold mtOk at h
  rw [e] at h
  obtain ⟨h1, h2⟩ := and2 h
  have h1' : f.cls = some c := of_decide_eq_true h1
  have h2' : f.fn = m := of_decide_eq_true h2
  unfold fA
  rw [h1', h2']
/-- names that belong together -/
def statT (Tb : Tab) : Bool :=
  (Tb.P.all (fun f => f.cls.isSome || decide (f.fn = f.name))) && ((Tb.mets.all fun p => mtOk Tb.P p.1 p.2) && ((Tb.mks.all fun c => mtOk Tb.P c "__init__") && (Tb.eqs.all fun c => mtOk Tb.P c "__eq__")))
def Tab.fa0 (Tb : Tab) : List He.Fa :=
  BL.map (fun s => .free (enc s)) ++ ((Tb.P.filter fun f => f.cls.isNone).flatMap (fun f => [.glo (enc f.fn), .keep (enc f.fn)]) ++ (Tb.flds.flatMap (fun p => [.cls (enc p.1), .noat (enc p.1) (enc p.2)]) ++ (Tb.mets.flatMap (fun p => [.cls (enc p.1), .meth (enc p.1) (enc p.2)]) ++
    (Tb.mks.flatMap (fun c => [.mkr (enc c), .glo (enc c)]) ++ (Tb.eqs.map (fun c => .meth (enc c) (enc "__eq__")) ++ (Tb.isis.flatMap (fun c => [.glo (enc c), .cls (enc c)]) ++ (Tb.Y.cls.map (fun c => .glo (enc c)) ++ Tb.Y.cls.flatMap (fun a => Tb.Y.cls.map fun b => .exm (enc a) (enc b) (Tb.Y.sub a b)))))))))
def Tab.fa (Tb : Tab) : List He.Fa := Tb.fa0 ++ Tb.csts.map fun p => .int (enc p.1) p.2
def isiX (K : PySem.W.Frag) (c : String) : Bool :=
  He.eqO (PySem.W.findIn K (.ref (clsA K c)) "__class__") (some (some (.builtin "object.__class__"))) && (He.eqO (PySem.W.specialIn K (.builtin "object.__class__") "__get__") (some (some (.builtin "getset_descriptor.__get__"))) &&
    (decide (PySem.W.takesIn K (.builtin "object.__class__") = some true) && (decide (PySem.W.mroIn K (clsA K c) (.type "object") = some true) && decide (PySem.W.kitOne K (.ref (clsA K c)) (.ref (clsA K c)) = some true))))
section
variable {K : PySem.W.Frag} {h : Heap} {mg : Str → Option Value}
theorem cls_ok {c : String} (q : (He.Fa.cls (enc c)).ok K = true) : Cls K (clsA K c) := by
  obtain ⟨h1, q⟩ := and2 q
  obtain ⟨h2, q⟩ := and2 q
  obtain ⟨h3, h4⟩ := and2 q
  exact ⟨h1, h2, h3, He.eqO_ok h4⟩
theorem noat_ok {c f : String} (q : (He.Fa.noat (enc c) (enc f)).ok K = true) : NoAttr K (clsA K c) (enc f) := He.eqO_ok q
theorem meth_ok {c : String} {m : Str} (q : (He.Fa.meth (enc c) m).ok K = true) : Meth K (clsA K c) m (He.ma K (clsA K c) m) := by
  obtain ⟨h1, q⟩ := and2 q
  obtain ⟨h2, h3⟩ := and2 q
  exact ⟨He.eqO_ok h1, h2, h3⟩
theorem mkr_ok {c : String} (q : (He.Fa.mkr (enc c)).ok K = true) : Mk K (clsA K c) (He.ma K (clsA K c) "__init__") := by
  obtain ⟨h1, q⟩ := and2 q
  obtain ⟨h2, q⟩ := and2 q
  obtain ⟨h3, h4⟩ := and2 q
  exact ⟨h1, He.eqO_ok h2, h3, h4⟩
theorem enc_init : enc "__init__" = ("__init__" : Str) := by decide +kernel
theorem enc_eqq : enc "__eq__" = ("__eq__" : Str) := by decide +kernel
/-- all facts -/
theorem fcts_of {Tb : Tab} {fa : List He.Fa} {fn : List He.DefD} (X : K.In h) (G : h.Ns mainGlobals mg) (c : He.SaysD fa fn K) (hfa : ∀ f ∈ Tb.fa, f ∈ fa) (hT : statT Tb = true) (hx : Tb.isis.all (isiX K) = true)
    (df : ∀ x f, findF Tb.P x = some f → DefOk K Tb f) : FctsS K mg Tb := by
  have F : ∀ f ∈ Tb.fa0, f.ok K = true := fun f hf => c.facts (hfa f (List.mem_append_left _ hf))
  have m1 : ∀ s ∈ BL, (He.Fa.free (enc s)) ∈ Tb.fa0 := fun s hs => List.mem_append_left _ (List.mem_map.mpr ⟨s, hs, rfl⟩)
  have m2 : ∀ f ∈ Tb.P, f.cls = none → (He.Fa.glo (enc f.fn)) ∈ Tb.fa0 ∧ (He.Fa.keep (enc f.fn)) ∈ Tb.fa0 := fun f hf hc => by
    have : f ∈ Tb.P.filter fun f => f.cls.isNone := List.mem_filter.mpr ⟨hf, by rw [hc]; rfl⟩
    exact ⟨List.mem_append_right _ (List.mem_append_left _ (List.mem_flatMap.mpr ⟨f, this, by simp⟩)), List.mem_append_right _ (List.mem_append_left _ (List.mem_flatMap.mpr ⟨f, this, by simp⟩))⟩
  have m3 : ∀ p ∈ Tb.flds, (He.Fa.cls (enc p.1)) ∈ Tb.fa0 ∧ (He.Fa.noat (enc p.1) (enc p.2)) ∈ Tb.fa0 := fun p hp =>
    ⟨List.mem_append_right _ (List.mem_append_right _ (List.mem_append_left _ (List.mem_flatMap.mpr ⟨p, hp, by simp⟩))), List.mem_append_right _ (List.mem_append_right _ (List.mem_append_left _ (List.mem_flatMap.mpr ⟨p, hp, by simp⟩)))⟩
  have m4 : ∀ p ∈ Tb.mets, (He.Fa.cls (enc p.1)) ∈ Tb.fa0 ∧ (He.Fa.meth (enc p.1) (enc p.2)) ∈ Tb.fa0 := fun p hp =>
    ⟨List.mem_append_right _ (List.mem_append_right _ (List.mem_append_right _ (List.mem_append_left _ (List.mem_flatMap.mpr ⟨p, hp, by simp⟩)))), List.mem_append_right _ (List.mem_append_right _ (List.mem_append_right _ (List.mem_append_left _ (List.mem_flatMap.mpr ⟨p, hp, by simp⟩))))⟩
  have m5 : ∀ p ∈ Tb.mks, (He.Fa.mkr (enc p)) ∈ Tb.fa0 ∧ (He.Fa.glo (enc p)) ∈ Tb.fa0 := fun p hp =>
    ⟨List.mem_append_right _ (List.mem_append_right _ (List.mem_append_right _ (List.mem_append_right _ (List.mem_append_left _ (List.mem_flatMap.mpr ⟨p, hp, by simp⟩))))), List.mem_append_right _ (List.mem_append_right _ (List.mem_append_right _ (List.mem_append_right _ (List.mem_append_left _ (List.mem_flatMap.mpr ⟨p, hp, by simp⟩)))))⟩
  have m6 : ∀ p ∈ Tb.eqs, (He.Fa.meth (enc p) (enc "__eq__")) ∈ Tb.fa0 := fun p hp =>
    List.mem_append_right _ (List.mem_append_right _ (List.mem_append_right _ (List.mem_append_right _ (List.mem_append_right _ (List.mem_append_left _ (List.mem_map.mpr ⟨p, hp, rfl⟩))))))
  have m7 : ∀ p ∈ Tb.isis, (He.Fa.glo (enc p)) ∈ Tb.fa0 ∧ (He.Fa.cls (enc p)) ∈ Tb.fa0 := fun p hp =>
    ⟨List.mem_append_right _ (List.mem_append_right _ (List.mem_append_right _ (List.mem_append_right _ (List.mem_append_right _ (List.mem_append_right _ (List.mem_append_left _ (List.mem_flatMap.mpr ⟨p, hp, by simp⟩))))))), List.mem_append_right _ (List.mem_append_right _ (List.mem_append_right _ (List.mem_append_right _ (List.mem_append_right _ (List.mem_append_right _ (List.mem_append_left _ (List.mem_flatMap.mpr ⟨p, hp, by simp⟩)))))))⟩
  have m8 : ∀ p ∈ Tb.Y.cls, (He.Fa.glo (enc p)) ∈ Tb.fa0 := fun p hp =>
    List.mem_append_right _ (List.mem_append_right _ (List.mem_append_right _ (List.mem_append_right _ (List.mem_append_right _ (List.mem_append_right _ (List.mem_append_right _ (List.mem_append_left _ (List.mem_map.mpr ⟨p, hp, rfl⟩))))))))
  have m9 : ∀ a ∈ Tb.Y.cls, ∀ b ∈ Tb.Y.cls, (He.Fa.exm (enc a) (enc b) (Tb.Y.sub a b)) ∈ Tb.fa0 := fun a ha b hb =>
    List.mem_append_right _ (List.mem_append_right _ (List.mem_append_right _ (List.mem_append_right _ (List.mem_append_right _ (List.mem_append_right _ (List.mem_append_right _ (List.mem_append_right _ (List.mem_flatMap.mpr ⟨a, ha, List.mem_map.mpr ⟨b, hb, rfl⟩⟩))))))))
  obtain ⟨t1, t⟩ := and2 hT
  obtain ⟨t2, t⟩ := and2 t
  obtain ⟨t3, t4⟩ := and2 t
  refine ⟨fun s hs => He.free_ok X G (F _ (m1 s hs)), df, fun x f e hc => ?_, fun a f hp => ?_, fun a m f hp e => ?_, fun a f hp e => ?_, fun a f hp e => ?_, fun a i hp => He.int_ok X G (c.facts (hfa _ (List.mem_append_right _ (List.mem_map.mpr ⟨(a, i), hp, rfl⟩)))), fun a hp => ?_, ⟨fun a hp => He.glo_ok X G (F _ (m8 a hp)), fun a ha b hb => of_decide_eq_true (F _ (m9 a ha b hb))⟩⟩
  · obtain ⟨g1, g2⟩ := m2 f (findF_mem e) hc
    have q := List.all_eq_true.mp t1 f (findF_mem e)
    have q' : f.fn = f.name := by simpa [hc] using q
    have e2 : fA K f = He.ga K (enc x) := by unfold fA; rw [hc, q', findF_name e]
    rw [q', findF_name e] at g1 g2
    rw [e2]
    exact ⟨He.glo_ok X G (F _ g1), F _ g2⟩
  · obtain ⟨g1, g2⟩ := m3 (a, f) hp
    exact ⟨cls_ok (F _ g1), noat_ok (F _ g2)⟩
  · obtain ⟨g1, g2⟩ := m4 (a, m) hp
    rw [mtOk_at (List.all_eq_true.mp t2 (a, m) hp) e]
    exact ⟨cls_ok (F _ g1), meth_ok (F _ g2)⟩
  · obtain ⟨g1, g2⟩ := m5 a hp
    have e' : findF Tb.P (a ++ "." ++ "__init__") = some f := by rw [String.append_assoc]; exact e
    rw [mtOk_at (List.all_eq_true.mp t3 a hp) e', enc_init]
    exact ⟨mkr_ok (F _ g1), He.glo_ok X G (F _ g2)⟩
  · have e' : findF Tb.P (a ++ "." ++ "__eq__") = some f := by rw [String.append_assoc]; exact e
    rw [mtOk_at (List.all_eq_true.mp t4 a hp) e', enc_eqq]
    have := meth_ok (F _ (m6 a hp))
    rw [enc_eqq] at this
    exact ⟨this.at_, this.fn⟩
  · obtain ⟨g1, g2⟩ := m7 a hp
    have q := List.all_eq_true.mp hx a hp
    obtain ⟨x1, q⟩ := and2 q
    obtain ⟨x2, q⟩ := and2 q
    obtain ⟨x3, q⟩ := and2 q
    obtain ⟨x4, x5⟩ := and2 q
    exact ⟨He.glo_ok X G (F _ g1), ⟨cls_ok (F _ g2), He.eqO_ok x1, He.eqO_ok x2, of_decide_eq_true x3, of_decide_eq_true x4, of_decide_eq_true x5⟩⟩
end
end CW

set_option Elab.async false
set_option linter.all false
set_option maxRecDepth 100000
/-! Own errors: `super().__init__(what); self.what = what` over ValueError. -/
namespace CW
open PySem PySem.Spec PyProof.Rows L2

section
variable {X : Cx} {pins : List (Addr × Obj)} {σ : L2.St} {H : Hp} {s : Shared} {a C u : Addr} {A : Around} {E : Value → Shared → Prop}
/-- the built-in __init__, bound, called -/
theorem mw_ok {us : List Value} {Q : Value → Shared → Prop} (T : OexC X.K C) (I : Inv X pins σ H s) (e : H a = some (exo a C none)) (hu : s.heap.get? u = some (PySem.W.kxs_mw "ValueError.__init__" a)) (hl : us.length ≤ sizeLine) (h : ∀ s', Inv X pins σ H s' → Q .none s') :
    wpAny (model X.prog X.w) A (call (.ref u) us) Q E s := by
  obtain ⟨nm, q, N, bs, bm, sn, sub, ab, col, dd, k0, k1, k2, k3, k5, hC, hbm⟩ := T.cls
  obtain ⟨t1, ho⟩ := exo_at I.hok e
  have hC' := I.kIn _ _ hC
  obtain ⟨hp, g, d, t, os⟩ := s
  refine wpAny_call (codeAny_of_tree ?_)
  show wpAny _ A.in1 (callAny (.ref u) ⟨us, []⟩) _ _ _
  simp only [callAny]
  refine wpAny_bind (wpAny_load hu ?_)
  simp only [PySem.W.kxs_mw, show (Value.type "method-wrapper" == Value.type "method" || Value.type "method-wrapper" == Value.type "builtin_function_or_method" || Value.type "method-wrapper" == Value.type "method-wrapper") = true by decide, if_true]
  refine PySem.W.KFB.if_so (by decide) ?_
  refine wpAny_bind (PySem.W.check_bound_init PySem.F.excBase_ValueError.toExcCallFacts hC' ho rfl ?_)
  refine wpAny_bind (wpAny_pure (wpAny_pure ?_))
  refine ⟨plainId_quiet PySem.F.excBase_ValueError.init.plain _, codeAny_builtin PySem.F.excBase_ValueError.initEntry ?_⟩
  rw [Around.under_plainId PySem.F.excBase_ValueError.init.plain _]
  refine PySem.W.exc_init_tree (cls := .ref C) (t0 := t1) (dv := none) (c2 := .none) (c3 := .none) (b4 := .bool false) ho hl fun h' k hx _ => ?_
  have J := I.write (t' := t) (x := a) (e := a) (o := exo a C none) (by rw [e]; exact True.intro) (.inl rfl) k ⟨_, hx⟩ (exo_ok hx)
  have eu : upd H a (exo a C none) = H := by
    funext b
    by_cases hb : b = a
    · rw [hb, upd_same, e]
    · rw [upd_ne hb]
  rw [eu] at J
  exact h _ J
end

/-! ### the text of such an __init__ -/
/-- the field, the object's name, the parameter's -/
def vInit (body : List Stmt) (fl sn wn : Str) : Bool := match body with
  | [.Expr (.Call (.Attribute (.Call (.Name sup _) [] [] _) ini ap) [.Name w1 _] [] cp) _, .Assign [.Attribute (.Name s1 _) f1 _] (.Name w2 _) _] =>
    ((decide (sup = "super") && decide (ini = "__init__")) && (ap.endLine == cp.line)) && ((decide (w1 = wn) && decide (w2 = wn)) && (decide (s1 = sn) && decide (f1 = fl)))
  | _ => false
theorem vInit_ok {body : List Stmt} {fl sn wn : Str} (h : vInit body fl sn wn = true) : ∃ p1 p2 p3 p4 p5 p6 p7 p8 p9 ap, body = [.Expr (.Call (.Attribute (.Call (.Name "super" p1) [] [] p2) "__init__" ap) [.Name wn p3] [] p4) p5, .Assign [.Attribute (.Name sn p6) fl p7] (.Name wn p8) p9] ∧ (ap.endLine == p4.line) = true := by
  unfold vInit at h
  split at h
  · simp only [Bool.and_eq_true, decide_eq_true_eq] at h
    obtain ⟨⟨⟨rfl, rfl⟩, hl⟩, ⟨rfl, rfl⟩, rfl, rfl⟩ := h
    exact ⟨_, _, _, _, _, _, _, _, _, _, rfl, hl⟩
  · cases h
theorem super_eval {m : Str} {apos pos p1 p2 : Pos} {env : PySem.Env} {args : List Expr} (ha : args.all noStar = true) (hl : args.length < 30) (hp : (apos.endLine == pos.line) = true) :
    eval (.Call (.Attribute (.Call (.Name "super" p1) [] [] p2) m apos) args [] pos) env = (do
      let ov ← attributeBase (.Call (.Name "super" p1) [] [] p2) m env (eval (.Call (.Name "super" p1) [] [] p2) env)
      standAt apos.atName
      let (f, first) ← holding [ov] (getMethod ov m (plainOf (.Call (.Name "super" p1) [] [] p2) env))
      callWith pos f first (backTo pos (starEach args env)) (backToKw pos (keywordEach [] env))) := by
  have hf : methodCallForm (args.length + ([] : List Keyword).length) (backTo pos (starEach args env)) (backToKw pos (keywordEach [] env)) = true := by
    unfold methodCallForm
    have h1 : (backTo pos (starEach args env)).all (fun x => !x.1) = true := by
      have := backTo_plain (pos := pos) (env := env) ha
      rw [List.all_eq_true]
      intro y hy
      rw [List.any_eq_false] at this
      simpa using this y hy
    have h2 : (backToKw pos (keywordEach [] env)) = [] := rfl
    rw [h1, h2]
    simp only [List.all_nil, List.isEmpty_nil, Bool.and_true, Bool.true_and, if_true, List.length_nil, Nat.add_zero, decide_eq_true_eq]
    exact hl
  show (do
    let ov ← attributeBase (.Call (.Name "super" p1) [] [] p2) m env (eval (.Call (.Name "super" p1) [] [] p2) env)
    standAt apos.atName
    methodCall (.Call (.Name "super" p1) [] [] p2) m apos pos env ov (args.length + ([] : List Keyword).length) (backTo pos (starEach args env)) (backToKw pos (keywordEach [] env))) = _
  congr 1
  funext ov
  congr 1
  funext _
  exact mcall_line hf hp

/-- what an own error's class must be: D the class whose __init__ it is, C one of its heirs -/
structure SubI (K : PySem.W.Frag) (D C : Addr) : Prop where
  T : OexC K C
  hm : PySem.W.ks_superIn K C D "__init__" = some (some (.builtin "ValueError.__init__"))
  hB : PySem.W.subIn K (.ref C) (.type "ValueError") = some true
  hs : PySem.W.mroIn K C (.ref D) = some true
def spI (K : PySem.W.Frag) (D : Addr) (fl : Str) : Sp := fun vs H Q E => ∃ a v C, vs = [.ref a, v] ∧ SubI K D C ∧ PySem.W.findIn K (.ref C) fl = some none ∧ H a = some (exo a C none) ∧ ∀ d, H d = none → d ≠ a → Q .non (upd (upd H d (exd d [(fl, v)])) a (exo a C (some d)))
/-- what must be known of the __init__ -/
structure InitOk (P : Program) (K : PySem.W.Frag) (D fI : Addr) (fd : FuncData) (fl sn wn : Str) : Prop where
  ex : ∃ (qual : Str) (params : Arguments) (body : List Stmt) (sc : Scope) (kV doc pm ct oc ccl cl : Value) (an od cdd cld : Option Addr) (osl ccs csl : Array (Option Value)) (cc cda : Addr) (cvs : Array Value) (file : Str) (tf : Tok) (cdD : ClassData),
    fd = PySem.W.fnX "__init__" qual params body sc [("__class__", cc)] .none kV doc pm an (.ref cda) ct ∧ K.lookup fI = some ⟨oc, od, .func fd, osl⟩ ∧ PySem.W.codeIn K (.ref cda) qual = true ∧
    K.lookup cda = some ⟨ccl, cdd, .fields cvs, ccs⟩ ∧ cvs[2]? = some (.str file tf) ∧ ((P.main.file : Str) == file) = true ∧ K.lookup cc = some ⟨cl, cld, .cell (some (.ref D)), csl⟩ ∧ PySem.W.clsIn K D = some cdD ∧
    (∃ ar, (params.posonlyargs ++ params.args).head? = some ar ∧ ar.arg = sn) ∧ vInit body fl sn wn = true ∧
    NdefX.NScope [sn, wn, "__class__"] [sn, wn] ["__class__"] sc ∧ sc.names.lookup ("super" : Str) = some .globalImplicit
  any : PySem.W.nsIn K cStatics "thirdparty.any" = some none
  top : (P.main.scope.names.lookup ("super" : Str)).isSome = false
  pn : plainN sn = true ∧ plainN wn = true
section
variable {P : Program} {w : World} {K : PySem.W.Frag} {mg : Str → Option Value} {base : Heap} {CX : CXT} {k : Nat} {D fI : Addr} {fd : FuncData} {fl sn wn : Str}
theorem init_fn (T0 : InitOk P K D fI fd fl sn wn) (hmg : mg "super" = none) : FnOk P w K mg base CX (k + 1) fI fd [sn, wn] (spI K D fl) := by
  obtain ⟨⟨qual, params, body, sc, kV, doc, pm, ct, oc, ccl, cl, an, od, cdd, cld, osl, ccs, csl, cc, cda, cvs, file, tf, cdD, efd, lk, hcd, lcd, hvs, hfile, lcc, hD, ⟨ar, har, ear⟩, hbd, NS, hks⟩, any, top, pn1, pn2⟩ := T0
  subst efd
  subst ear
  refine ⟨fun vs H Q E ⟨a, v, C, e, _⟩ => by rw [e]; rfl, fun A outer s H args us vs Q E hr e0 hb r hsp => ?_⟩
  obtain ⟨a, v, C, rfl, Sb, hno, ea, hq⟩ := hsp
  have KX : K.In s.heap := e0.mod.kin.keeps fun b o e => (e0.bs b o e).1
  have lim : s.heap.NoLimit := e0.mod.nolimit.keeps fun b o e => (e0.bs b o e).1
  cases r with
  | @cons _ u0 _ ur ra rr =>
    cases rr with
    | @cons _ u1 _ ur2 rv rr2 =>
      cases rr2
      obtain rfl : u0 = Value.ref a := ra
      obtain ⟨p1, p2, p3, p4, p5, p6, p7, p8, p9, ap, rfl, hline⟩ := vInit_ok hbd
      have hloc : ∀ y ∈ [(ar.arg, Value.ref a), (wn, u1)], sc.names.lookup y.1 = some .local := fun y hy => by
        rcases List.mem_cons.mp hy with rfl | hy
        · exact NS.par _ (by simp)
        · rw [List.mem_singleton.mp hy]; exact NS.par _ (by simp)
      obtain ⟨F, eF⟩ : ∃ F : NdefX.NF, F = ⟨"__init__", qual, params, [.Expr (.Call (.Attribute (.Call (.Name "super" p1) [] [] p2) "__init__" ap) [.Name wn p3] [] p4) p5, .Assign [.Attribute (.Name ar.arg p6) fl p7] (.Name wn p8) p9], sc, [("__class__", cc)], cda⟩ := ⟨_, rfl⟩
      have hne : wn ≠ ar.arg := fun e => by
        have := NS.nd
        rw [e] at this
        exact absurd (List.nodup_cons.mp this).1 (by simp)
      have CA : NdefX.CellsAt [("__class__", cc)] ["__class__"] [some (V.ref D)] s.heap H := by
        have lc : ∀ y c, ([("__class__", cc)] : List (Str × Addr)).lookup y = some c → y = "__class__" ∧ c = cc := fun y c e => by
          rw [List.lookup_cons] at e
          cases q : y == ("__class__" : Str) with
          | true => rw [q] at e; exact ⟨eq_of_beq q, (Option.some.inj e).symm⟩
          | false => rw [q] at e; cases e
        refine ⟨rfl, fun y c e => ?_, fun x y c e1 e2 => ?_, fun i y e => ?_⟩
        · obtain ⟨rfl, rfl⟩ := lc y c e
          obtain ⟨q1, q2⟩ := e0.bs _ _ (e0.mod.kin _ _ lcc)
          exact ⟨q2, _, _, q1, rfl⟩
        · rw [(lc x c e1).1, (lc y c e2).1]
        · match i, e with
          | 0, e =>
            obtain rfl : "__class__" = y := Option.some.inj e
            exact ⟨cc, rfl, fun v e2 => by
              obtain rfl : V.ref D = v := by injection e2 with e2; injection e2
              exact ⟨_, rfl, _, KX _ _ lcc, rfl⟩⟩
      have fS : F.scope = sc := by rw [eF]
      have fC : F.cl = [(("__class__" : Str), cc)] := by rw [eF]
      rw [← fS] at NS
      rw [← fC] at CA
      refine PySem.ks_codeAny_call_defAt (binds := [(ar.arg, .ref a), (wn, u1)]) hr.depth (KX _ _ lk) rfl lim (PySem.W.codeRec_of KX hcd) rfl hb (by rw [← fS]; exact NS.nocell) hloc (fun h₁ hns kp => ?_) (by rw [← fS]; exact NS.co) (by rw [← fS]; exact NS.gen) (by rw [← fS]; exact NS.kind)
      have I : Inv (NdefX.ncx CX P w K mg base [ar.arg, wn, "__class__"] F fI A outer s H E) [] (NdefX.startF [ar.arg, wn, "__class__"] [.ref a, v] [some (.ref D)]) H { s with heap := h₁, toks := s.toks + 2 } :=
        NdefX.inv_startN (ps := [ar.arg, wn]) (fr := ["__class__"]) (us := [.ref a, u1]) (ws := [some (.ref D)]) NS hr.hd e0 rfl (.cons rfl (.cons rv .nil)) CA hns kp
      have eenv : NdefX.envF F fI s.heap.objs.size = PySem.W.envX qual sc s.heap.objs.size fI (.ref cda) [("__class__", cc)] := by rw [eF]
      have eE : callEnv (PySem.W.fnX "__init__" qual params [.Expr (.Call (.Attribute (.Call (.Name "super" p1) [] [] p2) "__init__" ap) [.Name wn p3] [] p4) p5, .Assign [.Attribute (.Name ar.arg p6) fl p7] (.Name wn p8) p9] sc [("__class__", cc)] .none kV doc pm an (.ref cda) ct) s.heap.objs.size fI = NdefX.envF F fI s.heap.objs.size := by
        rw [eenv]; rfl
      rw [eE]
      have ksc : (NdefX.envF F fI s.heap.objs.size).scope = sc := by rw [eenv]
      have kfr : (NdefX.envF F fI s.heap.objs.size).cells = [(("__class__" : Str), cc)] := by rw [eenv]
      have kcl : sc.names.lookup ("__class__" : Str) = some .free := by rw [← fS]; exact NS.frk _ (by simp)
      have kself : sc.names.lookup ar.arg = some .local := by rw [← fS]; exact NS.par _ (by simp)
      have kwn : sc.names.lookup wn = some .local := by rw [← fS]; exact NS.par _ (by simp)
      have kkd : sc.kind = .function := by rw [← fS]; exact NS.kind
      have X1 : K.In h₁ := KX.keeps kp
      obtain ⟨oD, hD1, hD2⟩ : ∃ oD, h₁.get? D = some oD ∧ oD.data = .cls cdD := by
        unfold PySem.W.clsIn at hD
        split at hD
        · rename_i c d cd' sl ho
          cases hD
          exact ⟨_, X1 _ _ ho, rfl⟩
        · cases hD
      obtain ⟨t1, hx⟩ := exo_at I.hok ea
      obtain ⟨mb, b1, b2⟩ := I.mod.blt
      refine PySem.ks_wpAt_execs_cons (PySem.ks_wpAt_Expr_any (PySem.ks_wpAt_MethodCall (pl := plainOf (.Call (.Name "super" p1) [] [] p2) (NdefX.envF F fI s.heap.objs.size)) ?_ (super_eval (args := [.Name wn p3]) rfl (show 1 < 30 by decide) hline)) I.quiet rfl)
      refine PySem.ks_wpAt_super_base (fd := PySem.W.fnX "__init__" qual params [.Expr (.Call (.Attribute (.Call (.Name "super" p1) [] [] p2) "__init__" ap) [.Name wn p3] [] p4) p5, .Assign [.Attribute (.Name ar.arg p6) fl p7] (.Name wn p8) p9] sc [("__class__", cc)] .none kV doc pm an (.ref cda) ct) (ar := ar) (vs := cvs) (file := file) (tf := tf)
        (show (NdefX.envF F fI s.heap.objs.size).scope.names.lookup _ = _ by rw [ksc]; exact hks) (show (NdefX.envF F fI s.heap.objs.size).scope.names.lookup _ = _ by rw [ksc]; exact kcl) (by decide) rfl (kp _ _ (KX _ _ lk)) rfl har (by rw [eenv]) (kp _ _ (KX _ _ lcd)) rfl hvs hfile top ?_
      refine PySem.W.ks_loadName_global (by rw [ksc]; exact kkd) (show (NdefX.envF F fI s.heap.objs.size).scope.names.lookup _ = _ by rw [ksc]; exact hks) (Calls.loadGlobal_builtin (by exact I.mod.glob.keeps I.bk) hmg (by exact b1.keeps I.bk) ((b2 "super" (by decide)).trans (show bootBuiltins ("super" : Str) = some (.type "super") by decide +kernel)) ⟨rfl, ?_⟩)
      refine wpAny_loadName_free (by rw [ksc]; exact kkd) (show (NdefX.envF F fI s.heap.objs.size).scope.names.lookup _ = _ by rw [ksc]; exact kcl) (by rw [kfr]; rfl) ⟨_, kp _ _ (KX _ _ lcc), rfl⟩ ?_
      have lkS : ([(ar.arg, Value.ref a), (wn, u1)] : List (Str × Value)).reverse.lookup ar.arg = some (.ref a) := by
        show List.lookup ar.arg [(wn, u1), (ar.arg, Value.ref a)] = _
        rw [List.lookup_cons]
        have : (ar.arg == wn) = false := by
          cases q : (ar.arg == wn) with
          | false => rfl
          | true => exact absurd (eq_of_beq q).symm hne
        rw [this, List.lookup_cons, beq_self_eq_true]
      have lkW : ([(ar.arg, Value.ref a), (wn, u1)] : List (Str × Value)).reverse.lookup wn = some u1 := by
        show List.lookup wn [(wn, u1), (ar.arg, Value.ref a)] = _
        rw [List.lookup_cons, beq_self_eq_true]
      refine wpAny_loadName_local (by rw [ksc]; exact kkd) (show (NdefX.envF F fI s.heap.objs.size).scope.names.lookup _ = _ by rw [ksc]; exact kself) hns lkS ?_
      refine PySem.ks_wpAny_isType_cls hD1 hD2 ⟨rfl, ?_⟩
      refine PySem.ks_wpAny_call_super hD1 hD2 hx rfl (fun c e => by cases e) (PySem.W.looks_mroIn X1 Sb.hs) (fun h2 e2 k2 => ?_)
      cases hcC : PySem.W.clsIn K C with
      | none =>
        have := Sb.hm
        unfold PySem.W.ks_superIn at this
        rw [hcC] at this
        cases this
      | some cd =>
        have hm := Sb.hm
        unfold PySem.W.ks_superIn at hm
        rw [hcC] at hm
        have X2 : K.In h2 := X1.keeps k2
        have hx2 := k2 _ _ hx
        have hxC : a ≠ C := fun e => by
          unfold PySem.W.clsIn at hcC
          split at hcC
          · rename_i c d cd' sl ho
            have e5 := X2 _ _ ho
            rw [← e, hx2] at e5
            cases e5
          · cases hcC
        refine PySem.W.kxs_getMethod PySem.W.kxs_ValueError e2 (PySem.W.looks_opaque X2 any) (l₀ := cd.mro) (fun A Q E s k q => wpAny_bind ((PySem.W.looks_clsIn X2 hcC) A _ E s k (wpAny_pure q))) rfl X2 hm
          (show PySem.W.Looks (model P w) h2 (isInstance (.ref a) (.type "ValueError")) true from (show PySem.W.Looks (model P w) h2 (typeOf (.ref a)) (.ref C) from fun A Q E s kk q => wpAny_typeOf_ref (kk _ _ hx2) q).andThen (PySem.W.looks_subIn X2 Sb.hB)) hxC rfl ?_
        have k3 : ∀ b o, h₁.get? b = some o → (h2.push (PySem.W.kxs_mw "ValueError.__init__" a)).get? b = some o := fun b o e => Heap.get?_push_of_some _ (k2 b o e)
        have I3 := I.kept (t' := s.toks + 2 + 1) k3
        have hu : (h2.push (PySem.W.kxs_mw "ValueError.__init__" a)).get? h2.objs.size = some (PySem.W.kxs_mw "ValueError.__init__" a) := Heap.get?_push_size _ rfl
        refine PySem.W.kxs_callWith (i := "ValueError.__init__") (x := a) rfl (Calls.evalArgs_plain ?_)
        refine PyProof.Rows.args_cons (wpAny_Name (wpAny_loadName_local (by rw [ksc]; exact kkd) (show (NdefX.envF F fI s.heap.objs.size).scope.names.lookup _ = _ by rw [ksc]; exact kwn) (hns.keeps k3) lkW (PyProof.Rows.args_nil ?_)) (plainN_ok pn2).1) rfl
        refine ⟨hu, mw_ok Sb.T I3 ea hu (by rw [sizeLine_eq]; exact (show 1 ≤ 16777216 by decide)) fun s' J => ?_⟩
        have vis0 : Vis (NdefX.ncx CX P w K mg base [ar.arg, wn, "__class__"] F fI A outer s H E).env.scope ar.arg := .inl (show (NdefX.envF F fI s.heap.objs.size).scope.names.lookup _ = _ by rw [ksc]; exact kself)
        have vis1 : Vis (NdefX.ncx CX P w K mg base [ar.arg, wn, "__class__"] F fI A outer s H E).env.scope wn := .inl (show (NdefX.envF F fI s.heap.objs.size).scope.names.lookup _ = _ by rw [ksc]; exact kwn)
        have R2 := pss_one (ps_ost (X := NdefX.ncx CX P w K mg base [ar.arg, wn, "__class__"] F fI A outer s H E) (f := fl) (p' := p7) (pos := p9) (pe_var (i := 0) (pos := p6) rfl vis0 (plainN_ok pn1).1 (plainN_ok pn1).2.1) (pe_var (i := 1) (pos := p8) rfl vis1 (plainN_ok pn2).1 (plainN_ok pn2).2.1) rfl)
        refine wpAt_of_wpAny (wpAny_mono (R2.run [] s' _ H { nx := fun _ H' => Q .non H', rt := fun _ _ => False } J ⟨v, rfl, .ref a, rfl, a, C, rfl, Sb.T, hno, .inl ⟨ea, fun dx n1 n2 => hq dx n1 n2⟩⟩) (fun f s'' q => ?_) fun _ _ q => q)
        cases f with
        | next =>
          obtain ⟨σ', H', J', q⟩ := q
          exact ⟨.non, H', J'.os, J'.bare, J'.base, J'.hok, rfl, q⟩
        | ret u =>
          obtain ⟨_, _, _, _, _, q⟩ := q
          exact q.elim
        | brk =>
          obtain ⟨_, _, _, q⟩ := q
          exact q.elim
        | cont =>
          obtain ⟨_, _, _, q⟩ := q
          exact q.elim
end
end CW

set_option Elab.async false
set_option linter.all false
set_option maxRecDepth 100000
namespace CW
open PySem PySem.Spec PyProof.Rows L2

structure ErrAll (P : Program) (K : PySem.W.Frag) (mg : Str → Option Value) (Y : Ex) : Prop where
  ex : Y.cls = [] ∨ ∃ (D fI : Addr) (fd : FuncData) (fl sn wn : Str), InitOk P K D fI fd fl sn wn ∧ Binds K fd [sn, wn] [] ∧ PySem.W.typeIn K (.ref fI) = some (.type "function") ∧
    ∀ c ∈ Y.cls, SubI K D (clsA K c) ∧ PySem.W.findIn K (.ref (clsA K c)) "__init__" = some (some (.ref fI)) ∧ PySem.W.findIn K (.ref (clsA K c)) fl = some none ∧ mg (enc c) = some (.ref (clsA K c)) ∧ plainN (enc c) = true
  su : mg "super" = none
/-- what is asked may be asked for less -/
def tUp (t : TE) : TE := fun σ H Q => ∃ Q0 : VK, t σ H Q0 ∧ ∀ v H1, Q0 v H1 → Q v H1
theorem pe_up {X : Cx} {e : Expr} {t : TE} (h : PE X e t) : PE X e (tUp t) := ⟨fun pins s σ H Q I ⟨Q0, q, i⟩ => thn (h.run pins s σ H Q0 I q) fun u s1 ⟨v, H1, I1, r, z⟩ => ⟨v, H1, I1, r, i v H1 z⟩⟩
theorem mkX_of {X : Cx} {Y : Ex} (T : ErrAll X.prog X.K X.mg Y) {c : String} (hc : c ∈ Y.cls) (hg : Gl X (enc c)) (hr : Room 2 X.A) : MkX X c := by
  obtain ⟨T0, su⟩ := T
  rcases T0 with T0 | ⟨D, fI, fd, fl, sn, wn, I0, B, tI, hcs⟩
  · rw [T0] at hc; cases hc
  obtain ⟨S, iC, hno, hm, hpl⟩ := hcs c hc
  intro e ta p pos ns he pins s σ H Q I q
  have F1 : FnOk X.prog X.w X.K X.mg X.base (L2.CX X.prog X.w) (0 + 1) fI fd [sn, wn] (spI X.K D fl) := init_fn I0 su
  have M := pmk_oex (p := p) (pos := pos) S.T iC tI F1 hr B (dvs := []) .nil passL hg hm (pa_cons (pe_up he) pa_nil (noStar_ok ns)) (plainN_ok hpl).1 (noStar_ok ns) rfl
  refine M pins s σ H Q I ⟨_, q, fun v H1 z => ⟨by show 1 ≤ 1000; decide, fun a ha => ⟨a, v, clsA X.K c, rfl, S, hno, upd_same, fun d hd hda => ?_⟩⟩⟩
  rw [upd_ne hda] at hd
  refine ⟨rfl, d, _, upd_same, by rw [upd_ne hda, upd_same], hd, ?_⟩
  have e1 : upd (L2.del (upd (upd (upd H1 a (exo a (clsA X.K c) none)) d (exd d [(fl, v)])) a (exo a (clsA X.K c) (some d))) a) d (.xd [(fl, v)]) = upd H1 d (.xd [(fl, v)]) := by
    funext b
    by_cases zb : b = d
    · rw [zb, upd_same, upd_same]
    · rw [upd_ne zb, upd_ne zb]
      by_cases za : b = a
      · rw [za, del_same, ha]
      · rw [del_ne za, upd_ne za, upd_ne zb, upd_ne za]
  rw [e1]
  exact z fl d hd
theorem mkAll_of {P : Program} {w : World} {K : PySem.W.Frag} {mg : Str → Option Value} {base : Heap} {Y : Ex} (T : ErrAll P K mg Y) (n : Nat) : MkAll P w K mg base (n + 1) Y :=
  @fun N sc W X C c hc hg => mkX_of (Y := Y) (by rw [C.eP, C.eK, C.eM]; exact T) hc hg (C.room.mono (by omega))
end CW

set_option Elab.async false
set_option linter.all false
set_option maxRecDepth 100000
/-! The check of the errors' class, to be run over the head. -/
namespace CW
open PySem PySem.Spec PyProof.Rows L2

def vFd (K : PySem.W.Frag) (f : Addr) : Option FuncData := match K.lookup f with
  | some ⟨_, _, .func fd, _⟩ => some fd
  | _ => none
theorem vFd_ok {K : PySem.W.Frag} {f : Addr} {fd : FuncData} (h : vFd K f = some fd) : ∃ oc od osl, K.lookup f = some ⟨oc, od, .func fd, osl⟩ := by
  unfold vFd at h
  split at h
  · next a b c d e => cases h; exact ⟨_, _, _, e⟩
  · cases h
def vFs (K : PySem.W.Frag) (f : Addr) : Option (Array Value) := match K.lookup f with
  | some ⟨_, _, .fields vs, _⟩ => some vs
  | _ => none
theorem vFs_ok {K : PySem.W.Frag} {f : Addr} {vs : Array Value} (h : vFs K f = some vs) : ∃ oc od osl, K.lookup f = some ⟨oc, od, .fields vs, osl⟩ := by
  unfold vFs at h
  split at h
  · next a b c d e => cases h; exact ⟨_, _, _, e⟩
  · cases h
def vCell (K : PySem.W.Frag) (f : Addr) : Option Addr := match K.lookup f with
  | some ⟨_, _, .cell (some (.ref d)), _⟩ => some d
  | _ => none
theorem vCell_ok {K : PySem.W.Frag} {f d : Addr} (h : vCell K f = some d) : ∃ oc od osl, K.lookup f = some ⟨oc, od, .cell (some (.ref d)), osl⟩ := by
  unfold vCell at h
  split at h
  · next a b c e => cases h; exact ⟨_, _, _, e⟩
  · cases h
def vRefV : Value → Option Addr
  | .ref a => some a
  | _ => none
theorem vRefV_ok {v : Value} {a : Addr} (h : vRefV v = some a) : v = .ref a := by
  cases v <;> first | (cases h; done) | (cases h; rfl)
def vStrV : Value → Option Str
  | .str s _ => some s
  | _ => none
theorem vStrV_ok {v : Value} {s : Str} (h : vStrV v = some s) : ∃ t, v = .str s t := by
  cases v <;> first | (cases h; done) | (cases h; exact ⟨_, rfl⟩)
def vNonV : Value → Bool
  | .none => true
  | _ => false
theorem vNonV_ok {v : Value} (h : vNonV v = true) : v = .none := by
  cases v <;> first | (cases h; done) | rfl
def vStm : FuncBody → Option (List Stmt)
  | .stmts b => some b
  | _ => none
theorem vStm_ok {b : FuncBody} {l : List Stmt} (h : vStm b = some l) : b = .stmts l := by
  cases b <;> first | (cases h; done) | (cases h; rfl)
def vCl (l : List (Str × Addr)) : Option Addr := match l with
  | [(x, c)] => if x = "__class__" then some c else none
  | _ => none
theorem vCl_ok {l : List (Str × Addr)} {c : Addr} (h : vCl l = some c) : l = [(("__class__" : Str), c)] := by
  unfold vCl at h
  split at h
  · obtain ⟨rfl, rfl⟩ := ifs h; rfl
  · cases h
def oexMro (C : Addr) : List Value → Bool
  | .ref C' :: bm => decide (C' = C) && PySem.HandSPX.refsVE bm
  | _ => false
def oexSl : List (Option Value) → Bool
  | [_, _, _, _, some (.builtin n), _] => decide (n = "ValueError.__new__")
  | _ => false
def isTypV : Value → Bool
  | .type n => decide (n = "type")
  | _ => false
def oexB (K : PySem.W.Frag) (C : Addr) : Bool := match K.lookup C with
  | some ⟨t, _, .cls cd, sl⟩ => isTypV t && ((cd.hasDict && !cd.hasDel) && (oexMro C cd.mro && oexSl sl.toList))
  | _ => false
theorem oexB_ok {K : PySem.W.Frag} {C : Addr} (h : oexB K C = true) : ∃ nm q N bs bm sn sub ab col dd k0 k1 k2 k3 k5, K.lookup C = some (excClassObj nm q C N bs bm true sn sub ab col dd k0 k1 k2 k3 k5 "ValueError.__new__") ∧ PySem.HandSPX.refsVE bm = true := by
  unfold oexB at h
  split at h
  · next t dd cd sl e =>
    obtain ⟨h0, h⟩ := and2 h
    obtain ⟨h1, h⟩ := and2 h
    obtain ⟨h11, h12⟩ := and2 h1
    obtain ⟨h2, h3⟩ := and2 h
    obtain ⟨nm, bs, mro, ns, qn, hd, sn, sb, ab, col, del⟩ := cd
    dsimp only at h11 h12 h2 h3
    have ht : t = .type "type" := by
      cases t <;> first | (cases h0; done) | skip
      rename_i n
      have : n = "type" := of_decide_eq_true h0
      rw [this]
    have hdel : del = false := by simpa using h12
    obtain ⟨bm, rfl, hbm⟩ : ∃ bm, mro = .ref C :: bm ∧ PySem.HandSPX.refsVE bm = true := by
      unfold oexMro at h2
      split at h2
      · obtain ⟨a1, a2⟩ := and2 h2
        have := of_decide_eq_true a1
        subst this
        exact ⟨_, rfl, a2⟩
      · cases h2
    obtain ⟨k0, k1, k2, k3, k5, hsl⟩ : ∃ k0 k1 k2 k3 k5, sl = #[k0, k1, k2, k3, some (.builtin "ValueError.__new__"), k5] := by
      unfold oexSl at h3
      split at h3
      · next a b c d n f e2 =>
        have : n = "ValueError.__new__" := of_decide_eq_true h3
        subst this
        exact ⟨a, b, c, d, f, by rw [← Array.toArray_toList (xs := sl), e2]⟩
      · cases h3
    subst ht; subst hdel; subst hsl; subst h11
    exact ⟨nm, qn, ns, bs, bm, sn, sb, ab, col, dd, k0, k1, k2, k3, k5, e, hbm⟩
  · cases h
/-- the error class C -/
def errC (K : PySem.W.Frag) (D fI : Addr) (fl : Str) (c : String) : Bool :=
  ((oexB K (clsA K c) && (PySem.W.keepIn K (.ref (clsA K c)) && (decide (PySem.W.subIn K (.ref (clsA K c)) (.type "BaseException") = some true) && decide (PySem.W.typeIn K (.ref (clsA K c)) = some (.type "type"))))) && (plainN (enc c) && (He.Fa.glo (enc c)).ok K)) && ((He.eqO (PySem.W.ks_superIn K (clsA K c) D "__init__") (some (some (.builtin "ValueError.__init__"))) && (decide (PySem.W.subIn K (.ref (clsA K c)) (.type "ValueError") = some true) && decide (PySem.W.mroIn K (clsA K c) (.ref D) = some true))) &&
    (He.eqO (PySem.W.findIn K (.ref (clsA K c)) "__init__") (some (some (.ref fI))) && (He.eqO (PySem.W.findIn K (.ref (clsA K c)) fl) (some none) && He.eqO (PySem.W.findIn K (.ref (clsA K c)) "__setattr__") (some (some (.builtin "object.__setattr__"))))))
def errB (P : Program) (b : String) (fl sn wn : Str) (cls : List String) (K : PySem.W.Frag) : Bool :=
  opt (vFd K (He.ma K (clsA K b) "__init__")) fun fd => opt (vStm fd.body) fun body => opt (vCl fd.closure) fun cc => opt (vCell K cc) fun d => opt (vRefV fd.code) fun cda => opt (vFs K cda) fun cvs => opt cvs[2]? fun v2 => opt (vStrV v2) fun file =>
    (((decide (fd.name = "__init__") && decide (fd.globals = mainGlobals)) && (decide (fd.builtins = builtinsNs) && vNonV fd.defaults)) && ((plainArgs fd.params && decide (fd.params.args.map (·.arg) = [sn, wn])) && (decide (d = clsA K b) && ((P.main.file : Str) == file)))) &&
    (((PySem.W.codeIn K fd.code fd.qualname && (PySem.W.clsIn K (clsA K b)).isSome) && (vInit body fl sn wn && NdefX.nscB [sn, wn, "__class__"] [sn, wn] ["__class__"] fd.scope)) &&
      ((decide (fd.scope.names.lookup ("super" : Str) = some .globalImplicit) && He.eqO (PySem.W.nsIn K cStatics "thirdparty.any") (some none)) && ((!(P.main.scope.names.lookup ("super" : Str)).isSome && (plainN sn && plainN wn)) &&
        (decide (PySem.W.typeIn K (.ref (He.ma K (clsA K b) "__init__")) = some (.type "function")) && cls.all (errC K (clsA K b) (He.ma K (clsA K b) "__init__") fl)))))

theorem errC_ok {K : PySem.W.Frag} {D fI : Addr} {fl : Str} {c : String} {h : Heap} {mg : Str → Option Value} (X : K.In h) (G : h.Ns mainGlobals mg) (q : errC K D fI fl c = true) :
    SubI K D (clsA K c) ∧ PySem.W.findIn K (.ref (clsA K c)) "__init__" = some (some (.ref fI)) ∧ PySem.W.findIn K (.ref (clsA K c)) fl = some none ∧ mg (enc c) = some (.ref (clsA K c)) ∧ plainN (enc c) = true := by
  obtain ⟨q1, q⟩ := and2 q
  obtain ⟨q11, q12⟩ := and2 q1
  obtain ⟨a1, q11⟩ := and2 q11
  obtain ⟨a2, q11⟩ := and2 q11
  obtain ⟨a3, a4⟩ := and2 q11
  obtain ⟨a5, a6⟩ := and2 q12
  obtain ⟨q2, q3⟩ := and2 q
  obtain ⟨b1, q2⟩ := and2 q2
  obtain ⟨b2, b3⟩ := and2 q2
  obtain ⟨c1, q3⟩ := and2 q3
  obtain ⟨c2, c3⟩ := and2 q3
  exact ⟨⟨⟨oexB_ok a1, He.eqO_ok c3, of_decide_eq_true a3, of_decide_eq_true a4, a2⟩, He.eqO_ok b1, of_decide_eq_true b2, of_decide_eq_true b3⟩, He.eqO_ok c1, He.eqO_ok c2, He.glo_ok X G a6, a5⟩
theorem errB_ok {P : Program} {K : PySem.W.Frag} {b : String} {fl sn wn : Str} {Y : Ex} {h : Heap} {mg : Str → Option Value} (X : K.In h) (G : h.Ns mainGlobals mg) (F : Free mg) (q : errB P b fl sn wn Y.cls K = true) : ErrAll P K mg Y := by
  have su : mg "super" = none := by
    have := F "super" (by decide)
    have e : enc "super" = ("super" : Str) := by decide +kernel
    rw [e] at this; exact this
  obtain ⟨fd, e1, q⟩ := opt_ok q
  obtain ⟨body, e2, q⟩ := opt_ok q
  obtain ⟨cc, e3, q⟩ := opt_ok q
  obtain ⟨d, e4, q⟩ := opt_ok q
  obtain ⟨cda, e5, q⟩ := opt_ok q
  obtain ⟨cvs, e6, q⟩ := opt_ok q
  obtain ⟨v2, e7, q⟩ := opt_ok q
  obtain ⟨file, e8, q⟩ := opt_ok q
  obtain ⟨q1, q⟩ := and2 q
  obtain ⟨q11, q12⟩ := and2 q1
  obtain ⟨q111, q112⟩ := and2 q11
  obtain ⟨n1, n2⟩ := and2 q111
  obtain ⟨n3, n4⟩ := and2 q112
  obtain ⟨q121, q122⟩ := and2 q12
  obtain ⟨p1, p2⟩ := and2 q121
  obtain ⟨d1, d2⟩ := and2 q122
  obtain ⟨q2, q3⟩ := and2 q
  obtain ⟨q21, q22⟩ := and2 q2
  obtain ⟨c1, c2⟩ := and2 q21
  obtain ⟨i1, i2⟩ := and2 q22
  obtain ⟨q31, q32⟩ := and2 q3
  obtain ⟨s1, s2⟩ := and2 q31
  obtain ⟨q321, q322⟩ := and2 q32
  obtain ⟨t1, t2⟩ := and2 q321
  obtain ⟨t21, t22⟩ := and2 t2
  obtain ⟨r1, r2⟩ := and2 q322
  obtain ⟨oc, od, osl, l1⟩ := vFd_ok e1
  have e2' := vStm_ok e2
  have e3' := vCl_ok e3
  obtain ⟨cl, cld, csl, l2⟩ := vCell_ok e4
  have e5' := vRefV_ok e5
  obtain ⟨ccl, cdd, ccs, l3⟩ := vFs_ok e6
  obtain ⟨tf, e8'⟩ := vStrV_ok e8
  obtain rfl : d = clsA K b := of_decide_eq_true d1
  obtain ⟨cdD, hD⟩ := Option.isSome_iff_exists.mp c2
  obtain ⟨f1, f2, f3, f4, f5, f6, f7, f8, f9, f10, f11, f12, f13, f14, f15⟩ := fd
  dsimp only at n1 n2 n3 n4 p1 p2 c1 i1 i2 s1 e2' e3' e5'
  have g1 := of_decide_eq_true n1
  have g2 := of_decide_eq_true n2
  have g3 := of_decide_eq_true n3
  have g4 := vNonV_ok n4
  subst g1; subst g2; subst g3; subst g4; subst e2'; subst e3'; subst e5'
  have ps : f3.args.map (·.arg) = [sn, wn] := of_decide_eq_true p2
  obtain ⟨ar1, ar2, ea⟩ : ∃ a1 a2, f3 = ⟨[], [a1, a2], none, [], [], none, []⟩ ∧ a1.arg = sn ∧ a2.arg = wn := by
    obtain ⟨x1, x2, x3, x4, x5, x6, x7⟩ := f3
    unfold plainArgs at p1
    split at p1
    · next z =>
      cases z
      dsimp only at ps
      match x2, ps with
      | [a1, a2], ps =>
        have := List.cons.inj ps
        exact ⟨a1, a2, rfl, this.1, (List.cons.inj this.2).1⟩
    · cases p1
  obtain ⟨ef3, ea1, ea2⟩ := ea
  subst ef3
  have NS := NdefX.nscope_by i2
  refine ⟨.inr ⟨clsA K b, He.ma K (clsA K b) "__init__", _, fl, sn, wn, ⟨⟨f2, _, body, f5, f9, f10, f11, f14, oc, ccl, cl, f12, od, cdd, cld, osl, ccs, csl, cc, cda, cvs, file, tf, cdD, rfl, l1, c1, l3, by rw [e7, e8'], d2, l2, hD, ⟨ar1, rfl, ea1⟩, i1, NS, of_decide_eq_true s1⟩, He.eqO_ok s2, by simpa using t1, and2 (show (plainN sn && plainN wn) = true from by rw [t21, t22]; rfl)⟩, ?_, of_decide_eq_true r1, fun c hc => errC_ok X G (List.all_eq_true.mp r2 c hc)⟩, su⟩
  refine .all fun us hl => ?_
  have nd : ([sn, wn] : List Str).Nodup := NS.nd.sublist (by simp)
  have := bind_gen (fd := PySem.W.fnX "__init__" f2 ⟨[], [ar1, ar2], none, [], [], none, []⟩ body f5 [(("__class__" : Str), cc)] .none f9 f10 f11 f12 (.ref cda) f14) us rfl rfl (by rw [ps]; exact hl) (by rw [ps]; exact nd)
  rw [ps] at this
  exact this
end CW

set_option Elab.async false
set_option linter.all false
set_option maxRecDepth 100000
/-! From the facts of the head to the law's promise. -/
namespace CW
open PySem PySem.Spec PyProof.Rows L2
section
variable {P : Program} {w : World} {K : PySem.W.Frag} {mg : Str → Option Value} {base h : Heap} {Tb : Tab}
theorem law_ok {f : Fd} {x qual : Str} {params : Arguments} {body : List Stmt} {scope : Scope} {fd : FuncData} (Fs : FctsS K mg Tb) (Mx : ∀ n, MkAll P w K mg base (n + 1) Tb.Y) (hn : findF Tb.P f.name = some f)
    (F : FunD K x qual params body scope [] [] (fA K f) fd) (S : FnScope (f.N.map enc) f.ps scope) (hc : chkSs Tb f.N scope f.nw f.body body = true) (le : f.ms.length ≤ f.N.length) (n : Nat) :
    FnOk P w K mg base (L2.CX P w) ((2 * (n + 1) + 1) + 1) (fA K f) fd f.ps (spF K f (callF Tb.P Tb.Y (n + 1) f.name)) := by
  have ih := defs_ok Fs Mx n
  have Fc : Fcts P w K mg base Tb (n + 1) (callF Tb.P Tb.Y n) := ⟨Fs.fr, fun y g e => ih y g e, Fs.nm, Fs.fl, Fs.me, Fs.mak, Fs.eq, Fs.cs, Fs.is, Fs.er⟩
  refine F.ok S (fun vs H Q E ⟨hv, _⟩ => by rw [hv, ps_len le]) fun cdv A outer s H vs Q E hr ⟨hv, ds, rho, G, e0, sr, rp⟩ => ?_
  have er : callF Tb.P Tb.Y (n + 1) f.name ds = runF (callF Tb.P Tb.Y n) Tb.Y f ds := by show (match findF Tb.P f.name with | some f => _ | none => _) = _; rw [hn]
  rw [er] at rp
  exact ⟨_, sSs Fc (Mx n) f.body (ctxS_of hr S.nd S.kind) hc, body_ok (W := fun cls d _ H => E cls d H) le hv e0 sr rp⟩
/-- how the law answers -/
theorem sp_law {f : Fd} {c : List D → Rs} {ns : List Int} {outs : List D} (hm : f.ms = [false]) (hw : f.nw = false) (e : c [.scr ns] = .ret (.bl true) outs) {H : Hp} {a : Addr} (hS : SqL K H a (ns.map V.int)) :
    spF K f c [.ref a] H (fun v _ => v = .bl true) fun _ _ _ => False := by
  refine ⟨by rw [hm]; rfl, [.scr ns], [.va (.scr ns)], H, by rw [hm]; rfl, ?_, ?_⟩
  · refine ⟨rfl, fun _ _ z => z, fun i => ?_, fun i j p hi => ?_⟩
    · match i with
      | 0 => exact ⟨_, rfl, .scr hS⟩
      | i + 1 => exact trivial
    · match i with
      | 0 => cases hi
      | i + 1 => cases hi
  · rw [e]
    intro rho1 v G' H' _ _ hr
    rw [hw, if_neg (by decide)] at hr
    cases hr
    rfl
/-- a program: its table, the text of its defs, its own error's class -/
structure PrgOk (Tb : Tab) (ds : List DefE) (fa : List He.Fa) (fn : List He.DefD) (le : DefE) : Prop where
  P : Tb.P = ds.map (·.f)
  fa : ∀ f ∈ Tb.fa, f ∈ fa
  fn : ∀ e ∈ ds, e.d ∈ fn
  st : ∀ e ∈ ds, statB Tb e = true
  tt : statT Tb = true
  law : le ∈ ds
  nm : findF Tb.P "law" = some le.f
  cls : le.f.cls = none
  ms : le.f.ms = [false]
  nw : le.f.nw = false
  ps : le.f.ps = [("script" : Str)]
def exB (P : Program) (b : String) (fl sn wn : Str) (Tb : Tab) (K : PySem.W.Frag) : Bool := Tb.isis.all (isiX K) && errB P b fl sn wn Tb.Y.cls K
theorem law_facts {ds : List DefE} {fa : List He.Fa} {fn : List He.DefD} {le : DefE} {b : String} {fl sn wn : Str} (Pk : PrgOk Tb ds fa fn le) (X : K.In h) (G : h.Ns mainGlobals mg) (c : He.SaysD fa fn K) (hx : exB P b fl sn wn Tb K = true) {a : Addr} (hfa : mg ("law" : Str) = some (.ref a)) (n : Nat) :
    ∃ fd : FuncData, (∀ (s : Shared) (v : Value), BindsTo s fd ⟨[v], []⟩ [("script", v)]) ∧ ∀ base : Heap, K.In base → base.Ns mainGlobals mg → FnOk P w K mg base (L2.CX P w) ((2 * (n + 1) + 1) + 1) a fd ["script"] (spF K le.f (callF Tb.P Tb.Y (n + 1) "law")) := by
  obtain ⟨hx1, hx2⟩ := and2 hx
  have df : ∀ x f, findF Tb.P x = some f → DefOk K Tb f := fun x f e => by
    have := findF_mem e
    rw [Pk.P] at this
    obtain ⟨d, hd, rfl⟩ := List.mem_map.mp this
    exact defOk_of c (Pk.fn d hd) (Pk.st d hd)
  have Fs : FctsS K mg Tb := fcts_of X G c Pk.fa Pk.tt hx1 df
  have T : ErrAll P K mg Tb.Y := errB_ok X G Fs.fr hx2
  have nm : le.f.name = "law" := findF_name Pk.nm
  have hst := Pk.st le Pk.law
  obtain ⟨h1, h2⟩ := and2 hst
  obtain ⟨h11, h12⟩ := and2 h1
  obtain ⟨a1, a2⟩ := and2 h11
  obtain ⟨a3, a4⟩ := and2 a2
  obtain ⟨b1, b2⟩ := and2 h12
  obtain ⟨b3, b4⟩ := and2 b2
  obtain ⟨c1, c2⟩ := and2 h2
  obtain ⟨fd, F⟩ := c.defs (Pk.fn le Pk.law)
  have S := scB_ok c1
  have ed : le.d.dvs K = [] := by unfold He.DefD.dvs; rw [List.isEmpty_iff.mp a3]; rfl
  have ek : le.d.kws K = [] := by unfold He.DefD.kws; rw [List.isEmpty_iff.mp a4]; rfl
  rw [ed, ek, of_decide_eq_true a1, ← fA_at] at F
  have ea : a = fA K le.f := by
    obtain ⟨g1, _⟩ := Fs.nm "law" le.f Pk.nm Pk.cls
    have e : enc "law" = ("law" : Str) := by decide +kernel
    rw [e, hfa] at g1
    cases g1; rfl
  subst ea
  have ep : le.d.params.args.map (·.arg) = le.f.ps := of_decide_eq_true b3
  have eps := Pk.ps
  refine ⟨fd, ?_, fun base _ _ => ?_⟩
  · intro s v
    have := FunD.bindsA (ps := ["script"]) F (fun kV doc pm an cdv ct us hl => by
      rw [eps] at ep
      have hl' : us.length = (le.d.params.args.map (·.arg)).length := by rw [ep]; exact hl
      have nd : (le.d.params.args.map (·.arg)).Nodup := by rw [ep]; decide
      rw [← ep]
      cases q : le.d.params with
      | mk p1 p2 p3 p4 p5 p6 p7 =>
        rw [q] at b1 hl' nd
        unfold plainArgs at b1
        split at b1
        · next z =>
          cases z
          exact bind_simple kV doc pm an cdv ct us hl' nd
        · cases b1) s [v] rfl
    exact this
  · have z := law_ok (f := le.f) (w := w) (P := P) (base := base) Fs (fun n => mkAll_of T n) (by rw [nm]; exact Pk.nm) F S c2 (of_decide_eq_true b4) n
    rw [nm, eps] at z
    exact z
end
/-! ### the hook: the head's part of the heap, with the statics -/
def frS (n : Nat) (g : Addr → Option Obj) : PySem.W.Frag := He.frG g (cStatics :: He.asD g n)
def obsS (n : Nat) (fa : List He.Fa) (fn : List He.DefD) (ex : PySem.W.Frag → Bool) (g : Addr → Option Obj) : He.AlD × Bool := (He.obsD fa fn (frS n g), ex (frS n g))
def hookS (n : Nat) (fa : List He.Fa) (fn : List He.DefD) (ex : PySem.W.Frag → Bool) : PySem.W.Hook where
  α := He.AlD × Bool
  obs := fun s => obsS n fa fn ex s.heap.get?
  val := fun _ => (He.valD fn, true)
  says := fun _ h => ∃ K : PySem.W.Frag, K.In h ∧ (He.SaysD fa fn K ∧ ex K = true)
  of := fun _ _ e => ⟨_, He.frG_in, congrArg (fun z : He.AlD × Bool => z.1) e, congrArg (fun z : He.AlD × Bool => z.2) e⟩
  keeps := fun _ _ _ ⟨K, hK, c⟩ k => ⟨K, PySem.W.Frag.In.keeps hK k, c⟩
theorem obsS_eq {n : Nat} {fa : List He.Fa} {fn : List He.DefD} {ex : PySem.W.Frag → Bool} {g : Addr → Option Obj} {s : Shared} (h : ∀ a, g a = s.heap.get? a) : obsS n fa fn ex g = (hookS n fa fn ex).obs s := by
  have : g = s.heap.get? := funext h
  subst this; rfl
/-- a law's end, for defs that may raise -/
theorem walk_ofR {l : PySem.W.OpenLaw} {n k : Nat} {q : Program} {loose : List Str} {XP : (Str → Option Value) → Heap → Prop} {YP : World → Heap → Prop} {d : DefRec} {x : Str}
    (hn : l.most = some n) (hn2 : n ≤ sizeLine) (hdf : d.params.defaults = []) (hr : Room k callerA)
    (F : ∀ (w : World) (mg : Str → Option Value) (fa : Addr) (h : Heap), YP w h → h.Ns mainGlobals mg → mg d.name = some (.ref fa) →
      ∃ (K : PySem.W.Frag) (fd : FuncData) (sp : Sp), K.In h ∧ (∀ (s : Shared) (u : Value), BindsTo s fd ⟨[u], []⟩ [(x, u)]) ∧
        (∀ (H : Hp) (a : Addr) (ns : List Int), ns.length ≤ n → Only H → SqL K H a (ns.map V.int) → sp [.ref a] H (fun v _ => v = .bl true) fun _ _ _ => False) ∧
        ∀ base : Heap, K.In base → base.Ns mainGlobals mg → FnOk l.prog w K mg base (L2.CX l.prog w) k fa fd [x] sp) :
    PySem.W.WalkO q loose XP YP l.row.toRowW d [] (fun f vs => PySem.call f vs) := by
  refine Att.attach_call hn hdf fun w s₀ s₁ mg mb fa o pm cd doc a vs ns G Y ho hd hcd hmg hobj hints hlen hg => ?_
  obtain ⟨K, fd, sp, KX, hb, hsp, hF⟩ := F w mg fa _ Y G.T.g hmg
  exact law_call KX G.T.g G.T.b G.T.builtins G.T.nolimit hg hobj hints (Nat.le_trans hlen hn2) hr hF hb (fun H hO hS => hsp H a ns hlen hO hS) fun H e s' h => by
    obtain ⟨_, _, _, _, _, _, _, _, _, _, _, _, z⟩ := h
    exact z
end CW

set_option linter.all false
/-! How terms of the small language are walked: rules. -/
namespace CW.Z

/-! ### what an evaluation must lead to -/
def WE {α : Type} (m : Ev α) (Q : α → Env → Prop) (X : Exn → Env → Prop) : Prop := match m with
  | .ok a r => Q a r
  | .ex x r => X x r
  | .no => False
def WO (o : Out) (N : Env → Prop) (R : D → Env → Prop) (B C : Env → Prop) (X : Exn → Env → Prop) : Prop := match o with
  | .nx r => N r
  | .rt d r => R d r
  | .bk r => B r
  | .ct r => C r
  | .ex x r => X x r
  | .no => False
def WR (o : Rs) (Q : D → List D → Prop) (X : Exn → List D → Prop) : Prop := match o with
  | .ret d l => Q d l
  | .exc x l => X x l
  | .no => False

theorem WE.bind {α β : Type} {m : Ev α} {f : α → Env → Ev β} {Q : β → Env → Prop} {X : Exn → Env → Prop} (h : WE m (fun a r => WE (f a r) Q X) X) : WE (m.bind f) Q X := by
  cases m <;> exact h
theorem WE.out {α : Type} {m : Ev α} {f : α → Env → Out} {N : Env → Prop} {R : D → Env → Prop} {B C : Env → Prop} {X : Exn → Env → Prop} (h : WE m (fun a r => WO (f a r) N R B C X) X) : WO (m.out f) N R B C X := by
  cases m <;> exact h
theorem WE.of {α : Type} {ρ : Env} {o : Option α} {Q : α → Env → Prop} {X : Exn → Env → Prop} {a : α} (h : o = some a) (q : Q a ρ) : WE (Ev.of ρ o) Q X := by
  subst h; exact q
theorem WE.mono {α : Type} {m : Ev α} {Q Q' : α → Env → Prop} {X X' : Exn → Env → Prop} (h : WE m Q X) (i : ∀ a r, Q a r → Q' a r) (j : ∀ x r, X x r → X' x r) : WE m Q' X' := by
  cases m with
  | ok a r => exact i _ _ h
  | ex x r => exact j _ _ h
  | no => exact h.elim
theorem WE.eq {α : Type} {m : Ev α} {a : α} {ρ : Env} (h : WE m (fun b r => b = a ∧ r = ρ) fun _ _ => False) : m = .ok a ρ := by
  cases m with
  | ok b r => obtain ⟨rfl, rfl⟩ := h; rfl
  | ex x r => exact h.elim
  | no => exact h.elim
theorem WE.sure {α : Type} {m : Ev α} {a : α} {ρ : Env} {Q : α → Env → Prop} {X : Exn → Env → Prop} (h : m = .ok a ρ) (q : Q a ρ) : WE m Q X := by
  subst h; exact q
theorem WO.mono {m : Out} {N N' : Env → Prop} {R R' : D → Env → Prop} {B B' C C' : Env → Prop} {X X' : Exn → Env → Prop} (h : WO m N R B C X) (i1 : ∀ r, N r → N' r) (i2 : ∀ d r, R d r → R' d r) (i3 : ∀ r, B r → B' r) (i4 : ∀ r, C r → C' r) (i5 : ∀ x r, X x r → X' x r) : WO m N' R' B' C' X' := by
  cases m with
  | nx r => exact i1 _ h
  | rt d r => exact i2 _ _ h
  | bk r => exact i3 _ h
  | ct r => exact i4 _ h
  | ex x r => exact i5 _ _ h
  | no => exact h.elim
theorem WR.ret {o : Rs} {d : D} {l : List D} {Q : D → List D → Prop} {X : Exn → List D → Prop} (h : o = .ret d l) (q : Q d l) : WR o Q X := by
  subst h; exact q
theorem WR.exc {o : Rs} {x : Exn} {l : List D} {Q : D → List D → Prop} {X : Exn → List D → Prop} (h : o = .exc x l) (q : X x l) : WR o Q X := by
  subst h; exact q
theorem WR.eq {o : Rs} {d : D} {l : List D} (h : WR o (fun b r => b = d ∧ r = l) fun _ _ => False) : o = .ret d l := by
  cases o with
  | ret b r => obtain ⟨rfl, rfl⟩ := h; rfl
  | exc x r => exact h.elim
  | no => exact h.elim
theorem WR.eqx {o : Rs} {x : Exn} {l : List D} (h : WR o (fun _ _ => False) fun b r => b = x ∧ r = l) : o = .exc x l := by
  cases o with
  | exc b r => obtain ⟨rfl, rfl⟩ := h; rfl
  | ret x r => exact h.elim
  | no => exact h.elim

theorem WR.cases {o : Rs} {Q : D → List D → Prop} {X : Exn → List D → Prop} (h : WR o Q X) : (∃ d l, o = .ret d l ∧ Q d l) ∨ ∃ x l, o = .exc x l ∧ X x l := by
  cases o with
  | ret d l => exact .inl ⟨d, l, rfl, h⟩
  | exc x l => exact .inr ⟨x, l, rfl, h⟩
  | no => exact h.elim
theorem WR.sure {o : Rs} {Q : D → List D → Prop} (h : WR o Q fun _ _ => False) : ∃ d l, o = .ret d l ∧ Q d l := by
  rcases h.cases with h | ⟨_, _, _, h⟩
  · exact h
  · exact h.elim

/-! ### expressions -/
section
variable {cf : CF} {ρ : Env} {Q : D → Env → Prop} {X : Exn → Env → Prop}
theorem w_var {i : Nat} {d : D} (h : get ρ i = .va d) (q : Q d ρ) : WE (evE cf (.var i) ρ) Q X := by
  unfold evE; rw [h]; exact q
theorem w_frz {i : Nat} {d : D} (h : get ρ i = .ow false d) (q : Q d (put ρ i (.va d))) : WE (evE cf (.frz i) ρ) Q X := by
  unfold evE; rw [h]; exact q
theorem w_frzv {i : Nat} {d : D} (h : get ρ i = .va d) (q : Q d ρ) : WE (evE cf (.frz i) ρ) Q X := by
  unfold evE; rw [h]; exact q
theorem w_int {i : Int} (q : Q (.int i) ρ) : WE (evE cf (.int i) ρ) Q X := q
theorem w_str {s : String} (q : Q (.str s) ρ) : WE (evE cf (.str s) ρ) Q X := q
theorem w_bl {b : Bool} (q : Q (.bl b) ρ) : WE (evE cf (.bl b) ρ) Q X := q
theorem w_non (q : Q .non ρ) : WE (evE cf .non ρ) Q X := q
theorem w_cst {x : String} {i : Int} (q : Q (.int i) ρ) : WE (evE cf (.cst x i) ρ) Q X := q

/-- an operand -/
theorem pk_va {i : Nat} {d : D} {Q : Ar → Env → Prop} (h : get ρ i = .va d) (q : Q (.v d) ρ) : WE (pk (.var i) ρ (evE cf (.var i) ρ)) Q X := by
  unfold pk; dsimp only; rw [h]; exact q
theorem pk_ow {i : Nat} {b : Bool} {d : D} {Q : Ar → Env → Prop} (h : get ρ i = .ow b d) (q : Q (.r i) ρ) : WE (pk (.var i) ρ (evE cf (.var i) ρ)) Q X := by
  unfold pk; dsimp only; rw [h]; exact q
theorem pk_lk {i : Nat} {b : Bool} {d : D} {Q : Ar → Env → Prop} (h : get ρ i = .lk b d) (q : Q (.r i) ρ) : WE (pk (.var i) ρ (evE cf (.var i) ρ)) Q X := by
  unfold pk; dsimp only; rw [h]; exact q
theorem pk_e {a : E} {Q : Ar → Env → Prop} (h : WE (evE cf a ρ) (fun d r => Q (.v d) r) X) : WE (pk a ρ (evE cf a ρ)) Q X := by
  unfold pk
  split
  · next i =>
    unfold evE at h
    cases z : get ρ i <;> rw [z] at h <;> first | exact h | exact h.elim
  · exact WE.bind h

theorem w_op1 {p : P1} {a : E} (h : WE (pk a ρ (evE cf a ρ)) (fun x r => ∃ x' z, drf r x = some x' ∧ sem1 p x' = some z ∧ Q z r) X) : WE (evE cf (.op1 p a) ρ) Q X := by
  unfold evE
  refine WE.bind (h.mono (fun x r ⟨x', z, e1, e2, q⟩ => WE.of (a := z) ?_ q) fun _ _ q => q)
  unfold sem1R; rw [e1]; exact e2
theorem w_op2 {p : P2} {a b : E} (h : WE (pk a ρ (evE cf a ρ)) (fun x r1 => WE (pk b r1 (evE cf b r1)) (fun y r => ∃ x' y' z, drf r x = some x' ∧ drf r y = some y' ∧ sem2 p x' y' = some z ∧ Q z r) X) X) : WE (evE cf (.op2 p a b) ρ) Q X := by
  unfold evE
  refine WE.bind (h.mono (fun x r h => WE.bind (h.mono (fun y r ⟨x', y', z, e1, e2, e3, q⟩ => WE.of (a := z) ?_ q) fun _ _ q => q)) fun _ _ q => q)
  unfold sem2R; rw [e1]
  show (drf r y).bind _ = _
  rw [e2]; exact e3
theorem w_lm {p : LM} {a b : E} (h : WE (pk a ρ (evE cf a ρ)) (fun x r1 => ∃ x0, drf r1 x = some x0 ∧ isLstD (some x0) = true ∧ WE (pk b r1 (evE cf b r1)) (fun y r => ∃ x' y' z, drf r x = some x' ∧ drf r y = some y' ∧ semLm p x' y' = some z ∧ Q z r) X) X) : WE (evE cf (.lm p a b) ρ) Q X := by
  unfold evE
  refine WE.bind (h.mono (fun x r ⟨x0, e0, e0', h⟩ => ?_) fun _ _ q => q)
  rw [if_pos (by rw [e0]; exact e0')]
  refine WE.bind (h.mono (fun y r ⟨x', y', z, e1, e2, e3, q⟩ => WE.of (a := z) ?_ q) fun _ _ q => q)
  rw [e1]
  show (drf r y).bind _ = _
  rw [e2]; exact e3
theorem w_chain {p p' : P2} {a b c : E} (h : WE (pk a ρ (evE cf a ρ)) (fun x r1 => WE (pk b r1 (evE cf b r1)) (fun y r => ∃ x' y' k, drf r x = some x' ∧ drf r y = some y' ∧ sem2 p x' y' = some (.bl k) ∧
    ((k = true → WE (pk c r (evE cf c r)) (fun z r3 => ∃ y3 z3 w, drf r3 y = some y3 ∧ drf r3 z = some z3 ∧ sem2 p' y3 z3 = some w ∧ Q w r3) X) ∧ (k = false → Q (.bl false) r))) X) X) : WE (evE cf (.chain p p' a b c) ρ) Q X := by
  unfold evE
  refine WE.bind (h.mono (fun x r h => WE.bind (h.mono (fun y r ⟨x', y', k, e1, e2, e3, q1, q2⟩ => ?_) fun _ _ q => q)) fun _ _ q => q)
  have e : sem2R p r x y = some (.bl k) := by
    unfold sem2R; rw [e1]
    show (drf r y).bind _ = _
    rw [e2]; exact e3
  rw [e]
  cases k with
  | false => exact q2 rfl
  | true =>
    refine WE.bind ((q1 rfl).mono (fun z r3 ⟨y3, z3, w, f1, f2, f3, q⟩ => WE.of (a := w) ?_ q) fun _ _ q => q)
    unfold sem2R; rw [f1]
    show (drf r3 z).bind _ = _
    rw [f2]; exact f3
theorem w_bop {k : Bool} {es : Es} (h : WE (evB cf k es ρ) Q X) : WE (evE cf (.bop k es) ρ) Q X := h
theorem w_b1 {k : Bool} {e : E} (h : WE (evE cf e ρ) Q X) : WE (evB cf k (.cons e .nil) ρ) Q X := by
  unfold evB; exact h
theorem w_b2 {k : Bool} {e e2 : E} {es : Es} (h : WE (evE cf e ρ) (fun d r => ∃ b, d = .bl b ∧ (b = k → WE (evB cf k (.cons e2 es) r) Q X) ∧ (b = (!k) → Q (.bl b) r)) X) : WE (evB cf k (.cons e (.cons e2 es)) ρ) Q X := by
  unfold evB
  refine WE.bind (h.mono (fun d r ⟨b, e, q1, q2⟩ => ?_) fun _ _ q => q)
  subst e
  dsimp only
  by_cases z : b = k
  · rw [if_pos z]; exact q1 z
  · rw [if_neg z]; exact q2 (by cases b <;> cases k <;> simp_all)
theorem w_ite {c : T} {a b : E} (h : WE (evT cf c ρ) (fun k r => (k = true → WE (evE cf a r) Q X) ∧ (k = false → WE (evE cf b r) Q X)) X) : WE (evE cf (.ite c a b) ρ) Q X := by
  unfold evE
  refine WE.bind (h.mono (fun k r ⟨q1, q2⟩ => ?_) fun _ _ q => q)
  cases k with
  | true => exact q1 rfl
  | false => exact q2 rfl
theorem w_tup {es : Es} (h : WE (evEs cf es ρ) (fun l r => l.length ≤ SZ ∧ Q (.tup l) r) X) : WE (evE cf (.tup es) ρ) Q X := by
  unfold evE
  refine WE.bind (h.mono (fun l r ⟨q1, q2⟩ => ?_) fun _ _ q => q)
  rw [if_pos q1]; exact q2
theorem w_lst {es : Es} (h : WE (evEs cf es ρ) (fun l r => l.length ≤ SZ ∧ Q (.lst l) r) X) : WE (evE cf (.lst es) ρ) Q X := by
  unfold evE
  refine WE.bind (h.mono (fun l r ⟨q1, q2⟩ => ?_) fun _ _ q => q)
  rw [if_pos q1]; exact q2
theorem w_nil {Q : List D → Env → Prop} (q : Q [] ρ) : WE (evEs cf .nil ρ) Q X := q
theorem w_cons {e : E} {es : Es} {Q : List D → Env → Prop} (h : WE (evE cf e ρ) (fun d r => WE (evEs cf es r) (fun l r => Q (d :: l) r) X) X) : WE (evEs cf (.cons e es) ρ) Q X := by
  unfold evEs
  exact WE.bind (h.mono (fun d r h => WE.bind h) fun _ _ q => q)
theorem w_onone {Q : Option Int → Env → Prop} (q : Q none ρ) : WE (evO cf .none ρ) Q X := q
theorem w_osome {e : E} {Q : Option Int → Env → Prop} (h : WE (evE cf e ρ) (fun d r => ∃ i, d = .int i ∧ Q (some i) r) X) : WE (evO cf (.some e) ρ) Q X := by
  unfold evO
  refine WE.bind (h.mono (fun d r ⟨i, e, q⟩ => ?_) fun _ _ q => q)
  subst e; exact q
theorem w_sl {nw : Bool} {a : E} {lo hi : Eo} (h : WE (pk a ρ (evE cf a ρ)) (fun x r => WE (evO cf lo r) (fun l r => WE (evO cf hi r) (fun h r => ∃ d z, drf r x = some d ∧ semSl nw d l h = some z ∧ Q z r) X) X) X) : WE (evE cf (.sl nw a lo hi) ρ) Q X := by
  unfold evE
  refine WE.bind (h.mono (fun x r h => WE.bind (h.mono (fun l r h => WE.bind (h.mono (fun hh r ⟨d, z, e1, e2, q⟩ => WE.of (a := z) ?_ q) fun _ _ q => q)) fun _ _ q => q)) fun _ _ q => q)
  rw [e1]; exact e2
theorem w_fld {cs : List String} {a : E} {f : String} (h : WE (pk a ρ (evE cf a ρ)) (fun x r => ∃ c ns vs z, drf r x = some (.ins c ns vs) ∧ cs.contains c = true ∧ fldOf f ns vs = some z ∧ Q z r) X) : WE (evE cf (.fld cs a f) ρ) Q X := by
  unfold evE
  refine WE.bind (h.mono (fun x r ⟨c, ns, vs, z, e1, e2, e3, q⟩ => ?_) fun _ _ q => q)
  rw [e1]
  dsimp only
  rw [if_pos e2]; exact WE.of e3 q
theorem w_isi {a : E} {t : Ty} (h : WE (pk a ρ (evE cf a ρ)) (fun x r => ∃ d k, drf r x = some d ∧ isT t d = some k ∧ Q (.bl k) r) X) : WE (evE cf (.isi a t) ρ) Q X := by
  unfold evE
  refine WE.bind (h.mono (fun x r ⟨d, k, e1, e2, q⟩ => WE.of (a := .bl k) ?_ q) fun _ _ q => q)
  rw [e1]; show (isT t d).map _ = _; rw [e2]; rfl
theorem w_pop {i : Nat} {b : Bool} {l : List D} {y : D} (h : get ρ i = .ow b (.lst (l ++ [y]))) (q : Q y (put ρ i (.ow b (.lst l)))) : WE (evE cf (.pop i) ρ) Q X := by
  unfold evE
  rw [h]
  simp only [List.getLast?_append, List.getLast?_singleton, List.dropLast_concat]
  exact q
theorem w_popAt {i : Nat} {a : E} (hl : isLs (get ρ i) = true) (h : WE (evE cf a ρ) (fun x r => ∃ b l k j y, get r i = .ow b (.lst l) ∧ x = .int k ∧ l.length ≤ SZ ∧ ixAt l.length k = some j ∧ l[j]? = some y ∧ Q y (put r i (.ow b (.lst (l.eraseIdx j))))) X) : WE (evE cf (.popAt i a) ρ) Q X := by
  unfold evE
  rw [if_pos hl]
  refine WE.bind (h.mono (fun x r ⟨b, l, k, j, y, e1, e2, e3, e4, e5, q⟩ => ?_) fun _ _ q => q)
  subst e2
  rw [e1]
  dsimp only
  rw [if_pos e3, e4]
  dsimp only
  rw [e5]; exact q
theorem w_lrng {tp : Bool} {a b : E} (h : WE (evE cf a ρ) (fun x r => WE (evE cf b r) (fun y r => ∃ i j, x = .int i ∧ y = .int j ∧ okR i j = true ∧ (j - i).toNat ≤ SZ ∧ Q (if tp then .tup (rangeL i j) else .lst (rangeL i j)) r) X) X) : WE (evE cf (.lrng tp a b) ρ) Q X := by
  unfold evE
  refine WE.bind (h.mono (fun x r h => WE.bind (h.mono (fun y r ⟨i, j, e1, e2, e3, e4, q⟩ => ?_) fun _ _ q => q)) fun _ _ q => q)
  subst e1; subst e2
  dsimp only
  rw [if_pos (by rw [e3, decide_eq_true e4]; rfl)]; exact q
theorem w_eqo {c : String} {ne : Bool} {a b : E} (h : WE (evE cf a ρ) (fun x r => WE (evE cf b r) (fun y r => ∃ n1 v1 n2 v2 k o, x = .ins c n1 v1 ∧ y = .ins c n2 v2 ∧ cf (c ++ ".__eq__") [.ins c n1 v1, .ins c n2 v2] = .ret (.bl k) o ∧ Q (.bl (k != ne)) r) X) X) : WE (evE cf (.eqo c ne a b) ρ) Q X := by
  unfold evE
  refine WE.bind (h.mono (fun x r h => WE.bind (h.mono (fun y r ⟨n1, v1, n2, v2, k, o, e1, e2, e3, q⟩ => ?_) fun _ _ q => q)) fun _ _ q => q)
  subst e1; subst e2
  unfold eqoR
  dsimp only
  rw [if_pos (by simp), e3]; exact q

/-! ### arguments, calls -/
theorem wa_nil {Q : List Ar → Env → Prop} (q : Q [] ρ) : WE (evAs cf [] .nil ρ) Q X := by
  unfold evAs; exact q
theorem wa_v {ms : List Bool} {e : E} {es : Es} {Q : List Ar → Env → Prop} (h : WE (evE cf e ρ) (fun d r => WE (evAs cf ms es r) (fun l r => Q (.v d :: l) r) X) X) : WE (evAs cf (false :: ms) (.cons e es) ρ) Q X := by
  unfold evAs
  refine WE.bind ?_
  unfold arg
  exact WE.bind (h.mono (fun d r h => WE.bind h) fun _ _ q => q)
theorem wa_r {ms : List Bool} {i : Nat} {b : Bool} {d : D} {es : Es} {Q : List Ar → Env → Prop} (g : get ρ i = .ow b d) (h : WE (evAs cf ms es ρ) (fun l r => Q (.r i :: l) r) X) : WE (evAs cf (true :: ms) (.cons (.var i) es) ρ) Q X := by
  unfold evAs
  refine WE.bind ?_
  unfold arg
  dsimp only
  rw [g]
  exact WE.bind h
theorem wa_t {ms : List Bool} {e : E} {es : Es} {Q : List Ar → Env → Prop} (hn : ∀ i, e ≠ .var i) (h : WE (evE cf e ρ) (fun d r => WE (evAs cf ms es r) (fun l r => Q (.t d :: l) r) X) X) : WE (evAs cf (true :: ms) (.cons e es) ρ) Q X := by
  unfold evAs
  refine WE.bind ?_
  unfold arg
  dsimp only
  split
  · next i => exact absurd rfl (hn i)
  · exact WE.bind (h.mono (fun d r h => WE.bind h) fun _ _ q => q)
theorem w_callA {f : String} {as : List Ar} {ds : List D} (h1 : nodupN (refs as) = true) (h2 : arDs ρ as = some ds) (h : WR (cf f ds) (fun d o => ∃ r, outTo as o ρ = some r ∧ Q d r) (fun x o => ∃ r, outTo as o ρ = some r ∧ X x r)) : WE (callA cf f as ρ) Q X := by
  unfold callA
  rw [h1, h2]
  dsimp only
  cases z : cf f ds with
  | ret d o =>
    rw [z] at h
    obtain ⟨r, e, q⟩ := h
    dsimp only
    rw [e]; exact q
  | exc x o =>
    rw [z] at h
    obtain ⟨r, e, q⟩ := h
    dsimp only
    rw [e]; exact q
  | no => rw [z] at h; exact h.elim
theorem w_call {f : String} {ms : List Bool} {nw : Bool} {es : Es} (h : WE (evAs cf ms es ρ) (fun as r0 => ∃ ds, nodupN (refs as) = true ∧ arDs r0 as = some ds ∧ WR (cf f ds) (fun d o => ∃ r, outTo as o r0 = some r ∧ Q d r) (fun x o => ∃ r, outTo as o r0 = some r ∧ X x r)) X) : WE (evE cf (.call f ms nw es) ρ) Q X := by
  unfold evE
  exact WE.bind (h.mono (fun as r0 ⟨ds, h1, h2, h⟩ => w_callA h1 h2 h) fun _ _ q => q)
theorem w_make {c : String} {ms : List Bool} {es : Es} (h : WE (evAs cf ms es ρ) (fun as r0 => ∃ ds, nodupN (refs as) = true ∧ arDs r0 as = some ds ∧ WR (cf (c ++ ".__init__") (.ins c [] [] :: ds)) (fun d o => d = .non ∧ ∃ s o' r, o = s :: o' ∧ outTo as o' r0 = some r ∧ Q s r) (fun x o => ∃ s o' r, o = s :: o' ∧ outTo as o' r0 = some r ∧ X x r)) X) : WE (evE cf (.make c ms es) ρ) Q X := by
  unfold evE
  refine WE.bind (h.mono (fun as r0 ⟨ds, h1, h2, h⟩ => ?_) fun _ _ q => q)
  rw [h1, h2]
  dsimp only
  cases z : cf (c ++ ".__init__") (.ins c [] [] :: ds) with
  | ret d o =>
    rw [z] at h
    obtain ⟨rfl, s, o', r, rfl, e, q⟩ := h
    dsimp only
    rw [e]; exact q
  | exc x o =>
    rw [z] at h
    obtain ⟨s, o', r, rfl, e, q⟩ := h
    dsimp only
    rw [e]; exact q
  | no => rw [z] at h; exact h.elim
/-- a method of an object that is not lent -/
theorem w_meth {cs : List String} {m : String} {ms : List Bool} {nw : Bool} {a : E} {es : Es} (h : WE (evE cf a ρ) (fun d r => ∃ c ns vs, d = .ins c ns vs ∧ (cs.contains c && !ns.contains m) = true ∧
    WE (evAs cf ms es r) (fun as r0 => ∃ ds, nodupN (refs as) = true ∧ arDs r0 as = some ds ∧ WR (cf (c ++ "." ++ m) (.ins c ns vs :: ds)) (fun d o => ∃ s o' r, o = s :: o' ∧ outTo as o' r0 = some r ∧ Q d r) (fun x o => ∃ s o' r, o = s :: o' ∧ outTo as o' r0 = some r ∧ X x r)) X) X) : WE (evE cf (.meth cs m (false :: ms) nw a es) ρ) Q X := by
  unfold evE
  simp only [List.headD_cons, List.tail_cons]
  unfold arg
  dsimp only
  refine WE.bind (WE.bind (h.mono (fun d r ⟨c, ns, vs, e, hc, h⟩ => ?_) fun _ _ q => q))
  subst e
  show WE (Ev.ok (Ar.v (D.ins c ns vs)) r) _ X
  unfold WE
  dsimp only [arD]
  rw [if_pos hc]
  refine WE.bind (h.mono (fun as r0 ⟨ds, h1, h2, h⟩ => ?_) fun _ _ q => q)
  refine w_callA (ds := .ins c ns vs :: ds) h1 (by unfold arDs; rw [h2]; rfl) ?_
  cases z : cf (c ++ "." ++ m) (.ins c ns vs :: ds) with
  | ret d o =>
    rw [z] at h
    obtain ⟨s, o', r, rfl, e, q⟩ := h
    exact ⟨r, e, q⟩
  | exc x o =>
    rw [z] at h
    obtain ⟨s, o', r, rfl, e, q⟩ := h
    exact ⟨r, e, q⟩
  | no => rw [z] at h; exact h.elim
/-- a method of an own object that is lent -/
theorem w_methR {cs : List String} {m : String} {ms : List Bool} {nw : Bool} {i : Nat} {b : Bool} {c : String} {ns : List String} {vs : List D} {es : Es} (g : get ρ i = .ow b (.ins c ns vs)) (hc : (cs.contains c && !ns.contains m) = true)
    (h : WE (evAs cf ms es ρ) (fun as r0 => ∃ ds, nodupN (refs (.r i :: as)) = true ∧ arDs r0 (.r i :: as) = some ds ∧ WR (cf (c ++ "." ++ m) ds) (fun d o => ∃ r, outTo (.r i :: as) o r0 = some r ∧ Q d r) (fun x o => ∃ r, outTo (.r i :: as) o r0 = some r ∧ X x r)) X) : WE (evE cf (.meth cs m (true :: ms) nw (.var i) es) ρ) Q X := by
  unfold evE
  simp only [List.headD_cons, List.tail_cons]
  unfold arg
  dsimp only
  rw [g]
  refine WE.bind ?_
  show WE (Ev.ok (Ar.r i) ρ) _ X
  unfold WE
  dsimp only [arD]
  rw [g]
  dsimp only
  rw [if_pos hc]
  exact WE.bind (h.mono (fun as r0 ⟨ds, h1, h2, h⟩ => w_callA h1 h2 h) fun _ _ q => q)
end

/-! ### tests -/
section
variable {cf : CF} {ρ : Env} {Q : Bool → Env → Prop} {X : Exn → Env → Prop}
theorem t_tr {e : E} (h : WE (pk e ρ (evE cf e ρ)) (fun x r => ∃ d k, drf r x = some d ∧ tru d = some k ∧ Q k r) X) : WE (evT cf (.tr e) ρ) Q X := by
  unfold evT
  refine WE.bind (h.mono (fun x r ⟨d, k, e1, e2, q⟩ => WE.of (a := k) ?_ q) fun _ _ q => q)
  rw [e1]; exact e2
theorem t_cmp {p : P2} {a b : E} (h : WE (pk a ρ (evE cf a ρ)) (fun x r1 => WE (pk b r1 (evE cf b r1)) (fun y r => ∃ x' y' k, drf r x = some x' ∧ drf r y = some y' ∧ sem2 p x' y' = some (.bl k) ∧ Q k r) X) X) : WE (evT cf (.cmp p a b) ρ) Q X := by
  unfold evT
  refine WE.bind (h.mono (fun x r h => WE.bind (h.mono (fun y r ⟨x', y', z, e1, e2, e3, q⟩ => ?_) fun _ _ q => q)) fun _ _ q => q)
  have e : sem2R p r x y = some (.bl z) := by
    unfold sem2R; rw [e1]
    show (drf r y).bind _ = _
    rw [e2]; exact e3
  rw [e]; exact q
theorem t_cmpN {ne : Bool} {a : E} (h : WE (pk a ρ (evE cf a ρ)) (fun x r => ∃ x' k, drf r x = some x' ∧ sem1 (if ne then .notN else .isN) x' = some (.bl k) ∧ Q k r) X) : WE (evT cf (.cmpN ne a) ρ) Q X := by
  unfold evT
  refine WE.bind (h.mono (fun x r ⟨x', z, e1, e2, q⟩ => ?_) fun _ _ q => q)
  have e : sem1R (if ne then .notN else .isN) r x = some (.bl z) := by unfold sem1R; rw [e1]; exact e2
  rw [e]; exact q
theorem t_chain {p p' : P2} {a b c : E} (h : WE (pk a ρ (evE cf a ρ)) (fun x r1 => WE (pk b r1 (evE cf b r1)) (fun y r => ∃ x' y' k, drf r x = some x' ∧ drf r y = some y' ∧ sem2 p x' y' = some (.bl k) ∧
    ((k = true → WE (pk c r (evE cf c r)) (fun z r3 => ∃ y3 z3 w, drf r3 y = some y3 ∧ drf r3 z = some z3 ∧ sem2 p' y3 z3 = some (.bl w) ∧ Q w r3) X) ∧ (k = false → Q false r))) X) X) : WE (evT cf (.chain p p' a b c) ρ) Q X := by
  unfold evT
  refine WE.bind (h.mono (fun x r h => WE.bind (h.mono (fun y r ⟨x', y', k, e1, e2, e3, q1, q2⟩ => ?_) fun _ _ q => q)) fun _ _ q => q)
  have e : sem2R p r x y = some (.bl k) := by
    unfold sem2R; rw [e1]
    show (drf r y).bind _ = _
    rw [e2]; exact e3
  rw [e]
  cases k with
  | false => exact q2 rfl
  | true =>
    refine WE.bind ((q1 rfl).mono (fun z r3 ⟨y3, z3, w, f1, f2, f3, q⟩ => ?_) fun _ _ q => q)
    have e : sem2R p' r3 y z = some (.bl w) := by
      unfold sem2R; rw [f1]
      show (drf r3 z).bind _ = _
      rw [f2]; exact f3
    rw [e]; exact q
theorem t_not {t : T} (h : WE (evT cf t ρ) (fun k r => Q (!k) r) X) : WE (evT cf (.not t) ρ) Q X := by
  unfold evT
  exact WE.bind (h.mono (fun k r q => q) fun _ _ q => q)
theorem t_bop {k : Bool} {ts : Ts} (h : WE (evTs cf k ts ρ) Q X) : WE (evT cf (.bop k ts) ρ) Q X := h
theorem t_nil {k : Bool} (q : Q k ρ) : WE (evTs cf k .nil ρ) Q X := q
theorem t_cons {k : Bool} {t : T} {ts : Ts} (h : WE (evT cf t ρ) (fun b r => (b = k → WE (evTs cf k ts r) Q X) ∧ (b = (!k) → Q b r)) X) : WE (evTs cf k (.cons t ts) ρ) Q X := by
  unfold evTs
  refine WE.bind (h.mono (fun b r ⟨q1, q2⟩ => ?_) fun _ _ q => q)
  by_cases z : b = k
  · rw [if_pos z]; exact q1 z
  · rw [if_neg z]; exact q2 (by cases b <;> cases k <;> simp_all)
theorem t_one {k : Bool} {t : T} (h : WE (evT cf t ρ) Q X) : WE (evTs cf k (.cons t .nil) ρ) Q X :=
  t_cons (h.mono (fun b r q => ⟨fun e => by subst e; exact q, fun _ => q⟩) fun _ _ q => q)
theorem t_eqo {c : String} {a b : E} (h : WE (evE cf a ρ) (fun x r => WE (evE cf b r) (fun y r => ∃ n1 v1 n2 v2 k o, x = .ins c n1 v1 ∧ y = .ins c n2 v2 ∧ cf (c ++ ".__eq__") [.ins c n1 v1, .ins c n2 v2] = .ret (.bl k) o ∧ Q k r) X) X) : WE (evT cf (.eqo c a b) ρ) Q X := by
  unfold evT
  refine WE.bind (WE.mono (WE.bind (h.mono (fun x r h => WE.bind (h.mono (fun y r ⟨n1, v1, n2, v2, k, o, e1, e2, e3, q⟩ => ?_) fun _ _ q => q)) fun _ _ q => q)) (fun d r (q : ∃ k, d = .bl k ∧ Q k r) => ?_) fun _ _ q => q)
  · subst e1; subst e2
    unfold eqoR
    dsimp only
    rw [if_pos (by simp), e3]
    exact ⟨k, by simp, q⟩
  · obtain ⟨k, rfl, q⟩ := q; exact q
end

/-! ### walks -/
section
variable {cf : CF} {ρ : Env} {Q : Wk → Env → Prop} {X : Exn → Env → Prop}
theorem i_seq {e : E} (h : WE (evE cf e ρ) (fun d r => ∃ l, (seqOf d = some l ∨ ∃ ns, d = .scr ns ∧ l = ns.map .int) ∧ Q ⟨l, none⟩ r) X) : WE (evI cf (.seq e) ρ) Q X := by
  unfold evI
  refine WE.bind (h.mono (fun d r ⟨l, e, q⟩ => ?_) fun _ _ q => q)
  rcases e with e | ⟨ns, rfl, rfl⟩
  · cases d <;> cases e <;> exact q
  · exact q
theorem i_seqL {e : E} (h : WE (evE cf e ρ) (fun d r => ∃ l, seqOf d = some l ∧ Q ⟨l, none⟩ r) X) : WE (evI cf (.seq e) ρ) Q X :=
  i_seq (h.mono (fun d r ⟨l, e, q⟩ => ⟨l, .inl e, q⟩) fun _ _ q => q)
theorem i_liveV {i : Nat} {d : D} {l : List D} (g : get ρ i = .va d) (e : seqOf d = some l) (q : Q ⟨l, none⟩ ρ) : WE (evI cf (.live i) ρ) Q X := by
  unfold evI
  rw [g]
  cases d <;> cases e <;> exact q
theorem i_liveO {i : Nat} {b : Bool} {l : List D} (g : get ρ i = .ow b (.lst l)) (q : Q ⟨l, some i⟩ ρ) : WE (evI cf (.live i) ρ) Q X := by
  unfold evI
  rw [g]; exact q
theorem i_rng1 {a : E} (h : WE (evE cf a ρ) (fun x r => ∃ j, x = .int j ∧ okR 0 j = true ∧ Q ⟨rangeL 0 j, none⟩ r) X) : WE (evI cf (.rng1 a) ρ) Q X := by
  unfold evI
  refine WE.bind (h.mono (fun d r ⟨j, e, k, q⟩ => ?_) fun _ _ q => q)
  subst e
  dsimp only
  rw [if_pos k]; exact q
theorem i_rng2 {a b : E} (h : WE (evE cf a ρ) (fun x r => WE (evE cf b r) (fun y r => ∃ i j, x = .int i ∧ y = .int j ∧ okR i j = true ∧ Q ⟨rangeL i j, none⟩ r) X) X) : WE (evI cf (.rng2 a b) ρ) Q X := by
  unfold evI
  refine WE.bind (h.mono (fun x r h => WE.bind (h.mono (fun y r ⟨i, j, e1, e2, k, q⟩ => ?_) fun _ _ q => q)) fun _ _ q => q)
  subst e1; subst e2
  dsimp only
  rw [if_pos k]; exact q
theorem i_rng3 {a b : E} {c : Int} (h : WE (evE cf a ρ) (fun x r => WE (evE cf b r) (fun y r => ∃ i j, x = .int i ∧ y = .int j ∧ okR i j = true ∧ Q ⟨range3L i j c, none⟩ r) X) X) : WE (evI cf (.rng3 a b c) ρ) Q X := by
  unfold evI
  refine WE.bind (h.mono (fun x r h => WE.bind (h.mono (fun y r ⟨i, j, e1, e2, k, q⟩ => ?_) fun _ _ q => q)) fun _ _ q => q)
  subst e1; subst e2
  dsimp only
  rw [if_pos k]; exact q
theorem i_enum {e : E} (h : WE (evE cf e ρ) (fun d r => ∃ l, seqOf d = some l ∧ Q ⟨enumD 0 l, none⟩ r) X) : WE (evI cf (.enum e) ρ) Q X := by
  unfold evI
  refine WE.bind (h.mono (fun d r ⟨l, e, q⟩ => ?_) fun _ _ q => q)
  rw [e]; exact q
theorem i_zip {a b : E} (h : WE (evE cf a ρ) (fun x r => WE (evE cf b r) (fun y r => ∃ l m, seqOf x = some l ∧ seqOf y = some m ∧ Q ⟨zipD l m, none⟩ r) X) X) : WE (evI cf (.zip a b) ρ) Q X := by
  unfold evI
  refine WE.bind (h.mono (fun x r h => WE.bind (h.mono (fun y r ⟨l, m, e1, e2, q⟩ => ?_) fun _ _ q => q)) fun _ _ q => q)
  rw [e1, e2]; exact q
theorem i_rev {e : E} (h : WE (evE cf e ρ) (fun d r => ∃ l, seqOf d = some l ∧ Q ⟨l.reverse, none⟩ r) X) : WE (evI cf (.rev e) ρ) Q X := by
  unfold evI
  refine WE.bind (h.mono (fun d r ⟨l, e, q⟩ => ?_) fun _ _ q => q)
  rw [e]; exact q
end
end CW.Z

set_option linter.all false
/-! Rules for statements, loops, comprehensions, defs. -/
namespace CW.Z

/-! ### statements -/
section
variable {cf : CF} {Y : Ex} {ρ : Env} {N : Env → Prop} {R : D → Env → Prop} {B C : Env → Prop} {X : Exn → Env → Prop}
theorem s_nil (q : N ρ) : WO (evSs cf Y .nil ρ) N R B C X := q
theorem s_cons {s : S} {ss : Ss} (h : WO (evS cf Y s ρ) (fun r => WO (evSs cf Y ss r) N R B C X) R B C X) : WO (evSs cf Y (.cons s ss) ρ) N R B C X := by
  unfold evSs
  cases z : evS cf Y s ρ <;> rw [z] at h <;> exact h
theorem s_cut {s : S} {ss : Ss} (M : Env → Prop) (h1 : WO (evS cf Y s ρ) M R B C X) (h2 : ∀ r, M r → WO (evSs cf Y ss r) N R B C X) : WO (evSs cf Y (.cons s ss) ρ) N R B C X :=
  s_cons (h1.mono h2 (fun _ _ q => q) (fun _ q => q) (fun _ q => q) fun _ _ q => q)
theorem s_set {i : Nat} {e : E} (h : WE (evE cf e ρ) (fun d r => free (get r i) = true ∧ N (put r i (.va d))) X) : WO (evS cf Y (.set i e) ρ) N R B C X := by
  unfold evS
  refine WE.out (h.mono (fun d r ⟨e, q⟩ => ?_) fun _ _ q => q)
  rw [if_pos e]; exact q
theorem s_setN {i : Nat} {e : E} (h : WE (evE cf e ρ) (fun d r => free (get r i) = true ∧ N (put r i (.ow false d))) X) : WO (evS cf Y (.setN i e) ρ) N R B C X := by
  unfold evS
  refine WE.out (h.mono (fun d r ⟨e, q⟩ => ?_) fun _ _ q => q)
  rw [if_pos e]; exact q
theorem s_par {i j : Nat} {a b : E} (h : WE (evE cf a ρ) (fun x r => WE (evE cf b r) (fun y r => free (get r i) = true ∧ free (get r j) = true ∧ N (put (put r i (.va x)) j (.va y))) X) X) : WO (evS cf Y (.par i j a b) ρ) N R B C X := by
  unfold evS
  refine WE.out (h.mono (fun x r h => WE.out (h.mono (fun y r ⟨e1, e2, q⟩ => ?_) fun _ _ q => q)) fun _ _ q => q)
  rw [if_pos (by rw [e1, e2]; rfl)]; exact q
theorem s_unp {g : Tg} {e : E} (h : WE (evE cf e ρ) (fun d r => ∃ r', setTg g d r = some r' ∧ N r') X) : WO (evS cf Y (.unp g e) ρ) N R B C X := by
  unfold evS
  refine WE.out (h.mono (fun d r ⟨r', e, q⟩ => ?_) fun _ _ q => q)
  rw [e]; exact q
theorem s_setix {i : Nat} {k v : E} (h : WE (evE cf v ρ) (fun y r => isLs (get r i) = true ∧ WE (evE cf k r) (fun x r => ∃ b l n l', get r i = .ow b (.lst l) ∧ x = .int n ∧ setL l n y = some l' ∧ N (put r i (.ow b (.lst l')))) X) X) : WO (evS cf Y (.setix i k v) ρ) N R B C X := by
  unfold evS
  refine WE.out (h.mono (fun y r ⟨e, h⟩ => ?_) fun _ _ q => q)
  rw [if_pos e]
  refine WE.out (h.mono (fun x r ⟨b, l, n, l', e1, e2, e3, q⟩ => ?_) fun _ _ q => q)
  subst e2
  rw [e1]
  dsimp only
  rw [e3]; exact q
theorem s_swap {i : Nat} {k1 k2 v1 v2 : E} (h : WE (evE cf v1 ρ) (fun y1 r => WE (evE cf v2 r) (fun y2 r => isLs (get r i) = true ∧ WE (evE cf k1 r) (fun x r => ∃ b l n l', get r i = .ow b (.lst l) ∧ x = .int n ∧ setL l n y1 = some l' ∧
    WE (evE cf k2 (put r i (.ow b (.lst l')))) (fun x r => ∃ b l n l', get r i = .ow b (.lst l) ∧ x = .int n ∧ setL l n y2 = some l' ∧ N (put r i (.ow b (.lst l')))) X) X) X) X) : WO (evS cf Y (.swap i k1 k2 v1 v2) ρ) N R B C X := by
  unfold evS
  refine WE.out (h.mono (fun y1 r h => WE.out (h.mono (fun y2 r ⟨e, h⟩ => ?_) fun _ _ q => q)) fun _ _ q => q)
  rw [if_pos e]
  refine WE.out (h.mono (fun x r ⟨b, l, n, l', e1, e2, e3, h⟩ => ?_) fun _ _ q => q)
  subst e2
  rw [e1]
  dsimp only
  rw [e3]
  refine WE.out (h.mono (fun x r ⟨b, l, n, l', e1, e2, e3, q⟩ => ?_) fun _ _ q => q)
  subst e2
  rw [e1]
  dsimp only
  rw [e3]; exact q
theorem s_setf {i : Nat} {cs : List String} {f : String} {e : E} (h : WE (evE cf e ρ) (fun d r => ∃ b c ns vs, get r i = .ow b (.ins c ns vs) ∧ cs.contains c = true ∧ ns.length < 1000 ∧ ns.length = vs.length ∧ N (put r i (.ow b (.ins c (putF f d ns vs).1 (putF f d ns vs).2)))) X) : WO (evS cf Y (.setf i cs f e) ρ) N R B C X := by
  unfold evS
  refine WE.out (h.mono (fun d r ⟨b, c, ns, vs, e1, e2, e3, e4, q⟩ => ?_) fun _ _ q => q)
  rw [e1]
  dsimp only
  rw [if_pos (by rw [e2, decide_eq_true e3, decide_eq_true e4]; rfl)]; exact q
theorem s_app {i : Nat} {e : E} (hl : isLs (get ρ i) = true) (h : WE (evE cf e ρ) (fun d r => ∃ b l, get r i = .ow b (.lst l) ∧ l.length < SZ ∧ N (put r i (.ow b (.lst (l ++ [d]))))) X) : WO (evS cf Y (.app i e) ρ) N R B C X := by
  unfold evS
  rw [if_pos hl]
  refine WE.out (h.mono (fun d r ⟨b, l, e1, e2, q⟩ => ?_) fun _ _ q => q)
  rw [e1]
  dsimp only
  rw [if_pos e2]; exact q
theorem s_ext {i : Nat} {e : E} (hl : isLs (get ρ i) = true) (h : WE (evE cf e ρ) (fun d r => ∃ b l m, get r i = .ow b (.lst l) ∧ d = .lst m ∧ l.length + m.length ≤ SZ ∧ N (put r i (.ow b (.lst (l ++ m))))) X) : WO (evS cf Y (.ext i e) ρ) N R B C X := by
  unfold evS
  rw [if_pos hl]
  refine WE.out (h.mono (fun d r ⟨b, l, m, e1, e2, e3, q⟩ => ?_) fun _ _ q => q)
  subst e2
  rw [e1]
  dsimp only
  rw [if_pos e3]; exact q
theorem s_ins0 {i : Nat} {e : E} (hl : isLs (get ρ i) = true) (h : WE (evE cf e ρ) (fun d r => ∃ b l, get r i = .ow b (.lst l) ∧ l.length < SZ ∧ N (put r i (.ow b (.lst (d :: l))))) X) : WO (evS cf Y (.ins0 i e) ρ) N R B C X := by
  unfold evS
  rw [if_pos hl]
  refine WE.out (h.mono (fun d r ⟨b, l, e1, e2, q⟩ => ?_) fun _ _ q => q)
  rw [e1]
  dsimp only
  rw [if_pos e2]; exact q
theorem s_rvs {i : Nat} {b : Bool} {l : List D} (h : get ρ i = .ow b (.lst l)) (q : N (put ρ i (.ow b (.lst l.reverse)))) : WO (evS cf Y (.rvs i) ρ) N R B C X := by
  unfold evS
  rw [h]; exact q
theorem s_exp {e : E} (h : WE (evE cf e ρ) (fun _ r => N r) X) : WO (evS cf Y (.exp e) ρ) N R B C X := by
  unfold evS
  exact WE.out (h.mono (fun d r q => q) fun _ _ q => q)
theorem s_ret {e : E} (h : WE (evE cf e ρ) (fun d r => R d r) X) : WO (evS cf Y (.ret e) ρ) N R B C X := by
  unfold evS
  exact WE.out (h.mono (fun d r q => q) fun _ _ q => q)
theorem s_retNv {i : Nat} {d : D} (h : get ρ i = .ow false d) (q : R d (put ρ i .un)) : WO (evS cf Y (.retN (.var i)) ρ) N R B C X := by
  unfold evS
  dsimp only
  rw [h]; exact q
theorem s_retN {e : E} (hn : ∀ i, e ≠ .var i) (h : WE (evE cf e ρ) (fun d r => R d r) X) : WO (evS cf Y (.retN e) ρ) N R B C X := by
  unfold evS
  split
  · next i => exact absurd rfl (hn i)
  · exact WE.out (h.mono (fun d r q => q) fun _ _ q => q)
theorem s_ret0 (q : R .non ρ) : WO (evS cf Y .ret0 ρ) N R B C X := q
theorem s_ifs {c : T} {a b : Ss} (h : WE (evT cf c ρ) (fun k r => (k = true → WO (evSs cf Y a r) N R B C X) ∧ (k = false → WO (evSs cf Y b r) N R B C X)) X) : WO (evS cf Y (.ifs c a b) ρ) N R B C X := by
  unfold evS
  refine WE.out (h.mono (fun k r ⟨q1, q2⟩ => ?_) fun _ _ q => q)
  cases k with
  | true => exact q1 rfl
  | false => exact q2 rfl
theorem s_rse {c : String} {e : E} (h : WE (evE cf e ρ) (fun d r => X ⟨c, d⟩ r) X) : WO (evS cf Y (.rse c e) ρ) N R B C X := by
  unfold evS
  exact WE.out (h.mono (fun d r q => q) fun _ _ q => q)
theorem s_pass (q : N ρ) : WO (evS cf Y .pass ρ) N R B C X := q
theorem s_brk (q : B ρ) : WO (evS cf Y .brk ρ) N R B C X := q
theorem s_cnt (q : C ρ) : WO (evS cf Y .cnt ρ) N R B C X := q
theorem s_try {i : Nat} {a : Ss} {hs : Hs} (h : WO (evSs cf Y a ρ) N R B C fun x r => Y.cls.contains x.cls = true ∧ free (get r i) = true ∧ WO (evH cf Y x hs (put r i .un)) N R B C X) : WO (evS cf Y (.try_ i a hs) ρ) N R B C X := by
  unfold evS
  cases z : evSs cf Y a ρ with
  | ex x r =>
    rw [z] at h
    obtain ⟨e1, e2, q⟩ := h
    dsimp only
    rw [if_pos (by rw [e1, e2]; rfl)]; exact q
  | _ => rw [z] at h; exact h
theorem h_hit {x : Exn} {c : String} {e : E} {hs : Hs} (hc : Y.sub x.cls c = true) (h : WE (evE cf e ρ) (fun d r => R d r) X) : WO (evH cf Y x (.cons c e hs) ρ) N R B C X := by
  unfold evH
  rw [if_pos hc]
  exact WE.out (h.mono (fun d r q => q) fun _ _ q => q)
theorem h_miss {x : Exn} {c : String} {e : E} {hs : Hs} (hc : Y.sub x.cls c = false) (h : WO (evH cf Y x hs ρ) N R B C X) : WO (evH cf Y x (.cons c e hs) ρ) N R B C X := by
  unfold evH
  rw [if_neg (by rw [hc]; decide)]; exact h
end

/-! ### loops -/
theorem WO.mapR {m : Out} {f : Env → Env} {N : Env → Prop} {R : D → Env → Prop} {B C : Env → Prop} {X : Exn → Env → Prop} (h : WO m (fun r => N (f r)) (fun d r => R d (f r)) (fun r => B (f r)) (fun r => C (f r)) (fun x r => X x (f r))) : WO (m.mapR f) N R B C X := by
  cases m <;> exact h
/-- a loop over items, by what holds before each turn -/
theorem forLoop_ok {g : Tg} {body : Env → Out} {N : Env → Prop} {R : D → Env → Prop} {B C : Env → Prop} {X : Exn → Env → Prop} : ∀ (items : List D) (I : List D → Env → Prop) (ρ : Env), I items ρ →
    (∀ d ds r, I (d :: ds) r → ∃ r1, setTg g d r = some r1 ∧ WO (body r1) (I ds) R N (I ds) X) → (∀ r, I [] r → N r) → WO (forLoop g body items ρ) N R B C X
  | [], I, ρ, h, _, he => he ρ h
  | d :: ds, I, ρ, h, hs, he => by
    obtain ⟨r1, e, q⟩ := hs d ds ρ h
    unfold forLoop
    rw [e]
    dsimp only
    cases z : body r1 with
    | nx r => rw [z] at q; exact forLoop_ok ds I r q hs he
    | ct r => rw [z] at q; exact forLoop_ok ds I r q hs he
    | bk r => rw [z] at q; exact q
    | rt d r => rw [z] at q; exact q
    | ex x r => rw [z] at q; exact q
    | no => rw [z] at q; exact q.elim
/-- the same for typed items: what is done, what is left -/
theorem forLoop_pre {α : Type} {g : Tg} {body : Env → Out} {N : Env → Prop} {R : D → Env → Prop} {B C : Env → Prop} {X : Exn → Env → Prop} (enc : α → D) (l : List α) (I : List α → Env → Prop) (ρ : Env) (h0 : I [] ρ)
    (hs : ∀ pre x post r, l = pre ++ x :: post → I pre r → ∃ r1, setTg g (enc x) r = some r1 ∧ WO (body r1) (I (pre ++ [x])) R N (I (pre ++ [x])) X) (he : ∀ r, I l r → N r) : WO (forLoop g body (l.map enc) ρ) N R B C X := by
  refine forLoop_ok (l.map enc) (fun ds r => ∃ pre post, l = pre ++ post ∧ ds = post.map enc ∧ I pre r) ρ ⟨[], l, rfl, rfl, h0⟩ ?_ ?_
  · rintro d ds r ⟨pre, post, e1, e2, hI⟩
    cases post with
    | nil => cases e2
    | cons x post =>
      cases e2
      obtain ⟨r1, e, q⟩ := hs pre x post r e1 hI
      exact ⟨r1, e, q.mono (fun r q => ⟨pre ++ [x], post, by simp [e1], rfl, q⟩) (fun _ _ q => q) (fun _ q => q) (fun r q => ⟨pre ++ [x], post, by simp [e1], rfl, q⟩) fun _ _ q => q⟩
  · rintro r ⟨pre, post, e1, e2, hI⟩
    cases post with
    | nil => rw [List.append_nil] at e1; subst e1; exact he r hI
    | cons _ _ => cases e2
section
variable {cf : CF} {Y : Ex} {ρ : Env} {N : Env → Prop} {R : D → Env → Prop} {B C : Env → Prop} {X : Exn → Env → Prop}
/-- a for loop over a walk -/
def FL (cf : CF) (Y : Ex) (g : Tg) (a : Ss) (w : Wk) (r : Env) (N : Env → Prop) (R : D → Env → Prop) (B C : Env → Prop) (X : Exn → Env → Prop) : Prop :=
  WO (forLoop g (evSs cf Y a) w.items (lockW r w.lock)) (fun r => N (unlockW r w.lock)) (fun d r => R d (unlockW r w.lock)) (fun r => B (unlockW r w.lock)) (fun r => C (unlockW r w.lock)) (fun x r => X x (unlockW r w.lock))
theorem s_for {g : Tg} {it : It} {a : Ss} (h : WE (evI cf it ρ) (fun w r => FL cf Y g a w r N R B C X) X) : WO (evS cf Y (.for_ g it a) ρ) N R B C X := by
  unfold evS
  exact WE.out (h.mono (fun w r q => WO.mapR q) fun _ _ q => q)
/-- by what holds before each turn: what is done, the env -/
theorem fl_pre {α : Type} {g : Tg} {a : Ss} {enc : α → D} {l : List α} {r : Env} {its : List D} (hi : its = l.map enc) (I : List α → Env → Prop) (h0 : I [] r)
    (hs : ∀ pre x post r, l = pre ++ x :: post → I pre r → ∃ r1, setTg g (enc x) r = some r1 ∧ WO (evSs cf Y a r1) (I (pre ++ [x])) R N (I (pre ++ [x])) X) (he : ∀ r, I l r → N r) : FL cf Y g a ⟨its, none⟩ r N R B C X := by
  subst hi
  exact forLoop_pre enc l I r h0 hs he
theorem fl_lk {α : Type} {g : Tg} {a : Ss} {enc : α → D} {l : List α} {r : Env} {i : Nat} {its : List D} (hi : its = l.map enc) (I : List α → Env → Prop) (h0 : I [] (lockW r (some i)))
    (hs : ∀ pre x post r, l = pre ++ x :: post → I pre r → ∃ r1, setTg g (enc x) r = some r1 ∧ WO (evSs cf Y a r1) (I (pre ++ [x])) (fun d r => R d (unlockW r (some i))) (fun r => N (unlockW r (some i))) (I (pre ++ [x])) (fun x r => X x (unlockW r (some i)))) (he : ∀ r, I l r → N (unlockW r (some i))) : FL cf Y g a ⟨its, some i⟩ r N R B C X := by
  subst hi
  exact forLoop_pre (N := fun r => N (unlockW r (some i))) (R := fun d r => R d (unlockW r (some i))) (X := fun x r => X x (unlockW r (some i))) enc l I _ h0 hs he
/-- a while by what holds before each test, what grows less -/
theorem whileLoop_ok {c : Env → Ev Bool} {body : Env → Out} {α : Type} (I : α → Env → Prop) (m : α → Nat) : ∀ (n : Nat) (a : α) (ρ : Env), m a < n → I a ρ →
    (∀ a r, I a r → WE (c r) (fun k r1 => (k = true → WO (body r1) (fun r => ∃ b, m b < m a ∧ I b r) R N (fun r => ∃ b, m b < m a ∧ I b r) X) ∧ (k = false → N r1)) X) → WO (whileLoop c body n ρ) N R B C X
  | 0, a, ρ, hm, _, _ => absurd hm (Nat.not_lt_zero _)
  | n + 1, a, ρ, hm, h, hs => by
    unfold whileLoop
    refine WE.out ((hs a ρ h).mono (fun k r1 ⟨q1, q2⟩ => ?_) fun _ _ q => q)
    cases k with
    | false => exact q2 rfl
    | true =>
      have q := q1 rfl
      rw [if_pos rfl]
      cases z : body r1 with
      | nx r =>
        rw [z] at q
        obtain ⟨b, hb, hi⟩ := q
        exact whileLoop_ok I m n b r (by omega) hi hs
      | ct r =>
        rw [z] at q
        obtain ⟨b, hb, hi⟩ := q
        exact whileLoop_ok I m n b r (by omega) hi hs
      | bk r => rw [z] at q; exact q
      | rt d r => rw [z] at q; exact q
      | ex x r => rw [z] at q; exact q
      | no => rw [z] at q; exact q.elim
theorem s_whl {c : T} {bd : Ss} {α : Type} (I : α → Env → Prop) (m : α → Nat) (x : α) (hm : m x < WF) (h0 : I x ρ)
    (hs : ∀ a r, I a r → WE (evT cf c r) (fun k r1 => (k = true → WO (evSs cf Y bd r1) (fun r => ∃ b, m b < m a ∧ I b r) R N (fun r => ∃ b, m b < m a ∧ I b r) X) ∧ (k = false → N r1)) X) : WO (evS cf Y (.whl c bd) ρ) N R B C X := by
  unfold evS
  exact whileLoop_ok I m WF x ρ hm h0 hs
end

/-! ### comprehensions -/
theorem q_get_put : ∀ (ρ : Env) (i : Nat) (s : Sl), i < ρ.length → get (put ρ i s) i = s
  | [], _, _, h => absurd h (Nat.not_lt_zero _)
  | _ :: _, 0, _, _ => rfl
  | _ :: r, i + 1, s, h => q_get_put r i s (Nat.lt_of_succ_lt_succ h)
theorem q_get_put_ne : ∀ (ρ : Env) (i j : Nat) (s : Sl), i ≠ j → get (put ρ i s) j = get ρ j
  | [], _, _, _, _ => rfl
  | _ :: _, 0, 0, _, h => absurd rfl h
  | _ :: _, 0, _ + 1, _, _ => rfl
  | _ :: _, _ + 1, 0, _, _ => rfl
  | _ :: r, i + 1, j + 1, s, h => q_get_put_ne r i j s fun e => h (by rw [e])
theorem q_put_len : ∀ (ρ : Env) (i : Nat) (s : Sl), (put ρ i s).length = ρ.length
  | [], _, _ => rfl
  | _ :: _, 0, _ => rfl
  | _ :: r, i + 1, s => congrArg Nat.succ (q_put_len r i s)
theorem q_env_ext : ∀ {a b : Env}, a.length = b.length → (∀ i, i < a.length → get a i = get b i) → a = b
  | [], [], _, _ => rfl
  | [], _ :: _, h, _ => by cases h
  | _ :: _, [], h, _ => by cases h
  | x :: a, y :: b, h, g => by
    have h0 : x = y := g 0 (Nat.zero_lt_succ _)
    rw [h0, q_env_ext (Nat.succ.inj h) fun i hi => g (i + 1) (Nat.succ_lt_succ hi)]
theorem q_puts_len : ∀ (own : List Nat) (ρ : Env), (puts ρ own).length = ρ.length
  | [], _ => rfl
  | i :: is, ρ => by show (put _ _ _).length = _; rw [q_put_len, q_puts_len is]
theorem q_get_puts : ∀ (own : List Nat) (ρ : Env) (i : Nat), i ∉ own → get (puts ρ own) i = get ρ i
  | [], _, _, _ => rfl
  | j :: js, ρ, i, h => by
    show get (put _ _ _) _ = _
    rw [q_get_put_ne _ _ _ _ (fun e => h (by rw [e]; exact List.mem_cons_self)), q_get_puts js ρ i fun m => h (List.mem_cons_of_mem _ m)]
theorem q_back_len : ∀ (own : List Nat) (r0 r : Env), (back r0 r own).length = r.length
  | [], _, _ => rfl
  | i :: is, r0, r => by show (put _ _ _).length = _; rw [q_put_len, q_back_len is]
theorem q_get_back : ∀ (own : List Nat) (r0 r : Env) (i : Nat), i < r.length → get (back r0 r own) i = if i ∈ own then get r0 i else get r i
  | [], _, _, _, _ => rfl
  | j :: js, r0, r, i, h => by
    show get (put _ _ _) _ = _
    by_cases e : j = i
    · subst e
      rw [q_get_put _ _ _ (by rw [q_back_len]; exact h), if_pos List.mem_cons_self]
    · rw [q_get_put_ne _ _ _ _ e, q_get_back js r0 r i h]
      have : i ∈ j :: js ↔ i ∈ js := by simp [Ne.symm (fun h => e h.symm), show ¬ i = j from fun h => e h.symm]
      by_cases m : i ∈ js
      · rw [if_pos m, if_pos (this.mpr m)]
      · rw [if_neg m, if_neg (fun h => m (this.mp h))]
theorem back_same {own : List Nat} {r0 r : Env} (h : puts r own = puts r0 own) : back r0 r own = r0 := by
  have hl : r.length = r0.length := by rw [← q_puts_len own r, h, q_puts_len]
  refine q_env_ext (by rw [q_back_len, hl]) fun i hi => ?_
  rw [q_back_len] at hi
  rw [q_get_back own r0 r i hi]
  by_cases m : i ∈ own
  · rw [if_pos m]
  · rw [if_neg m, ← q_get_puts own r i m, h, q_get_puts own r0 i m]
/-- a comprehension whose turns change nothing but its own names -/
theorem lcLoop_map {α : Type} {g : Tg} {own : List Nat} {cond : Env → Ev Bool} {elt : Env → Ev D} (enc : α → D) (c : α → Bool) (f : α → D) (P : Env) : ∀ (l : List α) (ρ : Env) (acc : List D), puts ρ own = P → acc.length + l.length ≤ SZ →
    (∀ x ∈ l, ∃ r1, setTg g (enc x) P = some r1 ∧ puts r1 own = P ∧ WE (cond r1) (fun k r => k = c x ∧ r = r1) (fun _ _ => False) ∧ (c x = true → WE (elt r1) (fun d r => d = f x ∧ r = r1) fun _ _ => False)) →
    ∃ ρ', lcLoop g own cond elt (l.map enc) ρ acc = .ok (acc ++ (l.filter c).map f) ρ' ∧ puts ρ' own = P
  | [], ρ, acc, hp, _, _ => ⟨ρ, by simp [lcLoop], hp⟩
  | x :: l, ρ, acc, hp, hl, h => by
    obtain ⟨r1, e1, e2, hc, hf⟩ := h x List.mem_cons_self
    have hl' : acc.length + (l.length + 1) ≤ SZ := hl
    rw [List.map_cons]
    unfold lcLoop
    rw [hp, e1]
    dsimp only
    rw [hc.eq]
    cases z : c x with
    | false =>
      obtain ⟨ρ', e, q⟩ := lcLoop_map enc c f P l r1 acc e2 (by omega) fun y hy => h y (List.mem_cons_of_mem _ hy)
      refine ⟨ρ', ?_, q⟩
      dsimp only
      rw [e, List.filter_cons_of_neg (by rw [z]; decide)]
    | true =>
      obtain ⟨ρ', e, q⟩ := lcLoop_map enc c f P l r1 (acc ++ [f x]) e2 (by simp; omega) fun y hy => h y (List.mem_cons_of_mem _ hy)
      refine ⟨ρ', ?_, q⟩
      dsimp only
      rw [(hf z).eq]
      dsimp only
      rw [if_pos (by omega), e, List.filter_cons_of_pos z]
      simp
/-- a comprehension over a walk -/
def LC (cf : CF) (g : Tg) (own : List Nat) (cs : Ts) (elt : E) (w : Wk) (r : Env) (Q : D → Env → Prop) (X : Exn → Env → Prop) : Prop :=
  WE (lcLoop g own (evTs cf true cs) (evE cf elt) w.items (lockW r w.lock) []) (fun ds r2 => Q (.lst ds) (unlockW (back (lockW r w.lock) r2 own) w.lock)) X
section
variable {cf : CF} {ρ : Env} {Q : D → Env → Prop} {X : Exn → Env → Prop}
theorem w_lc {elt : E} {g : Tg} {own : List Nat} {it : It} {cs : Ts} (h : WE (evI cf it ρ) (fun w r => LC cf g own cs elt w r Q X) X) : WE (evE cf (.lc elt g own it cs) ρ) Q X := by
  unfold evE
  exact WE.bind (h.mono (fun w r h => WE.bind (h.mono (fun ds r q => q) fun _ _ q => q)) fun _ _ q => q)
theorem lc_mapL {α : Type} {elt : E} {g : Tg} {own : List Nat} {cs : Ts} {enc : α → D} {l : List α} {lk : Option Nat} {its : List D} (hi : its = l.map enc) (P : Env) (hP : puts (lockW ρ lk) own = P) (hk : unlockW (lockW ρ lk) lk = ρ) (c : α → Bool) (f : α → D) (hl : l.length ≤ SZ)
    (h : ∀ x ∈ l, ∃ r1, setTg g (enc x) P = some r1 ∧ puts r1 own = P ∧ WE (evTs cf true cs r1) (fun k r => k = c x ∧ r = r1) (fun _ _ => False) ∧ (c x = true → WE (evE cf elt r1) (fun d r => d = f x ∧ r = r1) fun _ _ => False))
    (q : Q (.lst ((l.filter c).map f)) ρ) : LC cf g own cs elt ⟨its, lk⟩ ρ Q X := by
  subst hi
  obtain ⟨ρ', e, hp⟩ := lcLoop_map enc c f (puts (lockW ρ lk) own) l (lockW ρ lk) [] rfl (by simpa using hl) (by rw [hP]; exact h)
  unfold LC
  dsimp only
  rw [e, List.nil_append]
  show Q _ _
  rw [back_same hp, hk]
  exact q
/-- a comprehension whose turns change nothing; P: the env with its own names free; enc2: how its results are written -/
theorem lc_mapK {α β : Type} {elt : E} {g : Tg} {own : List Nat} {cs : Ts} {enc : α → D} {l : List α} {lk : Option Nat} {its : List D} (hi : its = l.map enc) (P : Env) (hP : puts (lockW ρ lk) own = P) (hk : unlockW (lockW ρ lk) lk = ρ) (c : α → Bool) (enc2 : β → D) (f : α → β) (hl : l.length ≤ SZ)
    (h : ∀ x ∈ l, ∃ r1, setTg g (enc x) P = some r1 ∧ puts r1 own = P ∧ WE (evTs cf true cs r1) (fun k r => k = c x ∧ r = r1) (fun _ _ => False) ∧ (c x = true → WE (evE cf elt r1) (fun d r => d = enc2 (f x) ∧ r = r1) fun _ _ => False))
    (q : Q (.lst (((l.filter c).map f).map enc2)) ρ) : LC cf g own cs elt ⟨its, lk⟩ ρ Q X :=
  lc_mapL hi P hP hk c (fun x => enc2 (f x)) hl h (by rw [List.map_map] at q; exact q)
theorem lc_map {α β : Type} {elt : E} {g : Tg} {own : List Nat} {cs : Ts} {enc : α → D} {l : List α} {its : List D} (hi : its = l.map enc) (P : Env) (hP : puts ρ own = P) (c : α → Bool) (enc2 : β → D) (f : α → β) (hl : l.length ≤ SZ)
    (h : ∀ x ∈ l, ∃ r1, setTg g (enc x) P = some r1 ∧ puts r1 own = P ∧ WE (evTs cf true cs r1) (fun k r => k = c x ∧ r = r1) (fun _ _ => False) ∧ (c x = true → WE (evE cf elt r1) (fun d r => d = enc2 (f x) ∧ r = r1) fun _ _ => False))
    (q : Q (.lst (((l.filter c).map f).map enc2)) ρ) : LC cf g own cs elt ⟨its, none⟩ ρ Q X := lc_mapK hi P hP rfl c enc2 f hl h q
theorem lc_allK {α β : Type} {elt : E} {g : Tg} {own : List Nat} {enc : α → D} {l : List α} {lk : Option Nat} {its : List D} (hi : its = l.map enc) (P : Env) (hP : puts (lockW ρ lk) own = P) (hk : unlockW (lockW ρ lk) lk = ρ) (enc2 : β → D) (f : α → β) (hl : l.length ≤ SZ)
    (h : ∀ x ∈ l, ∃ r1, setTg g (enc x) P = some r1 ∧ puts r1 own = P ∧ WE (evE cf elt r1) (fun d r => d = enc2 (f x) ∧ r = r1) fun _ _ => False)
    (q : Q (.lst ((l.map f).map enc2)) ρ) : LC cf g own .nil elt ⟨its, lk⟩ ρ Q X := by
  refine lc_mapK hi P hP hk (fun _ => true) enc2 f hl (fun x hx => ?_) (by rw [List.filter_eq_self.mpr (fun _ _ => rfl)]; exact q)
  obtain ⟨r1, e1, e2, h⟩ := h x hx
  exact ⟨r1, e1, e2, t_nil ⟨rfl, rfl⟩, fun _ => h⟩
theorem lc_all {α β : Type} {elt : E} {g : Tg} {own : List Nat} {enc : α → D} {l : List α} {its : List D} (hi : its = l.map enc) (P : Env) (hP : puts ρ own = P) (enc2 : β → D) (f : α → β) (hl : l.length ≤ SZ)
    (h : ∀ x ∈ l, ∃ r1, setTg g (enc x) P = some r1 ∧ puts r1 own = P ∧ WE (evE cf elt r1) (fun d r => d = enc2 (f x) ∧ r = r1) fun _ _ => False)
    (q : Q (.lst ((l.map f).map enc2)) ρ) : LC cf g own .nil elt ⟨its, none⟩ ρ Q X := lc_allK hi P hP rfl enc2 f hl h q
/-- with a state: what holds of what is done, of the env, of the results -/
theorem lcLoop_inv {α : Type} {g : Tg} {own : List Nat} {cond : Env → Ev Bool} {elt : Env → Ev D} {Q : List D → Env → Prop} {X0 : Exn → Env → Prop} (enc : α → D) (I : List α → List D → Env → Prop) : ∀ (post pre : List α) (ρ : Env) (acc : List D), I pre acc ρ → acc.length + post.length ≤ SZ →
    (∀ pre' x post' r acc, pre ++ post = pre' ++ x :: post' → I pre' acc r → ∃ r1, setTg g (enc x) (puts r own) = some r1 ∧ WE (cond r1) (fun k r2 => (k = true → WE (elt r2) (fun d r => I (pre' ++ [x]) (acc ++ [d]) r) X0) ∧ (k = false → I (pre' ++ [x]) acc r2)) X0) →
    (∀ r acc, I (pre ++ post) acc r → Q acc r) → (∀ x r, ¬ X0 x r) → WE (lcLoop g own cond elt (post.map enc) ρ acc) Q X
  | [], pre, ρ, acc, h0, _, _, he, _ => he ρ acc (by rw [List.append_nil]; exact h0)
  | x :: post, pre, ρ, acc, h0, hl, hs, he, hx => by
    obtain ⟨r1, e1, h⟩ := hs pre x post ρ acc rfl h0
    have hl' : acc.length + (post.length + 1) ≤ SZ := hl
    rw [List.map_cons]
    unfold lcLoop
    rw [e1]
    dsimp only
    have hs' : ∀ pre' x' post' r acc, pre ++ [x] ++ post = pre' ++ x' :: post' → I pre' acc r → ∃ r1, setTg g (enc x') (puts r own) = some r1 ∧ WE (cond r1) (fun k r2 => (k = true → WE (elt r2) (fun d r => I (pre' ++ [x']) (acc ++ [d]) r) X0) ∧ (k = false → I (pre' ++ [x']) acc r2)) X0 := fun pre' x' post' r acc e => hs pre' x' post' r acc (by rw [← e]; simp)
    have he' : ∀ r acc, I (pre ++ [x] ++ post) acc r → Q acc r := fun r acc h => he r acc (by rw [List.append_assoc] at h; exact h)
    cases z : cond r1 with
    | ok k r2 =>
      rw [z] at h
      obtain ⟨h1, h2⟩ := h
      cases k with
      | false => exact lcLoop_inv enc I post (pre ++ [x]) r2 acc (h2 rfl) (by omega) hs' he' hx
      | true =>
        have h1 := h1 rfl
        dsimp only
        cases z2 : elt r2 with
        | ok d r3 =>
          rw [z2] at h1
          dsimp only
          rw [if_pos (by omega)]
          exact lcLoop_inv enc I post (pre ++ [x]) r3 (acc ++ [d]) h1 (by simp; omega) hs' he' hx
        | ex y r => rw [z2] at h1; exact absurd h1 (hx y r)
        | no => rw [z2] at h1; exact h1.elim
    | ex y r => rw [z] at h; exact absurd h (hx y r)
    | no => rw [z] at h; exact h.elim
theorem lc_invK {α : Type} {elt : E} {g : Tg} {own : List Nat} {cs : Ts} {enc : α → D} {l : List α} {lk : Option Nat} {its : List D} (hi : its = l.map enc) (I : List α → List D → Env → Prop) (hl : l.length ≤ SZ) (h0 : I [] [] (lockW ρ lk))
    (hs : ∀ pre x post r acc, l = pre ++ x :: post → I pre acc r → ∃ r1, setTg g (enc x) (puts r own) = some r1 ∧ WE (evTs cf true cs r1) (fun k r2 => (k = true → WE (evE cf elt r2) (fun d r => I (pre ++ [x]) (acc ++ [d]) r) fun _ _ => False) ∧ (k = false → I (pre ++ [x]) acc r2)) fun _ _ => False)
    (he : ∀ r acc, I l acc r → Q (.lst acc) (unlockW (back (lockW ρ lk) r own) lk)) : LC cf g own cs elt ⟨its, lk⟩ ρ Q X := by
  subst hi
  exact lcLoop_inv (X0 := fun _ _ => False) enc I l [] (lockW ρ lk) [] h0 (by simpa using hl) hs he fun _ _ q => q
/-- a comprehension with a state -/
theorem lc_inv {α : Type} {elt : E} {g : Tg} {own : List Nat} {cs : Ts} {enc : α → D} {l : List α} {its : List D} (hi : its = l.map enc) (I : List α → List D → Env → Prop) (hl : l.length ≤ SZ) (h0 : I [] [] ρ)
    (hs : ∀ pre x post r acc, l = pre ++ x :: post → I pre acc r → ∃ r1, setTg g (enc x) (puts r own) = some r1 ∧ WE (evTs cf true cs r1) (fun k r2 => (k = true → WE (evE cf elt r2) (fun d r => I (pre ++ [x]) (acc ++ [d]) r) fun _ _ => False) ∧ (k = false → I (pre ++ [x]) acc r2)) fun _ _ => False)
    (he : ∀ r acc, I l acc r → Q (.lst acc) (back ρ r own)) : LC cf g own cs elt ⟨its, none⟩ ρ Q X := by
  subst hi
  exact lcLoop_inv (X0 := fun _ _ => False) enc I l [] ρ [] h0 (by simpa using hl) hs he fun _ _ q => q
end
end CW.Z

set_option linter.all false
/-! What the operations say, the walker's step. -/
namespace CW

theorem ex1 {p : P1} {r : Env} {x : Ar} {x' z : D} {A : D → Prop} (e1 : drf r x = some x') (e2 : sem1 p x' = some z) (q : A z) : ∃ x' z, drf r x = some x' ∧ sem1 p x' = some z ∧ A z := ⟨_, _, e1, e2, q⟩
theorem ex2 {p : P2} {r : Env} {x y : Ar} {x' y' z : D} {A : D → Prop} (e1 : drf r x = some x') (e2 : drf r y = some y') (e3 : sem2 p x' y' = some z) (q : A z) : ∃ x' y' z, drf r x = some x' ∧ drf r y = some y' ∧ sem2 p x' y' = some z ∧ A z := ⟨_, _, _, e1, e2, e3, q⟩
theorem ex2b {p : P2} {r : Env} {x y : Ar} {x' y' : D} {k : Bool} {A : Bool → Prop} (e1 : drf r x = some x') (e2 : drf r y = some y') (e3 : sem2 p x' y' = some (.bl k)) (q : A k) : ∃ x' y' k, drf r x = some x' ∧ drf r y = some y' ∧ sem2 p x' y' = some (.bl k) ∧ A k := ⟨_, _, _, e1, e2, e3, q⟩
theorem exN {p : P1} {r : Env} {x : Ar} {x' : D} {k : Bool} {A : Bool → Prop} (e1 : drf r x = some x') (e2 : sem1 p x' = some (.bl k)) (q : A k) : ∃ x' k, drf r x = some x' ∧ sem1 p x' = some (.bl k) ∧ A k := ⟨_, _, e1, e2, q⟩
theorem exT {r : Env} {x : Ar} {x' : D} {k : Bool} {A : Bool → Prop} (e1 : drf r x = some x') (e2 : tru x' = some k) (q : A k) : ∃ d k, drf r x = some d ∧ tru d = some k ∧ A k := ⟨_, _, e1, e2, q⟩
theorem exI {t : Ty} {r : Env} {x : Ar} {x' : D} {k : Bool} {A : Bool → Prop} (e1 : drf r x = some x') (e2 : isT t x' = some k) (q : A k) : ∃ d k, drf r x = some d ∧ isT t d = some k ∧ A k := ⟨_, _, e1, e2, q⟩
theorem exF {cs : List String} {f : String} {r : Env} {x : Ar} {c : String} {ns : List String} {vs : List D} {z : D} {A : D → Prop} (e1 : drf r x = some (.ins c ns vs)) (e2 : cs.contains c = true) (e3 : fldOf f ns vs = some z) (q : A z) : ∃ c ns vs z, drf r x = some (.ins c ns vs) ∧ cs.contains c = true ∧ fldOf f ns vs = some z ∧ A z := ⟨_, _, _, _, e1, e2, e3, q⟩
theorem exS {nw : Bool} {r : Env} {x : Ar} {l h : Option Int} {d z : D} {A : D → Prop} (e1 : drf r x = some d) (e2 : semSl nw d l h = some z) (q : A z) : ∃ d z, drf r x = some d ∧ semSl nw d l h = some z ∧ A z := ⟨_, _, e1, e2, q⟩
theorem exA {r : Env} {as : List Ar} {ds : List D} {A : List D → Prop} (e1 : nodupN (refs as) = true) (e2 : arDs r as = some ds) (q : A ds) : ∃ ds, nodupN (refs as) = true ∧ arDs r as = some ds ∧ A ds := ⟨_, e1, e2, q⟩
theorem exR {α β : Type} {x : β} {f : α → β} {P : α → Prop} {a : α} (e : x = f a) (q : P a) : ∃ a, x = f a ∧ P a := ⟨a, e, q⟩
theorem exRR {α β : Type} {x y : β} {f g : α → β} {P : α → α → Prop} {a b : α} (e : x = f a) (e2 : y = g b) (q : P a b) : ∃ a b, x = f a ∧ y = g b ∧ P a b := ⟨a, b, e, e2, q⟩
theorem exR1 {α β : Type} {x : β} {f : α → β} {a : α} (e : x = f a) : ∃ a, x = f a := ⟨a, e⟩
theorem exX {r : Env} {g : Nat} {y : D} {x : D} {b : Bool} {l : List D} {n : Int} {l' : List D} {P : Bool → List D → Prop} (e1 : get r g = .ow b (.lst l)) (e2 : x = .int n) (e3 : setL l n y = some l') (q : P b l') : ∃ b l n l', get r g = .ow b (.lst l) ∧ x = .int n ∧ setL l n y = some l' ∧ P b l' := ⟨b, l, n, l', e1, e2, e3, q⟩
theorem exP {r : Env} {g : Nat} {b : Bool} {l : List D} {P : Bool → List D → Prop} (e1 : get r g = .ow b (.lst l)) (e2 : l.length < SZ) (q : P b l) : ∃ b l, get r g = .ow b (.lst l) ∧ l.length < SZ ∧ P b l := ⟨b, l, e1, e2, q⟩

theorem exSF {r : Env} {i : Nat} {cs : List String} {b : Bool} {c : String} {ns : List String} {vs : List D} {P : Bool → String → List String → List D → Prop} (e1 : get r i = .ow b (.ins c ns vs)) (e2 : cs.contains c = true) (e3 : ns.length < 1000) (e4 : ns.length = vs.length) (q : P b c ns vs) :
    ∃ b c ns vs, get r i = .ow b (.ins c ns vs) ∧ cs.contains c = true ∧ ns.length < 1000 ∧ ns.length = vs.length ∧ P b c ns vs := ⟨b, c, ns, vs, e1, e2, e3, e4, q⟩

theorem exM {d : D} {cs : List String} {m : String} {c : String} {ns : List String} {vs : List D} {P : String → List String → List D → Prop} (e1 : d = .ins c ns vs) (e2 : (cs.contains c && !ns.contains m) = true) (q : P c ns vs) : ∃ c ns vs, d = .ins c ns vs ∧ (cs.contains c && !ns.contains m) = true ∧ P c ns vs := ⟨c, ns, vs, e1, e2, q⟩
theorem exMo {as : List Ar} {o : List D} {r0 : Env} {s : D} {o' : List D} {r : Env} {P : D → Env → Prop} (e1 : o = s :: o') (e2 : outTo as o' r0 = some r) (q : P s r) : ∃ s o' r, o = s :: o' ∧ outTo as o' r0 = some r ∧ P s r := ⟨s, o', r, e1, e2, q⟩

/-! ### the operations -/
section
variable {i j : Int} {l m : List D}
theorem s_add : sem2 .add (.int i) (.int j) = some (.int (i + j)) := rfl
theorem s_sub : sem2 .sub (.int i) (.int j) = some (.int (i - j)) := rfl
theorem s_lt : sem2 .lt (.int i) (.int j) = some (.bl (decide (i < j))) := rfl
theorem s_le : sem2 .le (.int i) (.int j) = some (.bl (decide (i ≤ j))) := rfl
theorem s_gt : sem2 .gt (.int i) (.int j) = some (.bl (decide (j < i))) := rfl
theorem s_ge : sem2 .ge (.int i) (.int j) = some (.bl (decide (j ≤ i))) := rfl
theorem beq_dec {a b : Int} : (a == b) = decide (a = b) := by
  by_cases h : a = b
  · simp [h]
  · simp [h]
theorem s_eq : sem2 .eq (.int i) (.int j) = some (.bl (decide (i = j))) := by
  show some (D.bl (i == j)) = _; rw [beq_dec]
theorem s_ne : sem2 .ne (.int i) (.int j) = some (.bl (decide (i ≠ j))) := by
  show some (D.bl (!(i == j))) = _; rw [beq_dec]; simp
theorem s_eqs {a b : String} : sem2 .eq (.str a) (.str b) = some (.bl (decide (a = b))) := by
  show some (D.bl (a == b)) = _
  by_cases h : a = b <;> simp [h]
theorem s_nes {a b : String} : sem2 .ne (.str a) (.str b) = some (.bl (decide (a ≠ b))) := by
  show some (D.bl (!(a == b))) = _
  by_cases h : a = b <;> simp [h]
theorem s_eqb {a b : Bool} : sem2 .eq (.bl a) (.bl b) = some (.bl (a == b)) := rfl
theorem s_neb {a b : Bool} : sem2 .ne (.bl a) (.bl b) = some (.bl (a != b)) := rfl
theorem s_mulL (h : smallI i = true) : sem2 .mul (.int i) (.int j) = some (.int (i * j)) := by
  show (if (smallI i || smallI j || decide (i.natAbs.log2 + j.natAbs.log2 < 1000000)) = true then _ else _) = _
  rw [if_pos (by rw [h]; rfl)]
theorem s_mulR (h : smallI j = true) : sem2 .mul (.int i) (.int j) = some (.int (i * j)) := by
  show (if (smallI i || smallI j || decide (i.natAbs.log2 + j.natAbs.log2 < 1000000)) = true then _ else _) = _
  rw [if_pos (by rw [h]; simp)]
theorem s_mulW (h : i.natAbs.log2 + j.natAbs.log2 < 1000000) : sem2 .mul (.int i) (.int j) = some (.int (i * j)) := by
  show (if (smallI i || smallI j || decide (i.natAbs.log2 + j.natAbs.log2 < 1000000)) = true then _ else _) = _
  rw [if_pos (by rw [decide_eq_true h]; simp)]
theorem s_isb {a b : Bool} : sem2 .isb (.bl a) (.bl b) = some (.bl (a == b)) := rfl
theorem s_nisb {a b : Bool} : sem2 .nisb (.bl a) (.bl b) = some (.bl (!(a == b))) := rfl
theorem s_band (h1 : 0 ≤ i) (h2 : 0 ≤ j) : sem2 .band (.int i) (.int j) = some (.int ((i.toNat &&& j.toNat : Nat) : Int)) := by
  show (if (decide (0 ≤ i) && decide (0 ≤ j)) = true then _ else _) = _
  rw [if_pos (by simp [h1, h2])]
theorem s_bxor (h1 : 0 ≤ i) (h2 : 0 ≤ j) : sem2 .bxor (.int i) (.int j) = some (.int (((i.toNat ||| j.toNat : Nat) : Int) - ((i.toNat &&& j.toNat : Nat) : Int))) := by
  show (if (decide (0 ≤ i) && decide (0 ≤ j)) = true then _ else _) = _
  rw [if_pos (by simp [h1, h2])]
theorem small_of (h1 : -18446744073709551616 < i) (h2 : i < 18446744073709551616) : smallI i = true := by
  unfold smallI B64
  simp [h1, h2]
theorem s_fdiv (h1 : j ≠ 0) (h2 : j.natAbs < 1073741824) : sem2 .fdiv (.int i) (.int j) = some (.int (i.fdiv j)) := by
  show (if ((decide (j ≠ 0) && decide (j.natAbs < 1073741824)) || (decide (0 < j) && decide (j.natAbs.log2 < 9000))) = true then _ else _) = _
  rw [if_pos (by simp [h1, h2])]
theorem s_divW (h1 : 0 < j) (h2 : j.natAbs.log2 < 9000) : sem2 .fdiv (.int i) (.int j) = some (.int (i / j)) := by
  show (if ((decide (j ≠ 0) && decide (j.natAbs < 1073741824)) || (decide (0 < j) && decide (j.natAbs.log2 < 9000))) = true then _ else _) = _
  rw [if_pos (by simp [h1, h2]), Int.fdiv_eq_ediv_of_nonneg i (by omega)]
theorem s_div (h1 : 0 < j) (h2 : j < 1073741824) : sem2 .fdiv (.int i) (.int j) = some (.int (i / j)) := by
  rw [s_fdiv (by omega) (by omega), Int.fdiv_eq_ediv_of_nonneg i (by omega)]
theorem s_mod (h1 : 0 < j) : sem2 .mod (.int i) (.int j) = some (.int (i % j)) := by
  show (if j ≠ 0 then _ else _) = _
  rw [if_pos (by omega), Int.fmod_eq_emod_of_nonneg i (by omega)]
theorem s_pow (h1 : 0 ≤ j) (h2 : j ≤ 1000000) (h3 : i.natAbs < 18446744073709551616) : sem2 .pow (.int i) (.int j) = some (.int (i ^ j.toNat)) := by
  show (if (decide (0 ≤ j) && decide (j ≤ 1000000) && decide (i.natAbs < 18446744073709551616)) = true then _ else _) = _
  rw [if_pos (by simp [h1, h2, h3])]
theorem s_cat (h : l.length + m.length ≤ SZ) : sem2 .add (.lst l) (.lst m) = some (.lst (l ++ m)) := by
  show (if _ then _ else _) = _; rw [if_pos h]
theorem s_cat' (h : l.length + m.length ≤ SZ) : sem2 .cat (.lst l) (.lst m) = some (.lst (l ++ m)) := by
  show (if _ then _ else _) = _; rw [if_pos h]
theorem s_catT (h : l.length + m.length ≤ SZ) : sem2 .add (.tup l) (.tup m) = some (.tup (l ++ m)) := by
  show (if _ then _ else _) = _; rw [if_pos h]
theorem s_catm {α : Type} {f : α → D} {l m : List α} (h : l.length + m.length ≤ SZ) : sem2 .add (.lst (l.map f)) (.lst (m.map f)) = some (.lst ((l ++ m).map f)) := by
  rw [s_cat (by rw [List.length_map, List.length_map]; exact h), List.map_append]
theorem s_catm' {α : Type} {f : α → D} {l m : List α} (h : l.length + m.length ≤ SZ) : sem2 .cat (.lst (l.map f)) (.lst (m.map f)) = some (.lst ((l ++ m).map f)) := by
  rw [s_cat' (by rw [List.length_map, List.length_map]; exact h), List.map_append]
theorem s_catU {α : Type} {f : α → D} {l m : List α} (h : l.length + m.length ≤ SZ) : sem2 .add (.tup (l.map f)) (.tup (m.map f)) = some (.tup ((l ++ m).map f)) := by
  rw [s_catT (by rw [List.length_map, List.length_map]; exact h), List.map_append]
theorem s_cat1 {α : Type} {f : α → D} {l : List α} {x : α} (h : l.length + 1 ≤ SZ) : sem2 .add (.lst (l.map f)) (.lst [f x]) = some (.lst ((l ++ [x]).map f)) := s_catm (m := [x]) h
theorem s_cat1' {α : Type} {f : α → D} {l : List α} {x : α} (h : l.length + 1 ≤ SZ) : sem2 .cat (.lst (l.map f)) (.lst [f x]) = some (.lst ((l ++ [x]).map f)) := s_catm' (m := [x]) h
theorem s_catU1 {α : Type} {f : α → D} {l : List α} {x : α} (h : l.length + 1 ≤ SZ) : sem2 .add (.tup (l.map f)) (.tup [f x]) = some (.tup ((l ++ [x]).map f)) := s_catU (m := [x]) h
theorem s_cat2 {α : Type} {f : α → D} {l : List α} {x : α} (h : l.length + 1 ≤ SZ) : sem2 .add (.lst [f x]) (.lst (l.map f)) = some (.lst ((x :: l).map f)) := s_catm (l := [x]) (by rw [Nat.add_comm]; exact h)
theorem s_catU2 {α : Type} {f : α → D} {l : List α} {x : α} (h : l.length + 1 ≤ SZ) : sem2 .add (.tup [f x]) (.tup (l.map f)) = some (.tup ((x :: l).map f)) := s_catU (l := [x]) (by rw [Nat.add_comm]; exact h)
theorem s_rep {k : Int} (h1 : 0 ≤ k) (h2 : k < 1000000) (h3 : l.length * k.toNat ≤ SZ) : sem2 .rep (.lst l) (.int k) = some (.lst (List.replicate k.toNat l).flatten) := by
  show (if _ then _ else _) = _
  rw [if_pos]
  simp only [Bool.and_eq_true, decide_eq_true_eq]
  omega
theorem ixAt_of {n : Nat} {i : Int} (h1 : 0 ≤ i) (h2 : i < n) : ixAt n i = some i.toNat := by
  unfold ixAt; rw [if_pos h1, if_pos h2]
theorem ixAt_neg {n : Nat} {i : Int} (h1 : i < 0) (h2 : -(n : Int) ≤ i) : ixAt n i = some (i + n).toNat := by
  unfold ixAt; rw [if_neg (by omega), if_pos h2]
theorem s_ix {d : D} (h1 : 0 ≤ i) (h2 : l[i.toNat]? = some d) : sem2 .ix (.lst l) (.int i) = some d := by
  have hl : i.toNat < l.length := by
    rcases List.getElem?_eq_some_iff.mp h2 with ⟨h, _⟩; exact h
  show (ixAt l.length i).bind _ = _
  rw [ixAt_of h1 (by omega)]; exact h2
theorem s_ixT {d : D} (h1 : 0 ≤ i) (h2 : l[i.toNat]? = some d) : sem2 .ix (.tup l) (.int i) = some d := by
  have hl : i.toNat < l.length := by
    rcases List.getElem?_eq_some_iff.mp h2 with ⟨h, _⟩; exact h
  show (ixAt l.length i).bind _ = _
  rw [ixAt_of h1 (by omega)]; exact h2
/-- a typed list's element -/
theorem s_repT {l : List D} {k : Int} (h0 : l ≠ []) (h1 : 2 ≤ k) (h2 : k ≤ 1000) (h3 : l.length ≤ 1000) : sem2 .mul (.tup l) (.int k) = some (.tup (List.replicate k.toNat l).flatten) := by
  show (if _ then _ else _) = _
  rw [if_pos]
  simp [h0, h1, h2, h3]
theorem s_ixm {α : Type} [Inhabited α] {f : α → D} {l : List α} (h1 : 0 ≤ i) (h2 : i < l.length) : sem2 .ix (.lst (l.map f)) (.int i) = some (f (l[i.toNat]!)) := by
  refine s_ix h1 ?_
  have : i.toNat < l.length := by omega
  rw [List.getElem?_map, List.getElem?_eq_getElem this, getElem!_pos l i.toNat this]; rfl
theorem s_ixTm {α : Type} [Inhabited α] {f : α → D} {l : List α} (h1 : 0 ≤ i) (h2 : i < l.length) : sem2 .ix (.tup (l.map f)) (.int i) = some (f (l[i.toNat]!)) := by
  refine s_ixT h1 ?_
  have : i.toNat < l.length := by omega
  rw [List.getElem?_map, List.getElem?_eq_getElem this, getElem!_pos l i.toNat this]; rfl
theorem s_max2 : sem2 .max2 (.int i) (.int j) = some (.int (max i j)) := by
  show some (D.int (if j > i then j else i)) = _
  congr 2; omega
theorem s_min2 : sem2 .min2 (.int i) (.int j) = some (.int (min i j)) := by
  show some (D.int (if j < i then j else i)) = _
  congr 2; omega
end

/-! ### typed data -/
theorem allInt_map {α : Type} (g : α → Int) : ∀ l : List α, allInt (l.map fun x => .int (g x)) = some (l.map g)
  | [] => rfl
  | x :: l => by
    show (allInt (l.map _)).map _ = _
    rw [allInt_map g l]; rfl
theorem allInt_int (l : List Int) : allInt (l.map .int) = some l := by
  have := allInt_map (fun x => x) l
  rw [List.map_id'] at this; exact this
theorem allBl_map {α : Type} (g : α → Bool) : ∀ l : List α, allBl (l.map fun x => .bl (g x)) = some (l.map g)
  | [] => rfl
  | x :: l => by
    show (allBl (l.map _)).map _ = _
    rw [allBl_map g l]; rfl
theorem s_len {l : List D} : sem1 .len (.lst l) = some (.int l.length) := rfl
theorem s_lenT {l : List D} : sem1 .len (.tup l) = some (.int l.length) := rfl
theorem s_lenm {α : Type} {f : α → D} {l : List α} : sem1 .len (.lst (l.map f)) = some (.int l.length) := by rw [s_len, List.length_map]
theorem s_lenTm {α : Type} {f : α → D} {l : List α} : sem1 .len (.tup (l.map f)) = some (.int l.length) := by rw [s_lenT, List.length_map]
theorem s_sumI {l : List Int} : sem1 .sum (.lst (l.map .int)) = some (.int l.sum) := by
  show (allInt _).map _ = _; rw [allInt_int]; rfl
theorem s_sumT {l : List Int} : sem1 .sum (.tup (l.map .int)) = some (.int l.sum) := by
  show (allInt _).map _ = _; rw [allInt_int]; rfl
theorem allBl_bl (l : List Bool) : allBl (l.map .bl) = some l := by
  have := allBl_map (fun x => x) l
  rw [List.map_id'] at this; exact this
theorem s_all {α : Type} {g : α → Bool} {l : List α} : sem1 .all (.lst ((l.map g).map .bl)) = some (.bl (l.all g)) := by
  show (allBl _).map _ = _; rw [allBl_bl]
  show some (D.bl ((l.map g).all id)) = _
  rw [List.all_map]; rfl
theorem s_any {α : Type} {g : α → Bool} {l : List α} : sem1 .any (.lst ((l.map g).map .bl)) = some (.bl (l.any g)) := by
  show (allBl _).map _ = _; rw [allBl_bl]
  show some (D.bl ((l.map g).any id)) = _
  rw [List.any_map]; rfl
theorem s_max {l : List Int} {m : Int} (h : maxL l = some m) : sem1 .max (.lst (l.map .int)) = some (.int m) := by
  show ((allInt _).bind fun ns => (maxL ns).map D.int) = _; rw [allInt_int]; show (maxL l).map D.int = _; rw [h]; rfl

/-! ### slices -/
theorem cut_from {α : Type} {f : α → D} {l : List α} {k : Int} (h : 0 ≤ k) : cutL (l.map f) (some k) none = (l.drop k.toNat).map f := by
  unfold cutL cutIx
  dsimp only
  rw [if_neg (by omega), List.length_map]
  rw [← List.map_drop, ← List.map_take]
  congr 1
  rw [List.take_of_length_le (by rw [List.length_drop]; omega)]
  by_cases hk : k.toNat ≤ l.length
  · rw [Nat.min_eq_left hk]
  · rw [Nat.min_eq_right (by omega), List.drop_length, List.drop_eq_nil_of_le (by omega)]
theorem cut_to {α : Type} {f : α → D} {l : List α} {k : Int} (h : 0 ≤ k) : cutL (l.map f) none (some k) = (l.take k.toNat).map f := by
  unfold cutL cutIx
  dsimp only
  rw [if_neg (by omega), List.length_map, Nat.sub_zero, List.drop_zero, ← List.map_take]
  congr 1
  by_cases hk : k.toNat ≤ l.length
  · rw [Nat.min_eq_left hk]
  · rw [Nat.min_eq_right (by omega), List.take_length, List.take_of_length_le (by omega)]
theorem cut_mid {α : Type} {f : α → D} {l : List α} {i j : Int} (h : 0 ≤ i) (hj : 0 ≤ j) : cutL (l.map f) (some i) (some j) = ((l.drop i.toNat).take (j.toNat - i.toNat)).map f := by
  unfold cutL cutIx
  dsimp only
  rw [if_neg (by omega), if_neg (by omega), List.length_map, ← List.map_drop, ← List.map_take]
  congr 1
  by_cases hi : i.toNat ≤ l.length
  · rw [Nat.min_eq_left hi]
    by_cases hk : j.toNat ≤ l.length
    · rw [Nat.min_eq_left hk]
    · rw [Nat.min_eq_right (by omega), List.take_of_length_le (by rw [List.length_drop]; omega), List.take_of_length_le (by rw [List.length_drop]; omega)]
  · rw [Nat.min_eq_right (a := i.toNat) (by omega), List.drop_length, List.drop_eq_nil_of_le (by omega)]
    simp
theorem cut_last {α : Type} {f : α → D} {l : List α} : cutL (l.map f) none (some (-1)) = l.dropLast.map f := by
  unfold cutL cutIx
  dsimp only
  rw [if_pos (by omega), List.length_map, Nat.sub_zero, List.drop_zero, ← List.map_take, List.dropLast_eq_take]
  congr 2; omega
section
variable {α : Type} {f : α → D} {l : List α} {i j : Int} {nw : Bool}
theorem sl_from (h : 0 ≤ i) : semSl false (.tup (l.map f)) (some i) none = some (.tup ((l.drop i.toNat).map f)) := by show some (D.tup _) = _; rw [cut_from h]
theorem sl_to (h : 0 ≤ i) : semSl false (.tup (l.map f)) none (some i) = some (.tup ((l.take i.toNat).map f)) := by show some (D.tup _) = _; rw [cut_to h]
theorem sl_mid (h : 0 ≤ i) (hj : 0 ≤ j) : semSl false (.tup (l.map f)) (some i) (some j) = some (.tup (((l.drop i.toNat).take (j.toNat - i.toNat)).map f)) := by show some (D.tup _) = _; rw [cut_mid h hj]
theorem sl_last : semSl false (.tup (l.map f)) none (some (-1)) = some (.tup (l.dropLast.map f)) := by show some (D.tup _) = _; rw [cut_last]
theorem sl_fromL (h : 0 ≤ i) : semSl nw (.lst (l.map f)) (some i) none = some (.lst ((l.drop i.toNat).map f)) := by cases nw <;> (show some (D.lst _) = _; rw [cut_from h])
theorem sl_toL (h : 0 ≤ i) : semSl nw (.lst (l.map f)) none (some i) = some (.lst ((l.take i.toNat).map f)) := by cases nw <;> (show some (D.lst _) = _; rw [cut_to h])
theorem sl_midL (h : 0 ≤ i) (hj : 0 ≤ j) : semSl nw (.lst (l.map f)) (some i) (some j) = some (.lst (((l.drop i.toNat).take (j.toNat - i.toNat)).map f)) := by cases nw <;> (show some (D.lst _) = _; rw [cut_mid h hj])
theorem sl_lastL : semSl nw (.lst (l.map f)) none (some (-1)) = some (.lst (l.dropLast.map f)) := by cases nw <;> (show some (D.lst _) = _; rw [cut_last])
end

/-! ### ranges -/
def irange (a b : Int) : List Int := (List.range (b - a).toNat).map fun i => a + (i : Nat)
theorem rangeL_eq (a b : Int) : rangeL a b = (irange a b).map .int := by
  unfold rangeL irange; rw [List.map_map]; rfl
theorem irange_len {a b : Int} : (irange a b).length = (b - a).toNat := by unfold irange; simp
theorem mem_irange {a b x : Int} : x ∈ irange a b ↔ a ≤ x ∧ x < b := by
  unfold irange
  simp only [List.mem_map, List.mem_range]
  constructor
  · rintro ⟨i, h, rfl⟩; omega
  · rintro ⟨h1, h2⟩; exact ⟨(x - a).toNat, by omega, by omega⟩
theorem irange_get {a b : Int} {i : Nat} (h : i < (b - a).toNat) : (irange a b)[i]? = some (a + i) := by
  unfold irange; simp [h]
theorem irange_split {a b x : Int} {pre post : List Int} (h : irange a b = pre ++ x :: post) : x = a + pre.length ∧ x < b := by
  have e : (irange a b)[pre.length]? = some x := by rw [h]; simp
  have hl : pre.length < (b - a).toNat := by
    have := congrArg List.length h
    rw [irange_len] at this; simp at this; omega
  rw [irange_get hl] at e
  cases e; omega
theorem irange_nil {a b : Int} (h : b ≤ a) : irange a b = [] := by
  unfold irange; rw [show (b - a).toNat = 0 by omega]; rfl
theorem irange_succ {a b : Int} (h : a ≤ b) : irange a (b + 1) = irange a b ++ [b] := by
  unfold irange
  rw [show (b + 1 - a).toNat = (b - a).toNat + 1 by omega, List.range_succ, List.map_append]
  congr 1
  simp; omega
theorem irange_pre {a b x : Int} {pre post : List Int} (h : irange a b = pre ++ x :: post) : pre = irange a x := by
  obtain ⟨h1, h2⟩ := irange_split h
  refine List.ext_getElem? fun i => ?_
  by_cases hi : i < pre.length
  · have : (irange a b)[i]? = pre[i]? := by rw [h, List.getElem?_append_left hi]
    rw [← this, irange_get (by have := congrArg List.length h; rw [irange_len] at this; simp at this; omega), irange_get (by omega)]
  · rw [List.getElem?_eq_none (by omega), List.getElem?_eq_none (by rw [irange_len]; omega)]
def ienum {α : Type} : Int → List α → List (Int × α)
  | _, [] => []
  | k, x :: l => (k, x) :: ienum (k + 1) l
theorem enumD_map {α : Type} {f : α → D} : ∀ (l : List α) (k : Nat), enumD k (l.map f) = (ienum k l).map fun p => D.tup [.int p.1, f p.2]
  | [], _ => rfl
  | x :: l, k => by
    show .tup [.int (k : Nat), f x] :: enumD (k + 1) (l.map f) = _
    rw [enumD_map l (k + 1)]; rfl
theorem ienum_len {α : Type} : ∀ (l : List α) (k : Int), (ienum k l).length = l.length
  | [], _ => rfl
  | x :: l, k => by show (ienum (k + 1) l).length + 1 = _; rw [ienum_len l]; rfl
theorem ienum_get {α : Type} : ∀ (l : List α) (k : Int) (i : Nat), (ienum k l)[i]? = (l[i]?).map fun x => (k + i, x)
  | [], _, _ => rfl
  | x :: l, k, 0 => by simp [ienum]
  | x :: l, k, i + 1 => by
    show (ienum (k + 1) l)[i]? = _
    rw [ienum_get l]
    simp only [List.getElem?_cons_succ]
    congr 1; funext y; congr 1; omega
theorem ienum_split {α : Type} {l : List α} {k : Int} {pre post : List (Int × α)} {p : Int × α} (h : ienum k l = pre ++ p :: post) : p.1 = k + pre.length ∧ l[pre.length]? = some p.2 := by
  have e : (ienum k l)[pre.length]? = some p := by rw [h]; simp
  rw [ienum_get] at e
  cases z : l[pre.length]? with
  | none => rw [z] at e; cases e
  | some x => rw [z] at e; cases e; exact ⟨rfl, rfl⟩
theorem mem_ienum {α : Type} {l : List α} {k : Int} {p : Int × α} (h : p ∈ ienum k l) : ∃ i : Nat, p.1 = k + i ∧ l[i]? = some p.2 := by
  obtain ⟨i, e⟩ := List.mem_iff_getElem?.mp h
  rw [ienum_get] at e
  cases z : l[i]? with
  | none => rw [z] at e; cases e
  | some x => rw [z] at e; cases e; exact ⟨i, rfl, z⟩
theorem zipD_map {α β : Type} {f : α → D} {g : β → D} : ∀ (l : List α) (m : List β), zipD (l.map f) (m.map g) = (l.zip m).map fun p => D.tup [f p.1, g p.2]
  | [], [] => rfl
  | [], _ :: _ => rfl
  | _ :: _, [] => rfl
  | x :: l, y :: m => by
    show .tup [f x, g y] :: zipD (l.map f) (m.map g) = _
    rw [zipD_map l m]; rfl

/-- an encoding that equality can read, at most so deep -/
structure EncOk {α : Type} (f : α → D) (n : Nat) : Prop where
  ok : ∀ x, dOk n (f x) = true
  eq : ∀ x y, deq (f x) (f y) = true ↔ x = y
theorem enc_int {n : Nat} : EncOk D.int n := ⟨fun x => by cases n <;> rfl, fun x y => by show (x == y) = true ↔ _; simp⟩
theorem enc_str {n : Nat} : EncOk D.str n := ⟨fun x => by cases n <;> rfl, fun x y => by show (x == y) = true ↔ _; simp⟩
theorem enc_bl {n : Nat} : EncOk D.bl n := ⟨fun x => by cases n <;> rfl, fun x y => by show (x == y) = true ↔ _; simp⟩
theorem dsOk_map {α : Type} {f : α → D} {n : Nat} (h : EncOk f n) : ∀ l : List α, dsOk n (l.map f) = true
  | [] => by simp [dsOk]
  | x :: l => by
    show dsOk n (f x :: l.map f) = true
    unfold dsOk
    rw [h.ok, dsOk_map h l]; rfl
theorem deqs_map {α : Type} {f : α → D} {n : Nat} (h : EncOk f n) : ∀ l m : List α, deqs (l.map f) (m.map f) = true ↔ l = m
  | [], [] => by simp [deqs]
  | [], _ :: _ => by simp [deqs]
  | _ :: _, [] => by simp [deqs]
  | x :: l, y :: m => by
    show deqs (f x :: l.map f) (f y :: m.map f) = true ↔ _
    unfold deqs
    rw [Bool.and_eq_true, h.eq, deqs_map h l m]
    simp
theorem enc_lst {α : Type} {f : α → D} {n : Nat} (h : EncOk f n) : EncOk (fun l : List α => D.lst (l.map f)) (n + 1) :=
  ⟨fun l => by show dOk (n + 1) (.lst _) = true; unfold dOk; exact dsOk_map h l, fun l m => by show deq (.lst _) (.lst _) = true ↔ _; unfold deq; exact deqs_map h l m⟩
theorem enc_tup {α : Type} {f : α → D} {n : Nat} (h : EncOk f n) : EncOk (fun l : List α => D.tup (l.map f)) (n + 1) :=
  ⟨fun l => by show dOk (n + 1) (.tup _) = true; unfold dOk; exact dsOk_map h l, fun l m => by show deq (.tup _) (.tup _) = true ↔ _; unfold deq; exact deqs_map h l m⟩
theorem enc_pair {α β : Type} {f : α → D} {g : β → D} {n : Nat} (h : EncOk f n) (k : EncOk g n) : EncOk (fun p : α × β => D.tup [f p.1, g p.2]) (n + 1) :=
  ⟨fun l => by show dOk (n + 1) (.tup _) = true; unfold dOk; simp [dsOk, h.ok, k.ok], fun l m => by
    show deq (.tup _) (.tup _) = true ↔ _
    unfold deq
    simp only [deqs, Bool.and_eq_true, h.eq, k.eq, and_true]
    constructor
    · rintro ⟨a, b⟩; exact Prod.ext a b
    · rintro rfl; exact ⟨rfl, rfl⟩⟩
theorem s_eqE {α : Type} [DecidableEq α] {f : α → D} (h : EncOk f 40) (x y : α) : sem2 .eq (f x) (f y) = some (.bl (decide (x = y))) := by
  have : sem2 .eq (f x) (f y) = if dOk 40 (f x) && dOk 40 (f y) then some (.bl (deq (f x) (f y))) else none := by unfold sem2; rfl
  rw [this, h.ok, h.ok]
  have e := h.eq x y
  by_cases z : x = y
  · rw [(e.mpr z)]; simp [z]
  · have : deq (f x) (f y) = false := by
      cases q : deq (f x) (f y) with
      | false => rfl
      | true => exact absurd (e.mp q) z
    rw [this]; simp [z]
theorem s_neE {α : Type} [DecidableEq α] {f : α → D} (h : EncOk f 40) (x y : α) : sem2 .ne (f x) (f y) = some (.bl (decide (x ≠ y))) := by
  have : sem2 .ne (f x) (f y) = if dOk 40 (f x) && dOk 40 (f y) then some (.bl (!deq (f x) (f y))) else none := by unfold sem2; rfl
  rw [this, h.ok, h.ok]
  have e := h.eq x y
  by_cases z : x = y
  · rw [(e.mpr z)]; simp [z]
  · have : deq (f x) (f y) = false := by
      cases q : deq (f x) (f y) with
      | false => rfl
      | true => exact absurd (e.mp q) z
    rw [this]; simp [z]

theorem s_eqL {l m : List Int} : sem2 .eq (.lst (l.map .int)) (.lst (m.map .int)) = some (.bl (decide (l = m))) := s_eqE (enc_lst enc_int) l m
theorem s_neL {l m : List Int} : sem2 .ne (.lst (l.map .int)) (.lst (m.map .int)) = some (.bl (decide (l ≠ m))) := s_neE (enc_lst enc_int) l m
theorem s_eqU {l m : List Int} : sem2 .eq (.tup (l.map .int)) (.tup (m.map .int)) = some (.bl (decide (l = m))) := s_eqE (enc_tup enc_int) l m
theorem s_neU {l m : List Int} : sem2 .ne (.tup (l.map .int)) (.tup (m.map .int)) = some (.bl (decide (l ≠ m))) := s_neE (enc_tup enc_int) l m
theorem s_eqN {l : List Int} : sem2 .eq (.lst (l.map .int)) (.lst []) = some (.bl (decide (l = []))) := s_eqE (enc_lst enc_int) l []
theorem s_neN {l : List Int} : sem2 .ne (.lst (l.map .int)) (.lst []) = some (.bl (decide (l ≠ []))) := s_neE (enc_lst enc_int) l []
theorem setL_map {α : Type} {f : α → D} {l : List α} {k : Int} {v : α} (h1 : 0 ≤ k) (h2 : k < l.length) : setL (l.map f) k (f v) = some ((l.set k.toNat v).map f) := by
  unfold setL
  rw [List.length_map, ixAt_of h1 h2]
  show some ((l.map f).set k.toNat (f v)) = _
  rw [List.map_set]
theorem ixm_mem {α : Type} [Inhabited α] {l : List α} {i : Int} (h1 : 0 ≤ i) (h2 : i < l.length) : l[i.toNat]! ∈ l := by
  rw [getElem!_pos l i.toNat (by omega)]; exact List.getElem_mem _

/-! ### defs -/
def startE (f : Fd) (ds : List D) : Option Env := (initE f.ms ds).map fun r => r ++ List.replicate (f.N.length - f.ms.length) .un
theorem callF_succ {P : List Fd} {Y : Ex} {n : Nat} {x : String} {ds : List D} {f : Fd} (h : findF P x = some f) : callF P Y (n + 1) x ds = runF (callF P Y n) Y f ds := by
  show (match findF P x with | some f => _ | none => _) = _; rw [h]
/-- a name that is looked at, whatever its slot is -/
def pkS' : Sl → Nat → Option Ar
  | .va d, _ => some (.v d)
  | .ow _ _, i => some (.r i)
  | .lk _ _, i => some (.r i)
  | .un, _ => none
theorem q_okR {a b : Int} (h1 : -4611686018427387904 ≤ a) (h2 : a < 4611686018427387904) (h3 : -4611686018427387904 ≤ b) (h4 : b < 4611686018427387904) : okR a b = true := by
  unfold okR B62
  simp [h1, h2, h3, h4]
theorem le_SZ {n : Nat} (h : n ≤ 16777216) : n ≤ SZ := h
theorem lt_SZ {n : Nat} (h : n < 16777216) : n < SZ := h
theorem eqG {α : Type} {a b : α} (h : a = b) : a = b := h
theorem bnt : (!false) = true := rfl
theorem bnf : (!true) = false := rfl
theorem ndT {p : Prop} [Decidable p] (h : ¬p) : (!decide p) = true := by simp [h]
theorem ndF {p : Prop} [Decidable p] (h : p) : (!decide p) = false := by simp [h]
theorem ifN {p : Prop} [Decidable p] {A B : Prop} (a : ¬p → A) (b : p → B) : ((!decide p) = true → A) ∧ ((!decide p) = false → B) := ⟨fun e => a (by simpa using e), fun e => b (by simpa using e)⟩
theorem orN {p : Prop} [Decidable p] {A B : Prop} (a : p → A) (b : ¬p → B) : ((!decide p) = false → A) ∧ ((!decide p) = (!false) → B) := ⟨fun e => a (by simpa using e), fun e => b (by simpa using e)⟩
theorem anN {p : Prop} [Decidable p] {A B : Prop} (a : ¬p → A) (b : p → B) : ((!decide p) = true → A) ∧ ((!decide p) = (!true) → B) := ifN a b
theorem ifT {k : Bool} {A B : Prop} (h : k = true) (a : A) : (k = true → A) ∧ (k = false → B) := ⟨fun _ => a, fun e => by rw [h] at e; cases e⟩
theorem ifF {k : Bool} {A B : Prop} (h : k = false) (b : B) : (k = true → A) ∧ (k = false → B) := ⟨fun e => (by rw [h] at e; cases e), fun _ => b⟩
theorem ifD {p : Prop} [Decidable p] {A B : Prop} (a : p → A) (b : ¬p → B) : (decide p = true → A) ∧ (decide p = false → B) := ⟨fun e => a (of_decide_eq_true e), fun e => b (of_decide_eq_false e)⟩
/-- tests one behind the other -/
theorem orT {k : Bool} {A B : Prop} (h : k = true) (b : B) : (k = false → A) ∧ (k = (!false) → B) := ⟨fun e => (by rw [h] at e; cases e), fun _ => b⟩
theorem orF {k : Bool} {A B : Prop} (h : k = false) (a : A) : (k = false → A) ∧ (k = (!false) → B) := ⟨fun _ => a, fun e => by rw [h] at e; cases e⟩
theorem orD {p : Prop} [Decidable p] {A B : Prop} (a : ¬p → A) (b : p → B) : (decide p = false → A) ∧ (decide p = (!false) → B) := ⟨fun e => a (of_decide_eq_false e), fun e => b (of_decide_eq_true e)⟩
theorem anT {k : Bool} {A B : Prop} (h : k = true) (a : A) : (k = true → A) ∧ (k = (!true) → B) := ifT h a
theorem anF {k : Bool} {A B : Prop} (h : k = false) (b : B) : (k = true → A) ∧ (k = (!true) → B) := ifF h b
theorem anD {p : Prop} [Decidable p] {A B : Prop} (a : p → A) (b : ¬p → B) : (decide p = true → A) ∧ (decide p = (!true) → B) := ifD a b
theorem any_deq {α : Type} [DecidableEq α] {f : α → D} {n : Nat} (h : EncOk f n) (x : α) : ∀ l : List α, (l.map f).any (fun z => deq z (f x)) = decide (x ∈ l)
  | [] => by simp
  | y :: l => by
    rw [List.map_cons, List.any_cons, any_deq h x l]
    have e := h.eq y x
    by_cases z : y = x
    · rw [e.mpr z]; simp [z]
    · have : deq (f y) (f x) = false := by
        cases q : deq (f y) (f x) with
        | false => rfl
        | true => exact absurd (e.mp q) z
      rw [this]
      have : ¬x = y := fun e => z e.symm
      simp [this]
theorem s_inE {α : Type} [DecidableEq α] {f : α → D} (h : EncOk f 40) (x : α) (l : List α) : sem2 .inn (f x) (.lst (l.map f)) = some (.bl (decide (x ∈ l))) := by
  have : sem2 .inn (f x) (.lst (l.map f)) = if dOk 40 (f x) && dsOk 40 (l.map f) then some (.bl ((l.map f).any fun z => deq z (f x))) else none := by unfold sem2; rfl
  rw [this, h.ok, dsOk_map h, any_deq h]; rfl
theorem s_inET {α : Type} [DecidableEq α] {f : α → D} (h : EncOk f 40) (x : α) (l : List α) : sem2 .inn (f x) (.tup (l.map f)) = some (.bl (decide (x ∈ l))) := by
  have : sem2 .inn (f x) (.tup (l.map f)) = if dOk 40 (f x) && dsOk 40 (l.map f) then some (.bl ((l.map f).any fun z => deq z (f x))) else none := by unfold sem2; rfl
  rw [this, h.ok, dsOk_map h, any_deq h]; rfl
theorem s_ninE {α : Type} [DecidableEq α] {f : α → D} (h : EncOk f 40) (x : α) (l : List α) : sem2 .nin (f x) (.lst (l.map f)) = some (.bl (decide (x ∉ l))) := by
  have : sem2 .nin (f x) (.lst (l.map f)) = if dOk 40 (f x) && dsOk 40 (l.map f) then some (.bl (!(l.map f).any fun z => deq z (f x))) else none := by unfold sem2; rfl
  rw [this, h.ok, dsOk_map h, any_deq h]; simp
theorem s_ninET {α : Type} [DecidableEq α] {f : α → D} (h : EncOk f 40) (x : α) (l : List α) : sem2 .nin (f x) (.tup (l.map f)) = some (.bl (decide (x ∉ l))) := by
  have : sem2 .nin (f x) (.tup (l.map f)) = if dOk 40 (f x) && dsOk 40 (l.map f) then some (.bl (!(l.map f).any fun z => deq z (f x))) else none := by unfold sem2; rfl
  rw [this, h.ok, dsOk_map h, any_deq h]; simp
theorem s_inI {x : Int} {l : List Int} : sem2 .inn (.int x) (.lst (l.map .int)) = some (.bl (decide (x ∈ l))) := s_inE enc_int x l
theorem s_nin2 {x a b : Int} : sem2 .nin (.int x) (.tup [.int a, .int b]) = some (.bl (decide (x ≠ a ∧ x ≠ b))) := by
  have := s_ninET enc_int x [a, b]
  rw [show [a, b].map D.int = [.int a, .int b] from rfl] at this
  rw [this]; simp
theorem s_in2 {x a b : Int} : sem2 .inn (.int x) (.tup [.int a, .int b]) = some (.bl (decide (x = a ∨ x = b))) := by
  have := s_inET enc_int x [a, b]
  rw [show [a, b].map D.int = [.int a, .int b] from rfl] at this
  rw [this]; simp
theorem s_absI {i : Int} : sem1 .abs (.int i) = some (.int (if i < 0 then -i else i)) := rfl
theorem s_b2i {b : Bool} : sem1 .int (.bl b) = some (.int (if b then 1 else 0)) := rfl
theorem s_i2i {i : Int} : sem1 .int (.int i) = some (.int i) := rfl
/-! ### a list or a tuple, whichever -/
def Sq (s : List D → D) : Prop := s = .lst ∨ s = .tup
theorem sq_l : Sq .lst := .inl rfl
theorem sq_t : Sq .tup := .inr rfl
section
variable {α : Type} {f : α → D} {l m : List α} {s : List D → D} {i j : Int} {nw : Bool}
theorem s_lenS (h : Sq s) : sem1 .len (s (l.map f)) = some (.int l.length) := by rcases h with rfl | rfl; exact s_lenm; exact s_lenTm
theorem s_sumS {l : List Int} (h : Sq s) : sem1 .sum (s (l.map .int)) = some (.int l.sum) := by rcases h with rfl | rfl; exact s_sumI; exact s_sumT
theorem s_listS {l : List D} (h : Sq s) : sem1 .list (s l) = some (.lst l) := by rcases h with rfl | rfl <;> rfl
theorem s_tupleS {l : List D} (h : Sq s) : sem1 .tuple (s l) = some (.tup l) := by rcases h with rfl | rfl <;> rfl
theorem s_ixS [Inhabited α] (h : Sq s) (h1 : 0 ≤ i) (h2 : i < l.length) : sem2 .ix (s (l.map f)) (.int i) = some (f (l[i.toNat]!)) := by
  rcases h with rfl | rfl
  · exact s_ixm h1 h2
  · exact s_ixTm h1 h2
theorem s_catS (h : Sq s) (hl : l.length + m.length ≤ SZ) : sem2 .add (s (l.map f)) (s (m.map f)) = some (s ((l ++ m).map f)) := by
  rcases h with rfl | rfl
  · exact s_catm hl
  · exact s_catU hl
theorem sl_fromS (hs : Sq s) (h : 0 ≤ i) : semSl false (s (l.map f)) (some i) none = some (s ((l.drop i.toNat).map f)) := by
  rcases hs with rfl | rfl
  · exact sl_fromL h
  · exact sl_from h
theorem sl_toS (hs : Sq s) (h : 0 ≤ i) : semSl false (s (l.map f)) none (some i) = some (s ((l.take i.toNat).map f)) := by
  rcases hs with rfl | rfl
  · exact sl_toL h
  · exact sl_to h
theorem sl_midS (hs : Sq s) (h : 0 ≤ i) (hj : 0 ≤ j) : semSl false (s (l.map f)) (some i) (some j) = some (s (((l.drop i.toNat).take (j.toNat - i.toNat)).map f)) := by
  rcases hs with rfl | rfl
  · exact sl_midL h hj
  · exact sl_mid h hj
theorem seqOf_S {l : List D} (hs : Sq s) : seqOf (s l) = some l := by rcases hs with rfl | rfl <;> rfl
end
end CW

set_option linter.all false
/-! More rules. -/
namespace CW.Z
section
variable {cf : CF} {ρ : Env} {Q : Wk → Env → Prop} {X : Exn → Env → Prop}
theorem j_rng1 {a : E} (h : WE (evE cf a ρ) (fun x r => ∃ j, x = .int j ∧ okR 0 j = true ∧ Q ⟨(irange 0 j).map .int, none⟩ r) X) : WE (evI cf (.rng1 a) ρ) Q X :=
  i_rng1 (h.mono (fun x r ⟨j, e, k, q⟩ => ⟨j, e, k, by rw [rangeL_eq]; exact q⟩) fun _ _ q => q)
theorem j_rng2 {a b : E} (h : WE (evE cf a ρ) (fun x r => WE (evE cf b r) (fun y r => ∃ i j, x = .int i ∧ y = .int j ∧ okR i j = true ∧ Q ⟨(irange i j).map .int, none⟩ r) X) X) : WE (evI cf (.rng2 a b) ρ) Q X :=
  i_rng2 (h.mono (fun x r h => h.mono (fun y r ⟨i, j, e1, e2, k, q⟩ => ⟨i, j, e1, e2, k, by rw [rangeL_eq]; exact q⟩) fun _ _ q => q) fun _ _ q => q)
end
theorem fn_ok {cf : CF} {Y : Ex} {f : Fd} {ds : List D} {ρ0 : Env} {Q : D → List D → Prop} {X : Exn → List D → Prop} (e : initE f.ms ds = some ρ0)
    (h : WO (evSs cf Y f.body (ρ0 ++ List.replicate (f.N.length - f.ms.length) .un)) (fun r => ∃ o, f.nw = false ∧ outsE f.ms ds r = some o ∧ Q .non o) (fun d r => ∃ o, outsE f.ms ds r = some o ∧ Q d o) (fun _ => False) (fun _ => False) fun x r => ∃ o, outsE f.ms ds r = some o ∧ X x o) : WR (runF cf Y f ds) Q X := by
  unfold runF
  rw [e]
  dsimp only
  cases z : evSs cf Y f.body (ρ0 ++ List.replicate (f.N.length - f.ms.length) .un) with
  | nx r =>
    rw [z] at h
    obtain ⟨o, h1, h2, q⟩ := h
    dsimp only
    rw [h2]
    dsimp only
    rw [h1]; exact q
  | rt d r =>
    rw [z] at h
    obtain ⟨o, h2, q⟩ := h
    dsimp only
    rw [h2]; exact q
  | ex x r =>
    rw [z] at h
    obtain ⟨o, h2, q⟩ := h
    dsimp only
    rw [h2]; exact q
  | bk r => rw [z] at h; exact h.elim
  | ct r => rw [z] at h; exact h.elim
  | no => rw [z] at h; exact h.elim
theorem fn_at {cf : CF} {Y : Ex} {f : Fd} {ds : List D} (ρ : Env) {Q : D → List D → Prop} {X : Exn → List D → Prop} (e : startE f ds = some ρ)
    (h : WO (evSs cf Y f.body ρ) (fun r => ∃ o, f.nw = false ∧ outsE f.ms ds r = some o ∧ Q .non o) (fun d r => ∃ o, outsE f.ms ds r = some o ∧ Q d o) (fun _ => False) (fun _ => False) fun x r => ∃ o, outsE f.ms ds r = some o ∧ X x o) : WR (runF cf Y f ds) Q X := by
  unfold startE at e
  cases z : initE f.ms ds with
  | none => rw [z] at e; cases e
  | some r => rw [z] at e; cases e; exact fn_ok z h
theorem pk_var {cf : CF} {i : Nat} {ρ : Env} {x : Ar} {Q : Ar → Env → Prop} {X : Exn → Env → Prop} (h : pkS' (get ρ i) i = some x) (q : Q x ρ) : WE (pk (.var i) ρ (evE cf (.var i) ρ)) Q X := by
  unfold pk; dsimp only
  cases z : get ρ i <;> rw [z] at h <;> first | (cases h; done) | (cases h; exact q)
end CW.Z

set_option linter.all false
/-! The rules over sealed words. -/
namespace CW
@[irreducible] def WE {α : Type} (m : Ev α) (Q : α → Env → Prop) (X : Exn → Env → Prop) : Prop := Z.WE m Q X
@[irreducible] def WO (o : Out) (N : Env → Prop) (R : D → Env → Prop) (B C : Env → Prop) (X : Exn → Env → Prop) : Prop := Z.WO o N R B C X
@[irreducible] def WR (o : Rs) (Q : D → List D → Prop) (X : Exn → List D → Prop) : Prop := Z.WR o Q X
theorem WE_eq {α : Type} {m : Ev α} {Q : α → Env → Prop} {X : Exn → Env → Prop} : WE m Q X = Z.WE m Q X := by unfold WE; rfl
theorem WO_eq {o : Out} {N : Env → Prop} {R : D → Env → Prop} {B C : Env → Prop} {X : Exn → Env → Prop} : WO o N R B C X = Z.WO o N R B C X := by unfold WO; rfl
theorem WR_eq {o : Rs} {Q : D → List D → Prop} {X : Exn → List D → Prop} : WR o Q X = Z.WR o Q X := by unfold WR; rfl
def FL (cf : CF) (Y : Ex) (g : Tg) (a : Ss) (w : Wk) (r : Env) (N : Env → Prop) (R : D → Env → Prop) (B C : Env → Prop) (X : Exn → Env → Prop) : Prop :=
  WO (forLoop g (evSs cf Y a) w.items (lockW r w.lock)) (fun r => N (unlockW r w.lock)) (fun d r => R d (unlockW r w.lock)) (fun r => B (unlockW r w.lock)) (fun r => C (unlockW r w.lock)) (fun x r => X x (unlockW r w.lock))
def LC (cf : CF) (g : Tg) (own : List Nat) (cs : Ts) (elt : E) (w : Wk) (r : Env) (Q : D → Env → Prop) (X : Exn → Env → Prop) : Prop :=
  WE (lcLoop g own (evTs cf true cs) (evE cf elt) w.items (lockW r w.lock) []) (fun ds r2 => Q (.lst ds) (unlockW (back (lockW r w.lock) r2 own) w.lock)) X
theorem WE.bind {α β : Type} {m : Ev α} {f : α → Env → Ev β} {Q : β → Env → Prop} {X : Exn → Env → Prop} (h : WE m (fun a r => WE (f a r) Q X) X) : WE (m.bind f) Q X := by
  simp only [WE_eq, WO_eq, WR_eq, FL, LC] at *
  exact Z.WE.bind h
theorem WE.out {α : Type} {m : Ev α} {f : α → Env → Out} {N : Env → Prop} {R : D → Env → Prop} {B C : Env → Prop} {X : Exn → Env → Prop} (h : WE m (fun a r => WO (f a r) N R B C X) X) : WO (m.out f) N R B C X := by
  simp only [WE_eq, WO_eq, WR_eq, FL, LC] at *
  exact Z.WE.out h
theorem WE.of {α : Type} {ρ : Env} {o : Option α} {Q : α → Env → Prop} {X : Exn → Env → Prop} {a : α} (h : o = some a) (q : Q a ρ) : WE (Ev.of ρ o) Q X := by
  simp only [WE_eq, WO_eq, WR_eq, FL, LC] at *
  exact Z.WE.of h q
theorem WE.mono {α : Type} {m : Ev α} {Q Q' : α → Env → Prop} {X X' : Exn → Env → Prop} (h : WE m Q X) (i : ∀ a r, Q a r → Q' a r) (j : ∀ x r, X x r → X' x r) : WE m Q' X' := by
  simp only [WE_eq, WO_eq, WR_eq, FL, LC] at *
  exact Z.WE.mono h i j
theorem WE.eq {α : Type} {m : Ev α} {a : α} {ρ : Env} (h : WE m (fun b r => b = a ∧ r = ρ) fun _ _ => False) : m = .ok a ρ := by
  simp only [WE_eq, WO_eq, WR_eq, FL, LC] at *
  exact Z.WE.eq h
theorem WE.sure {α : Type} {m : Ev α} {a : α} {ρ : Env} {Q : α → Env → Prop} {X : Exn → Env → Prop} (h : m = .ok a ρ) (q : Q a ρ) : WE m Q X := by
  simp only [WE_eq, WO_eq, WR_eq, FL, LC] at *
  exact Z.WE.sure h q
theorem WO.mono {m : Out} {N N' : Env → Prop} {R R' : D → Env → Prop} {B B' C C' : Env → Prop} {X X' : Exn → Env → Prop} (h : WO m N R B C X) (i1 : ∀ r, N r → N' r) (i2 : ∀ d r, R d r → R' d r) (i3 : ∀ r, B r → B' r) (i4 : ∀ r, C r → C' r) (i5 : ∀ x r, X x r → X' x r) : WO m N' R' B' C' X' := by
  simp only [WE_eq, WO_eq, WR_eq, FL, LC] at *
  exact Z.WO.mono h i1 i2 i3 i4 i5
theorem WR.ret {o : Rs} {d : D} {l : List D} {Q : D → List D → Prop} {X : Exn → List D → Prop} (h : o = .ret d l) (q : Q d l) : WR o Q X := by
  simp only [WE_eq, WO_eq, WR_eq, FL, LC] at *
  exact Z.WR.ret h q
theorem WR.exc {o : Rs} {x : Exn} {l : List D} {Q : D → List D → Prop} {X : Exn → List D → Prop} (h : o = .exc x l) (q : X x l) : WR o Q X := by
  simp only [WE_eq, WO_eq, WR_eq, FL, LC] at *
  exact Z.WR.exc h q
theorem WR.eq {o : Rs} {d : D} {l : List D} (h : WR o (fun b r => b = d ∧ r = l) fun _ _ => False) : o = .ret d l := by
  simp only [WE_eq, WO_eq, WR_eq, FL, LC] at *
  exact Z.WR.eq h
theorem WR.eqx {o : Rs} {x : Exn} {l : List D} (h : WR o (fun _ _ => False) fun b r => b = x ∧ r = l) : o = .exc x l := by
  simp only [WE_eq, WO_eq, WR_eq, FL, LC] at *
  exact Z.WR.eqx h
theorem WR.cases {o : Rs} {Q : D → List D → Prop} {X : Exn → List D → Prop} (h : WR o Q X) : (∃ d l, o = .ret d l ∧ Q d l) ∨ ∃ x l, o = .exc x l ∧ X x l := by
  simp only [WE_eq, WO_eq, WR_eq, FL, LC] at *
  exact Z.WR.cases h
theorem WR.sure {o : Rs} {Q : D → List D → Prop} (h : WR o Q fun _ _ => False) : ∃ d l, o = .ret d l ∧ Q d l := by
  simp only [WE_eq, WO_eq, WR_eq, FL, LC] at *
  exact Z.WR.sure h
section
variable {cf : CF} {ρ : Env} {Q : D → Env → Prop} {X : Exn → Env → Prop}
theorem w_var {i : Nat} {d : D} (h : get ρ i = .va d) (q : Q d ρ) : WE (evE cf (.var i) ρ) Q X := by
  simp only [WE_eq, WO_eq, WR_eq, FL, LC] at *
  exact Z.w_var h q
theorem w_frz {i : Nat} {d : D} (h : get ρ i = .ow false d) (q : Q d (put ρ i (.va d))) : WE (evE cf (.frz i) ρ) Q X := by
  simp only [WE_eq, WO_eq, WR_eq, FL, LC] at *
  exact Z.w_frz h q
theorem w_frzv {i : Nat} {d : D} (h : get ρ i = .va d) (q : Q d ρ) : WE (evE cf (.frz i) ρ) Q X := by
  simp only [WE_eq, WO_eq, WR_eq, FL, LC] at *
  exact Z.w_frzv h q
theorem w_int {i : Int} (q : Q (.int i) ρ) : WE (evE cf (.int i) ρ) Q X := by
  simp only [WE_eq, WO_eq, WR_eq, FL, LC] at *
  exact Z.w_int q
theorem w_str {s : String} (q : Q (.str s) ρ) : WE (evE cf (.str s) ρ) Q X := by
  simp only [WE_eq, WO_eq, WR_eq, FL, LC] at *
  exact Z.w_str q
theorem w_bl {b : Bool} (q : Q (.bl b) ρ) : WE (evE cf (.bl b) ρ) Q X := by
  simp only [WE_eq, WO_eq, WR_eq, FL, LC] at *
  exact Z.w_bl q
theorem w_non (q : Q .non ρ) : WE (evE cf .non ρ) Q X := by
  simp only [WE_eq, WO_eq, WR_eq, FL, LC] at *
  exact Z.w_non q
theorem w_cst {x : String} {i : Int} (q : Q (.int i) ρ) : WE (evE cf (.cst x i) ρ) Q X := by
  simp only [WE_eq, WO_eq, WR_eq, FL, LC] at *
  exact Z.w_cst q
theorem pk_va {i : Nat} {d : D} {Q : Ar → Env → Prop} (h : get ρ i = .va d) (q : Q (.v d) ρ) : WE (pk (.var i) ρ (evE cf (.var i) ρ)) Q X := by
  simp only [WE_eq, WO_eq, WR_eq, FL, LC] at *
  exact Z.pk_va h q
theorem pk_ow {i : Nat} {b : Bool} {d : D} {Q : Ar → Env → Prop} (h : get ρ i = .ow b d) (q : Q (.r i) ρ) : WE (pk (.var i) ρ (evE cf (.var i) ρ)) Q X := by
  simp only [WE_eq, WO_eq, WR_eq, FL, LC] at *
  exact Z.pk_ow h q
theorem pk_lk {i : Nat} {b : Bool} {d : D} {Q : Ar → Env → Prop} (h : get ρ i = .lk b d) (q : Q (.r i) ρ) : WE (pk (.var i) ρ (evE cf (.var i) ρ)) Q X := by
  simp only [WE_eq, WO_eq, WR_eq, FL, LC] at *
  exact Z.pk_lk h q
theorem pk_e {a : E} {Q : Ar → Env → Prop} (h : WE (evE cf a ρ) (fun d r => Q (.v d) r) X) : WE (pk a ρ (evE cf a ρ)) Q X := by
  simp only [WE_eq, WO_eq, WR_eq, FL, LC] at *
  exact Z.pk_e h
theorem w_op1 {p : P1} {a : E} (h : WE (pk a ρ (evE cf a ρ)) (fun x r => ∃ x' z, drf r x = some x' ∧ sem1 p x' = some z ∧ Q z r) X) : WE (evE cf (.op1 p a) ρ) Q X := by
  simp only [WE_eq, WO_eq, WR_eq, FL, LC] at *
  exact Z.w_op1 h
theorem w_op2 {p : P2} {a b : E} (h : WE (pk a ρ (evE cf a ρ)) (fun x r1 => WE (pk b r1 (evE cf b r1)) (fun y r => ∃ x' y' z, drf r x = some x' ∧ drf r y = some y' ∧ sem2 p x' y' = some z ∧ Q z r) X) X) : WE (evE cf (.op2 p a b) ρ) Q X := by
  simp only [WE_eq, WO_eq, WR_eq, FL, LC] at *
  exact Z.w_op2 h
theorem w_lm {p : LM} {a b : E} (h : WE (pk a ρ (evE cf a ρ)) (fun x r1 => ∃ x0, drf r1 x = some x0 ∧ isLstD (some x0) = true ∧ WE (pk b r1 (evE cf b r1)) (fun y r => ∃ x' y' z, drf r x = some x' ∧ drf r y = some y' ∧ semLm p x' y' = some z ∧ Q z r) X) X) : WE (evE cf (.lm p a b) ρ) Q X := by
  simp only [WE_eq, WO_eq, WR_eq, FL, LC] at *
  exact Z.w_lm h
theorem w_chain {p p' : P2} {a b c : E} (h : WE (pk a ρ (evE cf a ρ)) (fun x r1 => WE (pk b r1 (evE cf b r1)) (fun y r => ∃ x' y' k, drf r x = some x' ∧ drf r y = some y' ∧ sem2 p x' y' = some (.bl k) ∧
    ((k = true → WE (pk c r (evE cf c r)) (fun z r3 => ∃ y3 z3 w, drf r3 y = some y3 ∧ drf r3 z = some z3 ∧ sem2 p' y3 z3 = some w ∧ Q w r3) X) ∧ (k = false → Q (.bl false) r))) X) X) : WE (evE cf (.chain p p' a b c) ρ) Q X := by
  simp only [WE_eq, WO_eq, WR_eq, FL, LC] at *
  exact Z.w_chain h
theorem w_bop {k : Bool} {es : Es} (h : WE (evB cf k es ρ) Q X) : WE (evE cf (.bop k es) ρ) Q X := by
  simp only [WE_eq, WO_eq, WR_eq, FL, LC] at *
  exact Z.w_bop h
theorem w_b1 {k : Bool} {e : E} (h : WE (evE cf e ρ) Q X) : WE (evB cf k (.cons e .nil) ρ) Q X := by
  simp only [WE_eq, WO_eq, WR_eq, FL, LC] at *
  exact Z.w_b1 h
theorem w_b2 {k : Bool} {e e2 : E} {es : Es} (h : WE (evE cf e ρ) (fun d r => ∃ b, d = .bl b ∧ (b = k → WE (evB cf k (.cons e2 es) r) Q X) ∧ (b = (!k) → Q (.bl b) r)) X) : WE (evB cf k (.cons e (.cons e2 es)) ρ) Q X := by
  simp only [WE_eq, WO_eq, WR_eq, FL, LC] at *
  exact Z.w_b2 h
theorem w_ite {c : T} {a b : E} (h : WE (evT cf c ρ) (fun k r => (k = true → WE (evE cf a r) Q X) ∧ (k = false → WE (evE cf b r) Q X)) X) : WE (evE cf (.ite c a b) ρ) Q X := by
  simp only [WE_eq, WO_eq, WR_eq, FL, LC] at *
  exact Z.w_ite h
theorem w_tup {es : Es} (h : WE (evEs cf es ρ) (fun l r => l.length ≤ SZ ∧ Q (.tup l) r) X) : WE (evE cf (.tup es) ρ) Q X := by
  simp only [WE_eq, WO_eq, WR_eq, FL, LC] at *
  exact Z.w_tup h
theorem w_lst {es : Es} (h : WE (evEs cf es ρ) (fun l r => l.length ≤ SZ ∧ Q (.lst l) r) X) : WE (evE cf (.lst es) ρ) Q X := by
  simp only [WE_eq, WO_eq, WR_eq, FL, LC] at *
  exact Z.w_lst h
theorem w_nil {Q : List D → Env → Prop} (q : Q [] ρ) : WE (evEs cf .nil ρ) Q X := by
  simp only [WE_eq, WO_eq, WR_eq, FL, LC] at *
  exact Z.w_nil q
theorem w_cons {e : E} {es : Es} {Q : List D → Env → Prop} (h : WE (evE cf e ρ) (fun d r => WE (evEs cf es r) (fun l r => Q (d :: l) r) X) X) : WE (evEs cf (.cons e es) ρ) Q X := by
  simp only [WE_eq, WO_eq, WR_eq, FL, LC] at *
  exact Z.w_cons h
theorem w_onone {Q : Option Int → Env → Prop} (q : Q none ρ) : WE (evO cf .none ρ) Q X := by
  simp only [WE_eq, WO_eq, WR_eq, FL, LC] at *
  exact Z.w_onone q
theorem w_osome {e : E} {Q : Option Int → Env → Prop} (h : WE (evE cf e ρ) (fun d r => ∃ i, d = .int i ∧ Q (some i) r) X) : WE (evO cf (.some e) ρ) Q X := by
  simp only [WE_eq, WO_eq, WR_eq, FL, LC] at *
  exact Z.w_osome h
theorem w_sl {nw : Bool} {a : E} {lo hi : Eo} (h : WE (pk a ρ (evE cf a ρ)) (fun x r => WE (evO cf lo r) (fun l r => WE (evO cf hi r) (fun h r => ∃ d z, drf r x = some d ∧ semSl nw d l h = some z ∧ Q z r) X) X) X) : WE (evE cf (.sl nw a lo hi) ρ) Q X := by
  simp only [WE_eq, WO_eq, WR_eq, FL, LC] at *
  exact Z.w_sl h
theorem w_fld {cs : List String} {a : E} {f : String} (h : WE (pk a ρ (evE cf a ρ)) (fun x r => ∃ c ns vs z, drf r x = some (.ins c ns vs) ∧ cs.contains c = true ∧ fldOf f ns vs = some z ∧ Q z r) X) : WE (evE cf (.fld cs a f) ρ) Q X := by
  simp only [WE_eq, WO_eq, WR_eq, FL, LC] at *
  exact Z.w_fld h
theorem w_isi {a : E} {t : Ty} (h : WE (pk a ρ (evE cf a ρ)) (fun x r => ∃ d k, drf r x = some d ∧ isT t d = some k ∧ Q (.bl k) r) X) : WE (evE cf (.isi a t) ρ) Q X := by
  simp only [WE_eq, WO_eq, WR_eq, FL, LC] at *
  exact Z.w_isi h
theorem w_pop {i : Nat} {b : Bool} {l : List D} {y : D} (h : get ρ i = .ow b (.lst (l ++ [y]))) (q : Q y (put ρ i (.ow b (.lst l)))) : WE (evE cf (.pop i) ρ) Q X := by
  simp only [WE_eq, WO_eq, WR_eq, FL, LC] at *
  exact Z.w_pop h q
theorem w_popAt {i : Nat} {a : E} (hl : isLs (get ρ i) = true) (h : WE (evE cf a ρ) (fun x r => ∃ b l k j y, get r i = .ow b (.lst l) ∧ x = .int k ∧ l.length ≤ SZ ∧ ixAt l.length k = some j ∧ l[j]? = some y ∧ Q y (put r i (.ow b (.lst (l.eraseIdx j))))) X) : WE (evE cf (.popAt i a) ρ) Q X := by
  simp only [WE_eq, WO_eq, WR_eq, FL, LC] at *
  exact Z.w_popAt hl h
theorem w_lrng {tp : Bool} {a b : E} (h : WE (evE cf a ρ) (fun x r => WE (evE cf b r) (fun y r => ∃ i j, x = .int i ∧ y = .int j ∧ okR i j = true ∧ (j - i).toNat ≤ SZ ∧ Q (if tp then .tup (rangeL i j) else .lst (rangeL i j)) r) X) X) : WE (evE cf (.lrng tp a b) ρ) Q X := by
  simp only [WE_eq, WO_eq, WR_eq, FL, LC] at *
  exact Z.w_lrng h
theorem w_eqo {c : String} {ne : Bool} {a b : E} (h : WE (evE cf a ρ) (fun x r => WE (evE cf b r) (fun y r => ∃ n1 v1 n2 v2 k o, x = .ins c n1 v1 ∧ y = .ins c n2 v2 ∧ cf (c ++ ".__eq__") [.ins c n1 v1, .ins c n2 v2] = .ret (.bl k) o ∧ Q (.bl (k != ne)) r) X) X) : WE (evE cf (.eqo c ne a b) ρ) Q X := by
  simp only [WE_eq, WO_eq, WR_eq, FL, LC] at *
  exact Z.w_eqo h
theorem wa_nil {Q : List Ar → Env → Prop} (q : Q [] ρ) : WE (evAs cf [] .nil ρ) Q X := by
  simp only [WE_eq, WO_eq, WR_eq, FL, LC] at *
  exact Z.wa_nil q
theorem wa_v {ms : List Bool} {e : E} {es : Es} {Q : List Ar → Env → Prop} (h : WE (evE cf e ρ) (fun d r => WE (evAs cf ms es r) (fun l r => Q (.v d :: l) r) X) X) : WE (evAs cf (false :: ms) (.cons e es) ρ) Q X := by
  simp only [WE_eq, WO_eq, WR_eq, FL, LC] at *
  exact Z.wa_v h
theorem wa_r {ms : List Bool} {i : Nat} {b : Bool} {d : D} {es : Es} {Q : List Ar → Env → Prop} (g : get ρ i = .ow b d) (h : WE (evAs cf ms es ρ) (fun l r => Q (.r i :: l) r) X) : WE (evAs cf (true :: ms) (.cons (.var i) es) ρ) Q X := by
  simp only [WE_eq, WO_eq, WR_eq, FL, LC] at *
  exact Z.wa_r g h
theorem wa_t {ms : List Bool} {e : E} {es : Es} {Q : List Ar → Env → Prop} (hn : ∀ i, e ≠ .var i) (h : WE (evE cf e ρ) (fun d r => WE (evAs cf ms es r) (fun l r => Q (.t d :: l) r) X) X) : WE (evAs cf (true :: ms) (.cons e es) ρ) Q X := by
  simp only [WE_eq, WO_eq, WR_eq, FL, LC] at *
  exact Z.wa_t hn h
theorem w_callA {f : String} {as : List Ar} {ds : List D} (h1 : nodupN (refs as) = true) (h2 : arDs ρ as = some ds) (h : WR (cf f ds) (fun d o => ∃ r, outTo as o ρ = some r ∧ Q d r) (fun x o => ∃ r, outTo as o ρ = some r ∧ X x r)) : WE (callA cf f as ρ) Q X := by
  simp only [WE_eq, WO_eq, WR_eq, FL, LC] at *
  exact Z.w_callA h1 h2 h
theorem w_call {f : String} {ms : List Bool} {nw : Bool} {es : Es} (h : WE (evAs cf ms es ρ) (fun as r0 => ∃ ds, nodupN (refs as) = true ∧ arDs r0 as = some ds ∧ WR (cf f ds) (fun d o => ∃ r, outTo as o r0 = some r ∧ Q d r) (fun x o => ∃ r, outTo as o r0 = some r ∧ X x r)) X) : WE (evE cf (.call f ms nw es) ρ) Q X := by
  simp only [WE_eq, WO_eq, WR_eq, FL, LC] at *
  exact Z.w_call h
theorem w_make {c : String} {ms : List Bool} {es : Es} (h : WE (evAs cf ms es ρ) (fun as r0 => ∃ ds, nodupN (refs as) = true ∧ arDs r0 as = some ds ∧ WR (cf (c ++ ".__init__") (.ins c [] [] :: ds)) (fun d o => d = .non ∧ ∃ s o' r, o = s :: o' ∧ outTo as o' r0 = some r ∧ Q s r) (fun x o => ∃ s o' r, o = s :: o' ∧ outTo as o' r0 = some r ∧ X x r)) X) : WE (evE cf (.make c ms es) ρ) Q X := by
  simp only [WE_eq, WO_eq, WR_eq, FL, LC] at *
  exact Z.w_make h
theorem w_meth {cs : List String} {m : String} {ms : List Bool} {nw : Bool} {a : E} {es : Es} (h : WE (evE cf a ρ) (fun d r => ∃ c ns vs, d = .ins c ns vs ∧ (cs.contains c && !ns.contains m) = true ∧
    WE (evAs cf ms es r) (fun as r0 => ∃ ds, nodupN (refs as) = true ∧ arDs r0 as = some ds ∧ WR (cf (c ++ "." ++ m) (.ins c ns vs :: ds)) (fun d o => ∃ s o' r, o = s :: o' ∧ outTo as o' r0 = some r ∧ Q d r) (fun x o => ∃ s o' r, o = s :: o' ∧ outTo as o' r0 = some r ∧ X x r)) X) X) : WE (evE cf (.meth cs m (false :: ms) nw a es) ρ) Q X := by
  simp only [WE_eq, WO_eq, WR_eq, FL, LC] at *
  exact Z.w_meth h
theorem w_methR {cs : List String} {m : String} {ms : List Bool} {nw : Bool} {i : Nat} {b : Bool} {c : String} {ns : List String} {vs : List D} {es : Es} (g : get ρ i = .ow b (.ins c ns vs)) (hc : (cs.contains c && !ns.contains m) = true)
    (h : WE (evAs cf ms es ρ) (fun as r0 => ∃ ds, nodupN (refs (.r i :: as)) = true ∧ arDs r0 (.r i :: as) = some ds ∧ WR (cf (c ++ "." ++ m) ds) (fun d o => ∃ r, outTo (.r i :: as) o r0 = some r ∧ Q d r) (fun x o => ∃ r, outTo (.r i :: as) o r0 = some r ∧ X x r)) X) : WE (evE cf (.meth cs m (true :: ms) nw (.var i) es) ρ) Q X := by
  simp only [WE_eq, WO_eq, WR_eq, FL, LC] at *
  exact Z.w_methR g hc h
end
section
variable {cf : CF} {ρ : Env} {Q : Bool → Env → Prop} {X : Exn → Env → Prop}
theorem t_tr {e : E} (h : WE (pk e ρ (evE cf e ρ)) (fun x r => ∃ d k, drf r x = some d ∧ tru d = some k ∧ Q k r) X) : WE (evT cf (.tr e) ρ) Q X := by
  simp only [WE_eq, WO_eq, WR_eq, FL, LC] at *
  exact Z.t_tr h
theorem t_cmp {p : P2} {a b : E} (h : WE (pk a ρ (evE cf a ρ)) (fun x r1 => WE (pk b r1 (evE cf b r1)) (fun y r => ∃ x' y' k, drf r x = some x' ∧ drf r y = some y' ∧ sem2 p x' y' = some (.bl k) ∧ Q k r) X) X) : WE (evT cf (.cmp p a b) ρ) Q X := by
  simp only [WE_eq, WO_eq, WR_eq, FL, LC] at *
  exact Z.t_cmp h
theorem t_cmpN {ne : Bool} {a : E} (h : WE (pk a ρ (evE cf a ρ)) (fun x r => ∃ x' k, drf r x = some x' ∧ sem1 (if ne then .notN else .isN) x' = some (.bl k) ∧ Q k r) X) : WE (evT cf (.cmpN ne a) ρ) Q X := by
  simp only [WE_eq, WO_eq, WR_eq, FL, LC] at *
  exact Z.t_cmpN h
theorem t_chain {p p' : P2} {a b c : E} (h : WE (pk a ρ (evE cf a ρ)) (fun x r1 => WE (pk b r1 (evE cf b r1)) (fun y r => ∃ x' y' k, drf r x = some x' ∧ drf r y = some y' ∧ sem2 p x' y' = some (.bl k) ∧
    ((k = true → WE (pk c r (evE cf c r)) (fun z r3 => ∃ y3 z3 w, drf r3 y = some y3 ∧ drf r3 z = some z3 ∧ sem2 p' y3 z3 = some (.bl w) ∧ Q w r3) X) ∧ (k = false → Q false r))) X) X) : WE (evT cf (.chain p p' a b c) ρ) Q X := by
  simp only [WE_eq, WO_eq, WR_eq, FL, LC] at *
  exact Z.t_chain h
theorem t_not {t : T} (h : WE (evT cf t ρ) (fun k r => Q (!k) r) X) : WE (evT cf (.not t) ρ) Q X := by
  simp only [WE_eq, WO_eq, WR_eq, FL, LC] at *
  exact Z.t_not h
theorem t_bop {k : Bool} {ts : Ts} (h : WE (evTs cf k ts ρ) Q X) : WE (evT cf (.bop k ts) ρ) Q X := by
  simp only [WE_eq, WO_eq, WR_eq, FL, LC] at *
  exact Z.t_bop h
theorem t_nil {k : Bool} (q : Q k ρ) : WE (evTs cf k .nil ρ) Q X := by
  simp only [WE_eq, WO_eq, WR_eq, FL, LC] at *
  exact Z.t_nil q
theorem t_cons {k : Bool} {t : T} {ts : Ts} (h : WE (evT cf t ρ) (fun b r => (b = k → WE (evTs cf k ts r) Q X) ∧ (b = (!k) → Q b r)) X) : WE (evTs cf k (.cons t ts) ρ) Q X := by
  simp only [WE_eq, WO_eq, WR_eq, FL, LC] at *
  exact Z.t_cons h
theorem t_one {k : Bool} {t : T} (h : WE (evT cf t ρ) Q X) : WE (evTs cf k (.cons t .nil) ρ) Q X := by
  simp only [WE_eq, WO_eq, WR_eq, FL, LC] at *
  exact Z.t_one h
theorem t_eqo {c : String} {a b : E} (h : WE (evE cf a ρ) (fun x r => WE (evE cf b r) (fun y r => ∃ n1 v1 n2 v2 k o, x = .ins c n1 v1 ∧ y = .ins c n2 v2 ∧ cf (c ++ ".__eq__") [.ins c n1 v1, .ins c n2 v2] = .ret (.bl k) o ∧ Q k r) X) X) : WE (evT cf (.eqo c a b) ρ) Q X := by
  simp only [WE_eq, WO_eq, WR_eq, FL, LC] at *
  exact Z.t_eqo h
end
section
variable {cf : CF} {ρ : Env} {Q : Wk → Env → Prop} {X : Exn → Env → Prop}
theorem i_seq {e : E} (h : WE (evE cf e ρ) (fun d r => ∃ l, (seqOf d = some l ∨ ∃ ns, d = .scr ns ∧ l = ns.map .int) ∧ Q ⟨l, none⟩ r) X) : WE (evI cf (.seq e) ρ) Q X := by
  simp only [WE_eq, WO_eq, WR_eq, FL, LC] at *
  exact Z.i_seq h
theorem i_seqL {e : E} (h : WE (evE cf e ρ) (fun d r => ∃ l, seqOf d = some l ∧ Q ⟨l, none⟩ r) X) : WE (evI cf (.seq e) ρ) Q X := by
  simp only [WE_eq, WO_eq, WR_eq, FL, LC] at *
  exact Z.i_seqL h
theorem i_liveV {i : Nat} {d : D} {l : List D} (g : get ρ i = .va d) (e : seqOf d = some l) (q : Q ⟨l, none⟩ ρ) : WE (evI cf (.live i) ρ) Q X := by
  simp only [WE_eq, WO_eq, WR_eq, FL, LC] at *
  exact Z.i_liveV g e q
theorem i_liveO {i : Nat} {b : Bool} {l : List D} (g : get ρ i = .ow b (.lst l)) (q : Q ⟨l, some i⟩ ρ) : WE (evI cf (.live i) ρ) Q X := by
  simp only [WE_eq, WO_eq, WR_eq, FL, LC] at *
  exact Z.i_liveO g q
theorem i_rng1 {a : E} (h : WE (evE cf a ρ) (fun x r => ∃ j, x = .int j ∧ okR 0 j = true ∧ Q ⟨rangeL 0 j, none⟩ r) X) : WE (evI cf (.rng1 a) ρ) Q X := by
  simp only [WE_eq, WO_eq, WR_eq, FL, LC] at *
  exact Z.i_rng1 h
theorem i_rng2 {a b : E} (h : WE (evE cf a ρ) (fun x r => WE (evE cf b r) (fun y r => ∃ i j, x = .int i ∧ y = .int j ∧ okR i j = true ∧ Q ⟨rangeL i j, none⟩ r) X) X) : WE (evI cf (.rng2 a b) ρ) Q X := by
  simp only [WE_eq, WO_eq, WR_eq, FL, LC] at *
  exact Z.i_rng2 h
theorem i_rng3 {a b : E} {c : Int} (h : WE (evE cf a ρ) (fun x r => WE (evE cf b r) (fun y r => ∃ i j, x = .int i ∧ y = .int j ∧ okR i j = true ∧ Q ⟨range3L i j c, none⟩ r) X) X) : WE (evI cf (.rng3 a b c) ρ) Q X := by
  simp only [WE_eq, WO_eq, WR_eq, FL, LC] at *
  exact Z.i_rng3 h
theorem i_enum {e : E} (h : WE (evE cf e ρ) (fun d r => ∃ l, seqOf d = some l ∧ Q ⟨enumD 0 l, none⟩ r) X) : WE (evI cf (.enum e) ρ) Q X := by
  simp only [WE_eq, WO_eq, WR_eq, FL, LC] at *
  exact Z.i_enum h
theorem i_zip {a b : E} (h : WE (evE cf a ρ) (fun x r => WE (evE cf b r) (fun y r => ∃ l m, seqOf x = some l ∧ seqOf y = some m ∧ Q ⟨zipD l m, none⟩ r) X) X) : WE (evI cf (.zip a b) ρ) Q X := by
  simp only [WE_eq, WO_eq, WR_eq, FL, LC] at *
  exact Z.i_zip h
theorem i_rev {e : E} (h : WE (evE cf e ρ) (fun d r => ∃ l, seqOf d = some l ∧ Q ⟨l.reverse, none⟩ r) X) : WE (evI cf (.rev e) ρ) Q X := by
  simp only [WE_eq, WO_eq, WR_eq, FL, LC] at *
  exact Z.i_rev h
end
section
variable {cf : CF} {Y : Ex} {ρ : Env} {N : Env → Prop} {R : D → Env → Prop} {B C : Env → Prop} {X : Exn → Env → Prop}
theorem s_nil (q : N ρ) : WO (evSs cf Y .nil ρ) N R B C X := by
  simp only [WE_eq, WO_eq, WR_eq, FL, LC] at *
  exact Z.s_nil q
theorem s_cons {s : S} {ss : Ss} (h : WO (evS cf Y s ρ) (fun r => WO (evSs cf Y ss r) N R B C X) R B C X) : WO (evSs cf Y (.cons s ss) ρ) N R B C X := by
  simp only [WE_eq, WO_eq, WR_eq, FL, LC] at *
  exact Z.s_cons h
theorem s_cut {s : S} {ss : Ss} (M : Env → Prop) (h1 : WO (evS cf Y s ρ) M R B C X) (h2 : ∀ r, M r → WO (evSs cf Y ss r) N R B C X) : WO (evSs cf Y (.cons s ss) ρ) N R B C X := by
  simp only [WE_eq, WO_eq, WR_eq, FL, LC] at *
  exact Z.s_cut M h1 h2
theorem s_set {i : Nat} {e : E} (h : WE (evE cf e ρ) (fun d r => free (get r i) = true ∧ N (put r i (.va d))) X) : WO (evS cf Y (.set i e) ρ) N R B C X := by
  simp only [WE_eq, WO_eq, WR_eq, FL, LC] at *
  exact Z.s_set h
theorem s_setN {i : Nat} {e : E} (h : WE (evE cf e ρ) (fun d r => free (get r i) = true ∧ N (put r i (.ow false d))) X) : WO (evS cf Y (.setN i e) ρ) N R B C X := by
  simp only [WE_eq, WO_eq, WR_eq, FL, LC] at *
  exact Z.s_setN h
theorem s_par {i j : Nat} {a b : E} (h : WE (evE cf a ρ) (fun x r => WE (evE cf b r) (fun y r => free (get r i) = true ∧ free (get r j) = true ∧ N (put (put r i (.va x)) j (.va y))) X) X) : WO (evS cf Y (.par i j a b) ρ) N R B C X := by
  simp only [WE_eq, WO_eq, WR_eq, FL, LC] at *
  exact Z.s_par h
theorem s_unp {g : Tg} {e : E} (h : WE (evE cf e ρ) (fun d r => ∃ r', setTg g d r = some r' ∧ N r') X) : WO (evS cf Y (.unp g e) ρ) N R B C X := by
  simp only [WE_eq, WO_eq, WR_eq, FL, LC] at *
  exact Z.s_unp h
theorem s_setix {i : Nat} {k v : E} (h : WE (evE cf v ρ) (fun y r => isLs (get r i) = true ∧ WE (evE cf k r) (fun x r => ∃ b l n l', get r i = .ow b (.lst l) ∧ x = .int n ∧ setL l n y = some l' ∧ N (put r i (.ow b (.lst l')))) X) X) : WO (evS cf Y (.setix i k v) ρ) N R B C X := by
  simp only [WE_eq, WO_eq, WR_eq, FL, LC] at *
  exact Z.s_setix h
theorem s_swap {i : Nat} {k1 k2 v1 v2 : E} (h : WE (evE cf v1 ρ) (fun y1 r => WE (evE cf v2 r) (fun y2 r => isLs (get r i) = true ∧ WE (evE cf k1 r) (fun x r => ∃ b l n l', get r i = .ow b (.lst l) ∧ x = .int n ∧ setL l n y1 = some l' ∧
    WE (evE cf k2 (put r i (.ow b (.lst l')))) (fun x r => ∃ b l n l', get r i = .ow b (.lst l) ∧ x = .int n ∧ setL l n y2 = some l' ∧ N (put r i (.ow b (.lst l')))) X) X) X) X) : WO (evS cf Y (.swap i k1 k2 v1 v2) ρ) N R B C X := by
  simp only [WE_eq, WO_eq, WR_eq, FL, LC] at *
  exact Z.s_swap h
theorem s_setf {i : Nat} {cs : List String} {f : String} {e : E} (h : WE (evE cf e ρ) (fun d r => ∃ b c ns vs, get r i = .ow b (.ins c ns vs) ∧ cs.contains c = true ∧ ns.length < 1000 ∧ ns.length = vs.length ∧ N (put r i (.ow b (.ins c (putF f d ns vs).1 (putF f d ns vs).2)))) X) : WO (evS cf Y (.setf i cs f e) ρ) N R B C X := by
  simp only [WE_eq, WO_eq, WR_eq, FL, LC] at *
  exact Z.s_setf h
theorem s_app {i : Nat} {e : E} (hl : isLs (get ρ i) = true) (h : WE (evE cf e ρ) (fun d r => ∃ b l, get r i = .ow b (.lst l) ∧ l.length < SZ ∧ N (put r i (.ow b (.lst (l ++ [d]))))) X) : WO (evS cf Y (.app i e) ρ) N R B C X := by
  simp only [WE_eq, WO_eq, WR_eq, FL, LC] at *
  exact Z.s_app hl h
theorem s_ext {i : Nat} {e : E} (hl : isLs (get ρ i) = true) (h : WE (evE cf e ρ) (fun d r => ∃ b l m, get r i = .ow b (.lst l) ∧ d = .lst m ∧ l.length + m.length ≤ SZ ∧ N (put r i (.ow b (.lst (l ++ m))))) X) : WO (evS cf Y (.ext i e) ρ) N R B C X := by
  simp only [WE_eq, WO_eq, WR_eq, FL, LC] at *
  exact Z.s_ext hl h
theorem s_ins0 {i : Nat} {e : E} (hl : isLs (get ρ i) = true) (h : WE (evE cf e ρ) (fun d r => ∃ b l, get r i = .ow b (.lst l) ∧ l.length < SZ ∧ N (put r i (.ow b (.lst (d :: l))))) X) : WO (evS cf Y (.ins0 i e) ρ) N R B C X := by
  simp only [WE_eq, WO_eq, WR_eq, FL, LC] at *
  exact Z.s_ins0 hl h
theorem s_rvs {i : Nat} {b : Bool} {l : List D} (h : get ρ i = .ow b (.lst l)) (q : N (put ρ i (.ow b (.lst l.reverse)))) : WO (evS cf Y (.rvs i) ρ) N R B C X := by
  simp only [WE_eq, WO_eq, WR_eq, FL, LC] at *
  exact Z.s_rvs h q
theorem s_exp {e : E} (h : WE (evE cf e ρ) (fun _ r => N r) X) : WO (evS cf Y (.exp e) ρ) N R B C X := by
  simp only [WE_eq, WO_eq, WR_eq, FL, LC] at *
  exact Z.s_exp h
theorem s_ret {e : E} (h : WE (evE cf e ρ) (fun d r => R d r) X) : WO (evS cf Y (.ret e) ρ) N R B C X := by
  simp only [WE_eq, WO_eq, WR_eq, FL, LC] at *
  exact Z.s_ret h
theorem s_retNv {i : Nat} {d : D} (h : get ρ i = .ow false d) (q : R d (put ρ i .un)) : WO (evS cf Y (.retN (.var i)) ρ) N R B C X := by
  simp only [WE_eq, WO_eq, WR_eq, FL, LC] at *
  exact Z.s_retNv h q
theorem s_retN {e : E} (hn : ∀ i, e ≠ .var i) (h : WE (evE cf e ρ) (fun d r => R d r) X) : WO (evS cf Y (.retN e) ρ) N R B C X := by
  simp only [WE_eq, WO_eq, WR_eq, FL, LC] at *
  exact Z.s_retN hn h
theorem s_ret0 (q : R .non ρ) : WO (evS cf Y .ret0 ρ) N R B C X := by
  simp only [WE_eq, WO_eq, WR_eq, FL, LC] at *
  exact Z.s_ret0 q
theorem s_ifs {c : T} {a b : Ss} (h : WE (evT cf c ρ) (fun k r => (k = true → WO (evSs cf Y a r) N R B C X) ∧ (k = false → WO (evSs cf Y b r) N R B C X)) X) : WO (evS cf Y (.ifs c a b) ρ) N R B C X := by
  simp only [WE_eq, WO_eq, WR_eq, FL, LC] at *
  exact Z.s_ifs h
theorem s_rse {c : String} {e : E} (h : WE (evE cf e ρ) (fun d r => X ⟨c, d⟩ r) X) : WO (evS cf Y (.rse c e) ρ) N R B C X := by
  simp only [WE_eq, WO_eq, WR_eq, FL, LC] at *
  exact Z.s_rse h
theorem s_pass (q : N ρ) : WO (evS cf Y .pass ρ) N R B C X := by
  simp only [WE_eq, WO_eq, WR_eq, FL, LC] at *
  exact Z.s_pass q
theorem s_brk (q : B ρ) : WO (evS cf Y .brk ρ) N R B C X := by
  simp only [WE_eq, WO_eq, WR_eq, FL, LC] at *
  exact Z.s_brk q
theorem s_cnt (q : C ρ) : WO (evS cf Y .cnt ρ) N R B C X := by
  simp only [WE_eq, WO_eq, WR_eq, FL, LC] at *
  exact Z.s_cnt q
theorem s_try {i : Nat} {a : Ss} {hs : Hs} (h : WO (evSs cf Y a ρ) N R B C fun x r => Y.cls.contains x.cls = true ∧ free (get r i) = true ∧ WO (evH cf Y x hs (put r i .un)) N R B C X) : WO (evS cf Y (.try_ i a hs) ρ) N R B C X := by
  simp only [WE_eq, WO_eq, WR_eq, FL, LC] at *
  exact Z.s_try h
theorem h_hit {x : Exn} {c : String} {e : E} {hs : Hs} (hc : Y.sub x.cls c = true) (h : WE (evE cf e ρ) (fun d r => R d r) X) : WO (evH cf Y x (.cons c e hs) ρ) N R B C X := by
  simp only [WE_eq, WO_eq, WR_eq, FL, LC] at *
  exact Z.h_hit hc h
theorem h_miss {x : Exn} {c : String} {e : E} {hs : Hs} (hc : Y.sub x.cls c = false) (h : WO (evH cf Y x hs ρ) N R B C X) : WO (evH cf Y x (.cons c e hs) ρ) N R B C X := by
  simp only [WE_eq, WO_eq, WR_eq, FL, LC] at *
  exact Z.h_miss hc h
end
theorem WO.mapR {m : Out} {f : Env → Env} {N : Env → Prop} {R : D → Env → Prop} {B C : Env → Prop} {X : Exn → Env → Prop} (h : WO m (fun r => N (f r)) (fun d r => R d (f r)) (fun r => B (f r)) (fun r => C (f r)) (fun x r => X x (f r))) : WO (m.mapR f) N R B C X := by
  simp only [WE_eq, WO_eq, WR_eq, FL, LC] at *
  exact Z.WO.mapR h
theorem forLoop_pre {α : Type} {g : Tg} {body : Env → Out} {N : Env → Prop} {R : D → Env → Prop} {B C : Env → Prop} {X : Exn → Env → Prop} (enc : α → D) (l : List α) (I : List α → Env → Prop) (ρ : Env) (h0 : I [] ρ)
    (hs : ∀ pre x post r, l = pre ++ x :: post → I pre r → ∃ r1, setTg g (enc x) r = some r1 ∧ WO (body r1) (I (pre ++ [x])) R N (I (pre ++ [x])) X) (he : ∀ r, I l r → N r) : WO (forLoop g body (l.map enc) ρ) N R B C X := by
  simp only [WE_eq, WO_eq, WR_eq, FL, LC] at *
  exact Z.forLoop_pre enc l I ρ h0 hs he
section
variable {cf : CF} {Y : Ex} {ρ : Env} {N : Env → Prop} {R : D → Env → Prop} {B C : Env → Prop} {X : Exn → Env → Prop}
theorem s_for {g : Tg} {it : It} {a : Ss} (h : WE (evI cf it ρ) (fun w r => FL cf Y g a w r N R B C X) X) : WO (evS cf Y (.for_ g it a) ρ) N R B C X := by
  simp only [WE_eq, WO_eq, WR_eq, FL, LC] at *
  exact Z.s_for h
theorem fl_pre {α : Type} {g : Tg} {a : Ss} {enc : α → D} {l : List α} {r : Env} {its : List D} (hi : its = l.map enc) (I : List α → Env → Prop) (h0 : I [] r)
    (hs : ∀ pre x post r, l = pre ++ x :: post → I pre r → ∃ r1, setTg g (enc x) r = some r1 ∧ WO (evSs cf Y a r1) (I (pre ++ [x])) R N (I (pre ++ [x])) X) (he : ∀ r, I l r → N r) : FL cf Y g a ⟨its, none⟩ r N R B C X := by
  simp only [WE_eq, WO_eq, WR_eq, FL, LC] at *
  exact Z.fl_pre hi I h0 hs he
theorem fl_lk {α : Type} {g : Tg} {a : Ss} {enc : α → D} {l : List α} {r : Env} {i : Nat} {its : List D} (hi : its = l.map enc) (I : List α → Env → Prop) (h0 : I [] (lockW r (some i)))
    (hs : ∀ pre x post r, l = pre ++ x :: post → I pre r → ∃ r1, setTg g (enc x) r = some r1 ∧ WO (evSs cf Y a r1) (I (pre ++ [x])) (fun d r => R d (unlockW r (some i))) (fun r => N (unlockW r (some i))) (I (pre ++ [x])) (fun x r => X x (unlockW r (some i)))) (he : ∀ r, I l r → N (unlockW r (some i))) : FL cf Y g a ⟨its, some i⟩ r N R B C X := by
  simp only [WE_eq, WO_eq, WR_eq, FL, LC] at *
  exact Z.fl_lk hi I h0 hs he
theorem s_whl {c : T} {bd : Ss} {α : Type} (I : α → Env → Prop) (m : α → Nat) (x : α) (hm : m x < WF) (h0 : I x ρ)
    (hs : ∀ a r, I a r → WE (evT cf c r) (fun k r1 => (k = true → WO (evSs cf Y bd r1) (fun r => ∃ b, m b < m a ∧ I b r) R N (fun r => ∃ b, m b < m a ∧ I b r) X) ∧ (k = false → N r1)) X) : WO (evS cf Y (.whl c bd) ρ) N R B C X := by
  simp only [WE_eq, WO_eq, WR_eq, FL, LC] at *
  exact Z.s_whl I m x hm h0 hs
end
section
variable {cf : CF} {ρ : Env} {Q : D → Env → Prop} {X : Exn → Env → Prop}
theorem w_lc {elt : E} {g : Tg} {own : List Nat} {it : It} {cs : Ts} (h : WE (evI cf it ρ) (fun w r => LC cf g own cs elt w r Q X) X) : WE (evE cf (.lc elt g own it cs) ρ) Q X := by
  simp only [WE_eq, WO_eq, WR_eq, FL, LC] at *
  exact Z.w_lc h
theorem lc_mapL {α : Type} {elt : E} {g : Tg} {own : List Nat} {cs : Ts} {enc : α → D} {l : List α} {lk : Option Nat} {its : List D} (hi : its = l.map enc) (P : Env) (hP : puts (lockW ρ lk) own = P) (hk : unlockW (lockW ρ lk) lk = ρ) (c : α → Bool) (f : α → D) (hl : l.length ≤ SZ)
    (h : ∀ x ∈ l, ∃ r1, setTg g (enc x) P = some r1 ∧ puts r1 own = P ∧ WE (evTs cf true cs r1) (fun k r => k = c x ∧ r = r1) (fun _ _ => False) ∧ (c x = true → WE (evE cf elt r1) (fun d r => d = f x ∧ r = r1) fun _ _ => False))
    (q : Q (.lst ((l.filter c).map f)) ρ) : LC cf g own cs elt ⟨its, lk⟩ ρ Q X := by
  simp only [WE_eq, WO_eq, WR_eq, FL, LC] at *
  exact Z.lc_mapL hi P hP hk c f hl h q
theorem lc_mapK {α β : Type} {elt : E} {g : Tg} {own : List Nat} {cs : Ts} {enc : α → D} {l : List α} {lk : Option Nat} {its : List D} (hi : its = l.map enc) (P : Env) (hP : puts (lockW ρ lk) own = P) (hk : unlockW (lockW ρ lk) lk = ρ) (c : α → Bool) (enc2 : β → D) (f : α → β) (hl : l.length ≤ SZ)
    (h : ∀ x ∈ l, ∃ r1, setTg g (enc x) P = some r1 ∧ puts r1 own = P ∧ WE (evTs cf true cs r1) (fun k r => k = c x ∧ r = r1) (fun _ _ => False) ∧ (c x = true → WE (evE cf elt r1) (fun d r => d = enc2 (f x) ∧ r = r1) fun _ _ => False))
    (q : Q (.lst (((l.filter c).map f).map enc2)) ρ) : LC cf g own cs elt ⟨its, lk⟩ ρ Q X := by
  simp only [WE_eq, WO_eq, WR_eq, FL, LC] at *
  exact Z.lc_mapK hi P hP hk c enc2 f hl h q
theorem lc_map {α β : Type} {elt : E} {g : Tg} {own : List Nat} {cs : Ts} {enc : α → D} {l : List α} {its : List D} (hi : its = l.map enc) (P : Env) (hP : puts ρ own = P) (c : α → Bool) (enc2 : β → D) (f : α → β) (hl : l.length ≤ SZ)
    (h : ∀ x ∈ l, ∃ r1, setTg g (enc x) P = some r1 ∧ puts r1 own = P ∧ WE (evTs cf true cs r1) (fun k r => k = c x ∧ r = r1) (fun _ _ => False) ∧ (c x = true → WE (evE cf elt r1) (fun d r => d = enc2 (f x) ∧ r = r1) fun _ _ => False))
    (q : Q (.lst (((l.filter c).map f).map enc2)) ρ) : LC cf g own cs elt ⟨its, none⟩ ρ Q X := by
  simp only [WE_eq, WO_eq, WR_eq, FL, LC] at *
  exact Z.lc_map hi P hP c enc2 f hl h q
theorem lc_allK {α β : Type} {elt : E} {g : Tg} {own : List Nat} {enc : α → D} {l : List α} {lk : Option Nat} {its : List D} (hi : its = l.map enc) (P : Env) (hP : puts (lockW ρ lk) own = P) (hk : unlockW (lockW ρ lk) lk = ρ) (enc2 : β → D) (f : α → β) (hl : l.length ≤ SZ)
    (h : ∀ x ∈ l, ∃ r1, setTg g (enc x) P = some r1 ∧ puts r1 own = P ∧ WE (evE cf elt r1) (fun d r => d = enc2 (f x) ∧ r = r1) fun _ _ => False)
    (q : Q (.lst ((l.map f).map enc2)) ρ) : LC cf g own .nil elt ⟨its, lk⟩ ρ Q X := by
  simp only [WE_eq, WO_eq, WR_eq, FL, LC] at *
  exact Z.lc_allK hi P hP hk enc2 f hl h q
theorem lc_all {α β : Type} {elt : E} {g : Tg} {own : List Nat} {enc : α → D} {l : List α} {its : List D} (hi : its = l.map enc) (P : Env) (hP : puts ρ own = P) (enc2 : β → D) (f : α → β) (hl : l.length ≤ SZ)
    (h : ∀ x ∈ l, ∃ r1, setTg g (enc x) P = some r1 ∧ puts r1 own = P ∧ WE (evE cf elt r1) (fun d r => d = enc2 (f x) ∧ r = r1) fun _ _ => False)
    (q : Q (.lst ((l.map f).map enc2)) ρ) : LC cf g own .nil elt ⟨its, none⟩ ρ Q X := by
  simp only [WE_eq, WO_eq, WR_eq, FL, LC] at *
  exact Z.lc_all hi P hP enc2 f hl h q
theorem lc_invK {α : Type} {elt : E} {g : Tg} {own : List Nat} {cs : Ts} {enc : α → D} {l : List α} {lk : Option Nat} {its : List D} (hi : its = l.map enc) (I : List α → List D → Env → Prop) (hl : l.length ≤ SZ) (h0 : I [] [] (lockW ρ lk))
    (hs : ∀ pre x post r acc, l = pre ++ x :: post → I pre acc r → ∃ r1, setTg g (enc x) (puts r own) = some r1 ∧ WE (evTs cf true cs r1) (fun k r2 => (k = true → WE (evE cf elt r2) (fun d r => I (pre ++ [x]) (acc ++ [d]) r) fun _ _ => False) ∧ (k = false → I (pre ++ [x]) acc r2)) fun _ _ => False)
    (he : ∀ r acc, I l acc r → Q (.lst acc) (unlockW (back (lockW ρ lk) r own) lk)) : LC cf g own cs elt ⟨its, lk⟩ ρ Q X := by
  simp only [WE_eq, WO_eq, WR_eq, FL, LC] at *
  exact Z.lc_invK hi I hl h0 hs he
theorem lc_inv {α : Type} {elt : E} {g : Tg} {own : List Nat} {cs : Ts} {enc : α → D} {l : List α} {its : List D} (hi : its = l.map enc) (I : List α → List D → Env → Prop) (hl : l.length ≤ SZ) (h0 : I [] [] ρ)
    (hs : ∀ pre x post r acc, l = pre ++ x :: post → I pre acc r → ∃ r1, setTg g (enc x) (puts r own) = some r1 ∧ WE (evTs cf true cs r1) (fun k r2 => (k = true → WE (evE cf elt r2) (fun d r => I (pre ++ [x]) (acc ++ [d]) r) fun _ _ => False) ∧ (k = false → I (pre ++ [x]) acc r2)) fun _ _ => False)
    (he : ∀ r acc, I l acc r → Q (.lst acc) (back ρ r own)) : LC cf g own cs elt ⟨its, none⟩ ρ Q X := by
  simp only [WE_eq, WO_eq, WR_eq, FL, LC] at *
  exact Z.lc_inv hi I hl h0 hs he
end
section
variable {cf : CF} {ρ : Env} {Q : Wk → Env → Prop} {X : Exn → Env → Prop}
theorem j_rng1 {a : E} (h : WE (evE cf a ρ) (fun x r => ∃ j, x = .int j ∧ okR 0 j = true ∧ Q ⟨(irange 0 j).map .int, none⟩ r) X) : WE (evI cf (.rng1 a) ρ) Q X := by
  simp only [WE_eq, WO_eq, WR_eq, FL, LC] at *
  exact Z.j_rng1 h
theorem j_rng2 {a b : E} (h : WE (evE cf a ρ) (fun x r => WE (evE cf b r) (fun y r => ∃ i j, x = .int i ∧ y = .int j ∧ okR i j = true ∧ Q ⟨(irange i j).map .int, none⟩ r) X) X) : WE (evI cf (.rng2 a b) ρ) Q X := by
  simp only [WE_eq, WO_eq, WR_eq, FL, LC] at *
  exact Z.j_rng2 h
end
theorem fn_ok {cf : CF} {Y : Ex} {f : Fd} {ds : List D} {ρ0 : Env} {Q : D → List D → Prop} {X : Exn → List D → Prop} (e : initE f.ms ds = some ρ0)
    (h : WO (evSs cf Y f.body (ρ0 ++ List.replicate (f.N.length - f.ms.length) .un)) (fun r => ∃ o, f.nw = false ∧ outsE f.ms ds r = some o ∧ Q .non o) (fun d r => ∃ o, outsE f.ms ds r = some o ∧ Q d o) (fun _ => False) (fun _ => False) fun x r => ∃ o, outsE f.ms ds r = some o ∧ X x o) : WR (runF cf Y f ds) Q X := by
  simp only [WE_eq, WO_eq, WR_eq, FL, LC] at *
  exact Z.fn_ok e h
theorem fn_at {cf : CF} {Y : Ex} {f : Fd} {ds : List D} (ρ : Env) {Q : D → List D → Prop} {X : Exn → List D → Prop} (e : startE f ds = some ρ)
    (h : WO (evSs cf Y f.body ρ) (fun r => ∃ o, f.nw = false ∧ outsE f.ms ds r = some o ∧ Q .non o) (fun d r => ∃ o, outsE f.ms ds r = some o ∧ Q d o) (fun _ => False) (fun _ => False) fun x r => ∃ o, outsE f.ms ds r = some o ∧ X x o) : WR (runF cf Y f ds) Q X := by
  simp only [WE_eq, WO_eq, WR_eq, FL, LC] at *
  exact Z.fn_at ρ e h
theorem pk_var {cf : CF} {i : Nat} {ρ : Env} {x : Ar} {Q : Ar → Env → Prop} {X : Exn → Env → Prop} (h : pkS' (get ρ i) i = some x) (q : Q x ρ) : WE (pk (.var i) ρ (evE cf (.var i) ρ)) Q X := by
  simp only [WE_eq, WO_eq, WR_eq, FL, LC] at *
  exact Z.pk_var h q
/-! which kind of goal -/
theorem kE {cf : CF} {e : E} {ρ : Env} {Q : D → Env → Prop} {X : Exn → Env → Prop} (h : WE (evE cf e ρ) Q X) : WE (evE cf e ρ) Q X := h
theorem kP {cf : CF} {e : E} {ρ : Env} {Q : Ar → Env → Prop} {X : Exn → Env → Prop} (h : WE (pk e ρ (evE cf e ρ)) Q X) : WE (pk e ρ (evE cf e ρ)) Q X := h
theorem kT {cf : CF} {e : T} {ρ : Env} {Q : Bool → Env → Prop} {X : Exn → Env → Prop} (h : WE (evT cf e ρ) Q X) : WE (evT cf e ρ) Q X := h
theorem kL {cf : CF} {e : Es} {ρ : Env} {Q : List D → Env → Prop} {X : Exn → Env → Prop} (h : WE (evEs cf e ρ) Q X) : WE (evEs cf e ρ) Q X := h
theorem kA {cf : CF} {ms : List Bool} {e : Es} {ρ : Env} {Q : List Ar → Env → Prop} {X : Exn → Env → Prop} (h : WE (evAs cf ms e ρ) Q X) : WE (evAs cf ms e ρ) Q X := h
theorem kI {cf : CF} {e : It} {ρ : Env} {Q : Wk → Env → Prop} {X : Exn → Env → Prop} (h : WE (evI cf e ρ) Q X) : WE (evI cf e ρ) Q X := h
theorem kS {cf : CF} {Y : Ex} {e : S} {ρ : Env} {N : Env → Prop} {R : D → Env → Prop} {B C : Env → Prop} {X : Exn → Env → Prop} (h : WO (evS cf Y e ρ) N R B C X) : WO (evS cf Y e ρ) N R B C X := h
theorem kH {cf : CF} {Y : Ex} {x : Exn} {e : Hs} {ρ : Env} {N : Env → Prop} {R : D → Env → Prop} {B C : Env → Prop} {X : Exn → Env → Prop} (h : WO (evH cf Y x e ρ) N R B C X) : WO (evH cf Y x e ρ) N R B C X := h
theorem kC {A B : Prop} (h : A ∧ B) : A ∧ B := h
theorem kX {α : Sort _} {p : α → Prop} (h : ∃ x, p x) : ∃ x, p x := h
theorem gVar {cf : CF} {ρ : Env} {Q : D → Env → Prop} {X : Exn → Env → Prop} {i : Nat} (h : WE (evE cf (.var i) ρ) Q X) : WE (evE cf (.var i) ρ) Q X := h
theorem gFrz {cf : CF} {ρ : Env} {Q : D → Env → Prop} {X : Exn → Env → Prop} {i : Nat} (h : WE (evE cf (.frz i) ρ) Q X) : WE (evE cf (.frz i) ρ) Q X := h
theorem gPop {cf : CF} {ρ : Env} {Q : D → Env → Prop} {X : Exn → Env → Prop} {i : Nat} (h : WE (evE cf (.pop i) ρ) Q X) : WE (evE cf (.pop i) ρ) Q X := h
theorem gPopAt {cf : CF} {ρ : Env} {Q : D → Env → Prop} {X : Exn → Env → Prop} {i : Nat} {a : E} (h : WE (evE cf (.popAt i a) ρ) Q X) : WE (evE cf (.popAt i a) ρ) Q X := h
theorem gMethR {cf : CF} {ρ : Env} {Q : D → Env → Prop} {X : Exn → Env → Prop} {cs : List String} {m : String} {ms : List Bool} {nw : Bool} {i : Nat} {es : Es} (h : WE (evE cf (.meth cs m (true :: ms) nw (.var i) es) ρ) Q X) : WE (evE cf (.meth cs m (true :: ms) nw (.var i) es) ρ) Q X := h
theorem gApp {cf : CF} {Y : Ex} {ρ : Env} {N : Env → Prop} {R : D → Env → Prop} {B C : Env → Prop} {X : Exn → Env → Prop} {i : Nat} {e : E} (h : WO (evS cf Y (.app i e) ρ) N R B C X) : WO (evS cf Y (.app i e) ρ) N R B C X := h
theorem gExt {cf : CF} {Y : Ex} {ρ : Env} {N : Env → Prop} {R : D → Env → Prop} {B C : Env → Prop} {X : Exn → Env → Prop} {i : Nat} {e : E} (h : WO (evS cf Y (.ext i e) ρ) N R B C X) : WO (evS cf Y (.ext i e) ρ) N R B C X := h
theorem gIns0 {cf : CF} {Y : Ex} {ρ : Env} {N : Env → Prop} {R : D → Env → Prop} {B C : Env → Prop} {X : Exn → Env → Prop} {i : Nat} {e : E} (h : WO (evS cf Y (.ins0 i e) ρ) N R B C X) : WO (evS cf Y (.ins0 i e) ρ) N R B C X := h
theorem gRvs {cf : CF} {Y : Ex} {ρ : Env} {N : Env → Prop} {R : D → Env → Prop} {B C : Env → Prop} {X : Exn → Env → Prop} {i : Nat} (h : WO (evS cf Y (.rvs i) ρ) N R B C X) : WO (evS cf Y (.rvs i) ρ) N R B C X := h
theorem gRetNv {cf : CF} {Y : Ex} {ρ : Env} {N : Env → Prop} {R : D → Env → Prop} {B C : Env → Prop} {X : Exn → Env → Prop} {i : Nat} (h : WO (evS cf Y (.retN (.var i)) ρ) N R B C X) : WO (evS cf Y (.retN (.var i)) ρ) N R B C X := h
theorem gRetN {cf : CF} {Y : Ex} {ρ : Env} {N : Env → Prop} {R : D → Env → Prop} {B C : Env → Prop} {X : Exn → Env → Prop} {e : E} (h : WO (evS cf Y (.retN e) ρ) N R B C X) : WO (evS cf Y (.retN e) ρ) N R B C X := h
theorem gAr {cf : CF} {ρ : Env} {Q : List Ar → Env → Prop} {X : Exn → Env → Prop} {ms : List Bool} {i : Nat} {es : Es} (h : WE (evAs cf (true :: ms) (.cons (.var i) es) ρ) Q X) : WE (evAs cf (true :: ms) (.cons (.var i) es) ρ) Q X := h
theorem gAt {cf : CF} {ρ : Env} {Q : List Ar → Env → Prop} {X : Exn → Env → Prop} {ms : List Bool} {e : E} {es : Es} (h : WE (evAs cf (true :: ms) (.cons e es) ρ) Q X) : WE (evAs cf (true :: ms) (.cons e es) ρ) Q X := h
theorem gPk {cf : CF} {i : Nat} {ρ : Env} {Q : Ar → Env → Prop} {X : Exn → Env → Prop} (h : WE (pk (.var i) ρ (evE cf (.var i) ρ)) Q X) : WE (pk (.var i) ρ (evE cf (.var i) ρ)) Q X := h
theorem gLive {cf : CF} {i : Nat} {ρ : Env} {Q : Wk → Env → Prop} {X : Exn → Env → Prop} (h : WE (evI cf (.live i) ρ) Q X) : WE (evI cf (.live i) ρ) Q X := h
end CW

set_option linter.all false
set_option maxRecDepth 100000
set_option maxHeartbeats 0
namespace CW
-- step<
local macro_rules | `(tactic| fail "o") => `(tactic| first
  | ((with_reducible refine le_SZ ?_); first | exact Nat.le_of_ble_eq_true rfl | omega | (simp only [List.length_map, List.length_cons, List.length_nil, List.length_append, List.length_range, List.length_take, List.length_drop, List.length_dropLast, List.length_reverse] at *; omega))
  | ((with_reducible refine lt_SZ ?_); first | exact Nat.le_of_ble_eq_true rfl | omega | (simp only [List.length_map, List.length_cons, List.length_nil, List.length_append, List.length_range, List.length_take, List.length_drop, List.length_dropLast, List.length_reverse] at *; omega)))
local macro_rules | `(tactic| fail "s") => `(tactic| first
  | with_reducible exact s_add
  | with_reducible exact s_sub
  | with_reducible exact s_lt
  | with_reducible exact s_le
  | with_reducible exact s_gt
  | with_reducible exact s_ge
  | with_reducible exact s_eq
  | with_reducible exact s_ne
  | ((with_reducible apply s_mod); omega)
  | ((with_reducible apply s_div); omega; omega)
  | ((with_reducible apply s_mulR); first | exact small_of (by omega) (by omega) | exact small_of (by decide) (by decide))
  | ((with_reducible apply s_mulL); exact small_of (by omega) (by omega))
  | with_reducible exact s_eqs
  | with_reducible exact s_nes
  | with_reducible exact s_eqb
  | with_reducible exact s_neb
  | with_reducible exact s_isb
  | with_reducible exact s_nisb
  | with_reducible exact s_inI
  | with_reducible exact s_nin2
  | with_reducible exact s_in2
  | with_reducible exact s_b2i
  | with_reducible exact s_i2i
  | with_reducible exact s_max2
  | with_reducible exact s_min2
  | with_reducible exact s_lenm
  | with_reducible exact s_lenTm
  | with_reducible exact s_len
  | with_reducible exact s_lenT
  | with_reducible exact s_sumI
  | with_reducible exact s_sumT
  | with_reducible exact s_all
  | with_reducible exact s_any
  | with_reducible exact s_eqN
  | with_reducible exact s_neN
  | with_reducible exact s_eqL
  | with_reducible exact s_neL
  | with_reducible exact s_eqU
  | with_reducible exact s_neU
  | ((with_reducible apply s_band); omega; omega)
  | ((with_reducible apply s_bxor); omega; omega)
  | ((with_reducible apply s_ixm); omega; omega)
  | ((with_reducible apply s_ixTm); omega; omega)
  | ((with_reducible apply s_catm); fail "o")
  | ((with_reducible apply s_catU); fail "o")
  | ((with_reducible apply s_cat1); fail "o")
  | ((with_reducible apply s_catU1); fail "o")
  | ((with_reducible apply s_cat2); fail "o")
  | ((with_reducible apply s_catU2); fail "o")
  | ((with_reducible apply s_catm'); fail "o")
  | ((with_reducible apply s_cat1'); fail "o")
  | ((with_reducible apply s_cat); fail "o")
  | ((with_reducible apply s_catT); fail "o")
  | ((with_reducible apply s_cat'); fail "o")
  | ((with_reducible apply s_rep); omega; omega; fail "o")
  | ((with_reducible apply s_repT); (intro h; cases h); omega; omega; exact Nat.le_of_ble_eq_true rfl)
  | exact s_ix (by decide) rfl
  | exact s_ixT (by decide) rfl
  | rfl
  | ((with_reducible apply s_lenS); assumption)
  | ((with_reducible apply s_sumS); assumption)
  | ((with_reducible apply s_listS); assumption)
  | ((with_reducible apply s_tupleS); assumption)
  | ((with_reducible apply s_ixS); assumption; omega; omega)
  | ((with_reducible apply s_catS); assumption; fail "o"))
local macro_rules | `(tactic| fail) => `(tactic| first
  | ((with_reducible refine kE ?_); first
    | ((with_reducible refine gVar ?_); refine w_var rfl ?_) | with_reducible refine w_op2 ?_ | with_reducible refine w_int ?_ | with_reducible refine w_op1 ?_ | with_reducible refine w_cst ?_ | with_reducible refine w_call ?_ | with_reducible refine w_str ?_ | with_reducible refine w_cons ?_ | with_reducible refine w_fld ?_ | with_reducible refine w_tup ?_ | with_reducible refine w_bl ?_ | with_reducible refine w_non ?_ | with_reducible refine w_bop ?_ | with_reducible refine w_b1 ?_ | with_reducible refine w_b2 ?_ | with_reducible refine w_ite ?_ | with_reducible refine w_lst ?_ | with_reducible refine w_nil ?_ | with_reducible refine w_chain ?_ | with_reducible refine w_meth ?_ | with_reducible refine w_sl ?_ | with_reducible refine w_onone ?_ | with_reducible refine w_osome ?_ | with_reducible refine w_isi ?_ | with_reducible refine w_make ?_ | with_reducible refine w_lrng ?_ | with_reducible refine w_eqo ?_ | with_reducible refine w_lm ?_ | with_reducible refine w_lc ?_ | ((with_reducible refine gFrz ?_); (first | refine w_frz rfl ?_ | refine w_frzv rfl ?_)) | ((with_reducible refine gPop ?_); refine w_pop rfl ?_) | ((with_reducible refine gPopAt ?_); refine w_popAt rfl ?_) | ((with_reducible refine gMethR ?_); refine w_methR rfl rfl ?_))
  | ((with_reducible refine kP ?_); first
    | ((with_reducible refine gPk ?_); refine pk_var rfl ?_) | with_reducible refine pk_e ?_)
  | ((with_reducible refine kC ?_); first
    | ((with_reducible refine And.intro ?_ ?_); (first | with_reducible rfl | ((with_reducible refine q_okR ?_ ?_ ?_ ?_); omega; omega; omega; omega) | fail "o" | ((with_reducible refine eqG ?_); rfl))) | ((with_reducible refine ifT ?_ ?_); (first | with_reducible rfl | with_reducible exact bnt | exact decide_eq_true (by omega) | exact ndT (by omega) | exact decide_eq_true (by decide))) | ((with_reducible refine anT ?_ ?_); (first | with_reducible rfl | with_reducible exact bnt | exact decide_eq_true (by omega) | exact ndT (by omega) | exact decide_eq_true (by decide))) | ((with_reducible refine orT ?_ ?_); (first | with_reducible rfl | with_reducible exact bnt | exact decide_eq_true (by omega) | exact ndT (by omega) | exact decide_eq_true (by decide))) | ((with_reducible refine ifF ?_ ?_); (first | with_reducible rfl | with_reducible exact bnf | exact decide_eq_false (by omega) | exact ndF (by omega) | exact decide_eq_false (by decide))) | ((with_reducible refine anF ?_ ?_); (first | with_reducible rfl | with_reducible exact bnf | exact decide_eq_false (by omega) | exact ndF (by omega) | exact decide_eq_false (by decide))) | ((with_reducible refine orF ?_ ?_); (first | with_reducible rfl | with_reducible exact bnf | exact decide_eq_false (by omega) | exact ndF (by omega) | exact decide_eq_false (by decide))))
  | ((with_reducible refine kX ?_); first
    | ((with_reducible apply ex2); rfl; rfl; fail "s") | ((with_reducible apply ex1); rfl; fail "s") | ((with_reducible apply ex2b); rfl; rfl; fail "s") | ((with_reducible apply exF); rfl; rfl; rfl) | ((with_reducible apply exA); rfl; rfl) | ((with_reducible apply exR); rfl) | ((with_reducible apply exR); exact seqOf_S (by assumption)) | ((with_reducible apply exN); rfl; rfl) | ((with_reducible apply exT); rfl; rfl) | ((with_reducible apply exI); rfl; rfl) | ((with_reducible apply exRR); rfl; rfl) | ((with_reducible apply exX); rfl; rfl; (first | ((with_reducible apply setL_map); omega; omega) | rfl)) | ((with_reducible apply exS); rfl; (first | ((with_reducible apply sl_from); omega) | ((with_reducible apply sl_to); omega) | ((with_reducible apply sl_mid); omega; omega) | with_reducible exact sl_last | ((with_reducible apply sl_fromL); omega) | ((with_reducible apply sl_toL); omega) | ((with_reducible apply sl_midL); omega; omega) | with_reducible exact sl_lastL | ((with_reducible apply sl_fromS); assumption; omega) | ((with_reducible apply sl_toS); assumption; omega) | ((with_reducible apply sl_midS); assumption; omega; omega) | rfl)) | ((with_reducible apply exM); rfl; rfl) | ((with_reducible apply exMo); rfl; rfl) | ((with_reducible apply exSF); rfl; rfl; exact Nat.le_of_ble_eq_true rfl; rfl) | ((with_reducible apply exP); rfl; fail "o"))
  | with_reducible refine s_cons ?_
  | ((with_reducible refine kS ?_); first
    | with_reducible refine s_set ?_ | with_reducible refine s_ifs ?_ | with_reducible refine s_ret ?_ | with_reducible refine s_setN ?_ | with_reducible refine s_for ?_ | with_reducible refine s_exp ?_ | with_reducible refine s_unp ?_ | with_reducible refine s_rse ?_ | with_reducible refine s_par ?_ | with_reducible refine s_setix ?_ | with_reducible refine s_swap ?_ | with_reducible refine s_setf ?_ | with_reducible refine s_ret0 ?_ | with_reducible refine s_pass ?_ | with_reducible refine s_brk ?_ | with_reducible refine s_cnt ?_ | ((with_reducible refine gApp ?_); refine s_app rfl ?_) | ((with_reducible refine gExt ?_); refine s_ext rfl ?_) | ((with_reducible refine gIns0 ?_); refine s_ins0 rfl ?_) | ((with_reducible refine gRvs ?_); refine s_rvs rfl ?_) | ((with_reducible refine gRetNv ?_); refine s_retNv rfl ?_) | ((with_reducible refine gRetN ?_); refine s_retN (by intro i e; cases e) ?_))
  | with_reducible refine s_nil ?_
  | ((with_reducible refine kT ?_); first
    | with_reducible refine t_cmp ?_ | with_reducible refine t_bop ?_ | with_reducible refine t_not ?_ | with_reducible refine t_tr ?_ | with_reducible refine t_chain ?_ | with_reducible refine t_cmpN ?_ | with_reducible refine t_eqo ?_)
  | ((with_reducible refine kH ?_); first
    | ((with_reducible refine h_hit ?_ ?_); rfl) | ((with_reducible refine h_miss ?_ ?_); rfl))
  | with_reducible refine s_try ?_
  | with_reducible refine w_cons ?_
  | with_reducible refine w_nil ?_
  | with_reducible refine t_one ?_
  | with_reducible refine t_cons ?_
  | with_reducible refine t_nil ?_
  | with_reducible refine w_b1 ?_
  | with_reducible refine w_b2 ?_
  | with_reducible refine w_onone ?_
  | with_reducible refine w_osome ?_
  | with_reducible refine wa_v ?_
  | with_reducible refine wa_nil ?_
  | ((with_reducible refine gAr ?_); refine wa_r rfl ?_)
  | ((with_reducible refine gAt ?_); refine wa_t (by intro i e; cases e) ?_)
  | ((with_reducible refine kI ?_); first
    | with_reducible refine i_seqL ?_ | with_reducible refine i_enum ?_ | with_reducible refine i_zip ?_ | with_reducible refine i_rev ?_ | with_reducible refine i_rng3 ?_ | with_reducible refine j_rng1 ?_ | with_reducible refine j_rng2 ?_ | ((with_reducible refine gLive ?_); (first | refine i_liveV rfl rfl ?_ | refine i_liveO rfl ?_))))
local macro_rules | `(tactic| fail "d") => `(tactic| first
  | fail | with_reducible refine ifD (fun h => ?_) (fun h => ?_) | with_reducible refine ifN (fun h => ?_) (fun h => ?_) | with_reducible refine anD (fun h => ?_) (fun h => ?_) | with_reducible refine anN (fun h => ?_) (fun h => ?_) | with_reducible refine orD (fun h => ?_) (fun h => ?_) | with_reducible refine orN (fun h => ?_) (fun h => ?_))
-- >step
def cCell : Fd := ⟨"_law_cell", none, "_law_cell", ["script", "k"], [false, false], false, (.cons (.ifs (.cmp .lt (.var 1) (.op1 .len (.var 0))) (.cons (.ret (.op2 .ix (.var 0) (.var 1))) .nil) .nil) (.cons (.ret (.int 0)) .nil))⟩
def cSource : Fd := ⟨"_law_source", none, "_law_source", ["cell", "k"], [false, false], true, (.cons (.ifs (.cmp .ge (.var 0) (.op2 .pow (.int 10) (.int 18))) (.cons (.retN (.lst (.cons (.op2 .sub (.var 0) (.op2 .pow (.int 10) (.int 18))) (.cons (.op2 .add (.var 1) (.int 1)) .nil)))) .nil) .nil) (.cons (.retN (.lst (.cons (.int 0) (.cons (.op2 .mod (.op1 .int (.op2 .add (.op2 .add (.op2 .mul (.var 0) (.int 7919)) (.op2 .mul (.var 1) (.int 104729))) (.int 1))) (.int 2147483647)) .nil)))) .nil))⟩
def cPick : Fd := ⟨"_law_pick", none, "_law_pick", ["source", "many", "picked", "mixed"], [true, false], false, (.cons (.ifs (.cmp .gt (.op2 .ix (.var 0) (.int 0)) (.int 1)) (.cons (.set 2 (.op2 .mod (.op1 .int (.op2 .ix (.var 0) (.int 0))) (.var 1))) (.cons (.setix 0 (.int 0) (.op2 .fdiv (.op2 .ix (.var 0) (.int 0)) (.var 1))) (.cons (.ret (.var 2)) .nil))) .nil) (.cons (.setix 0 (.int 1) (.op2 .mod (.op1 .int (.op2 .add (.op2 .mul (.op2 .ix (.var 0) (.int 1)) (.int 48271)) (.int 12345))) (.int 2147483647))) (.cons (.set 3 (.op2 .mod (.op1 .int (.op2 .add (.op2 .add (.op2 .mul (.op2 .ix (.var 0) (.int 1)) (.int 69621)) (.op2 .fdiv (.op2 .ix (.var 0) (.int 1)) (.int 127))) (.int 7))) (.int 2147483629))) (.cons (.ret (.op2 .mod (.op1 .int (.op2 .fdiv (.var 3) (.int 16))) (.var 1))) .nil))))⟩
def cSame : Fd := ⟨"_law_same", none, "_law_same", ["told", "due", "k"], [false, false], false, (.cons (.ifs (.tr (.isi (.var 1) .tuple)) (.cons (.ifs (.bop false (.cons (.not (.tr (.isi (.var 0) .tuple))) (.cons (.cmp .ne (.op1 .len (.var 0)) (.op1 .len (.var 1))) .nil))) (.cons (.ret (.bl false)) .nil) .nil) (.cons (.ret (.op2 .eq (.lc (.var 2) (.nm 2) [2] (.rng1 (.op1 .len (.var 1))) (.cons (.not (.tr (.call "_law_same" [false, false] false (.cons (.op2 .ix (.var 0) (.var 2)) (.cons (.op2 .ix (.var 1) (.var 2)) .nil))))) .nil)) (.lst .nil))) .nil)) .nil) (.cons (.ifs (.tr (.isi (.var 1) .list)) (.cons (.ifs (.bop false (.cons (.not (.tr (.isi (.var 0) .list))) (.cons (.cmp .ne (.op1 .len (.var 0)) (.op1 .len (.var 1))) .nil))) (.cons (.ret (.bl false)) .nil) .nil) (.cons (.ret (.op2 .eq (.lc (.var 2) (.nm 2) [2] (.rng1 (.op1 .len (.var 1))) (.cons (.not (.tr (.call "_law_same" [false, false] false (.cons (.op2 .ix (.var 0) (.var 2)) (.cons (.op2 .ix (.var 1) (.var 2)) .nil))))) .nil)) (.lst .nil))) .nil)) .nil) (.cons (.ifs (.cmpN false (.var 1)) (.cons (.ret (.op1 .isN (.var 0))) .nil) .nil) (.cons (.ifs (.tr (.isi (.var 1) .bool)) (.cons (.ret (.bop true (.cons (.isi (.var 0) .bool) (.cons (.op2 .eq (.var 0) (.var 1)) .nil)))) .nil) .nil) (.cons (.ifs (.tr (.isi (.var 1) .int)) (.cons (.ret (.bop true (.cons (.isi (.var 0) .int) (.cons (.op1 .notv (.isi (.var 0) .bool)) (.cons (.op2 .eq (.var 0) (.var 1)) .nil))))) .nil) .nil) (.cons (.ret (.bop true (.cons (.isi (.var 0) .str) (.cons (.op2 .eq (.var 0) (.var 1)) .nil)))) .nil))))))⟩

/-! ### the drawn numbers -/
def src (s : Int × Int) : D := .lst [.int s.1, .int s.2]
def pkM (s : Int × Int) : Int := (s.2 * 48271 + 12345) % 2147483647
def pkV (s : Int × Int) (m : Int) : Int := if 1 < s.1 then s.1 % m else (pkM s * 69621 + pkM s / 127 + 7) % 2147483629 / 16 % m
def pkS (s : Int × Int) (m : Int) : Int × Int := if 1 < s.1 then (s.1 / m, s.2) else (s.1, pkM s)
theorem pkV_bd (s : Int × Int) {m : Int} (h : 0 < m) : 0 ≤ pkV s m ∧ pkV s m < m := by
  unfold pkV
  split
  · exact ⟨Int.emod_nonneg _ (by omega), Int.emod_lt_of_pos _ h⟩
  · exact ⟨Int.emod_nonneg _ (by omega), Int.emod_lt_of_pos _ h⟩
theorem pick_run {cf Y} (s : Int × Int) (m : Int) (h1 : 0 < m) (h2 : m < 1000000) : runF cf Y cPick [src s, .int m] = .ret (.int (pkV s m)) [src (pkS s m), .int m] := by
  refine WR.eq (fn_at [.ow true (src s), .va (.int m), .un, .un] rfl ?_)
  dsimp only [cPick]
  repeat fail
  refine ⟨fun h => ?_, fun h => ?_⟩
  · simp only [decide_eq_true_eq] at h
    repeat fail
    unfold pkV pkS src
    rw [if_pos h, if_pos h]
    exact ⟨rfl, rfl⟩
  · simp only [decide_eq_false_iff_not] at h
    repeat fail
    unfold pkV pkS src
    rw [if_neg h, if_neg h]
    exact ⟨rfl, rfl⟩
/-- what a pick does: some number in the range -/
theorem pick_ok {cf Y} (s : Int × Int) (m : Int) (h1 : 0 < m) (h2 : m < 1000000) : ∃ v s', 0 ≤ v ∧ v < m ∧ runF cf Y cPick [src s, .int m] = .ret (.int v) [src s', .int m] :=
  ⟨pkV s m, pkS s m, (pkV_bd s h1).1, (pkV_bd s h1).2, pick_run s m h1 h2⟩
theorem cell_ok {cf Y} (l : List Int) (k : Int) (h : 0 ≤ k) : ∃ c, runF cf Y cCell [.scr l, .int k] = .ret (.int c) [.scr l, .int k] := by
  by_cases hk : k < l.length
  · refine ⟨l[k.toNat]!, WR.eq (fn_at [.va (.scr l), .va (.int k)] rfl ?_)⟩
    dsimp only [cCell]
    repeat fail
    refine ex2 (x' := .scr l) (y' := .int k) (z := .int (l[k.toNat]!)) rfl rfl ?_ ?_
    · have : k.toNat < l.length := by omega
      show ((ixAt l.length k).bind fun k => l[k]?).map _ = _
      rw [ixAt_of (by omega) (by omega)]
      show (l[k.toNat]?).map _ = _
      rw [List.getElem?_eq_getElem this, getElem!_pos l _ this]; rfl
    · repeat fail
      rfl
  · refine ⟨0, WR.eq (fn_at [.va (.scr l), .va (.int k)] rfl ?_)⟩
    dsimp only [cCell]
    repeat fail
    rfl
theorem source_ok {cf Y} (c k : Int) : ∃ s, runF cf Y cSource [.int c, .int k] = .ret (src s) [.int c, .int k] := by
  by_cases h : (10 : Int) ^ (18 : Int).toNat ≤ c
  · refine ⟨(c - 10 ^ (18 : Int).toNat, k + 1), WR.eq (fn_at [.va (.int c), .va (.int k)] rfl ?_)⟩
    dsimp only [cSource]
    repeat fail
    rfl
  · refine ⟨(0, (c * 7919 + k * 104729 + 1) % 2147483647), WR.eq (fn_at [.va (.int c), .va (.int k)] rfl ?_)⟩
    dsimp only [cSource]
    repeat fail
    rfl

/-- a pick with any bound -/
theorem lg_lt {i : Int} {k : Nat} (h0 : 0 ≤ i) (h : i < 2 ^ k) (hk : 0 < k) : i.natAbs.log2 < k := by
  by_cases z : i.natAbs = 0
  · rw [z]; simpa using hk
  · rw [Nat.log2_lt z]
    have : ((i.natAbs : Nat) : Int) < ((2 ^ k : Nat) : Int) := by
      rw [Int.natAbs_of_nonneg h0, Int.natCast_pow]; exact h
    exact Int.ofNat_lt.mp this
theorem pickW_run {cf Y} (s : Int × Int) (m : Int) (h1 : 0 < m) (h2 : m.natAbs.log2 < 9000) : runF cf Y cPick [src s, .int m] = .ret (.int (pkV s m)) [src (pkS s m), .int m] := by
  refine WR.eq (fn_at [.ow true (src s), .va (.int m), .un, .un] rfl ?_)
  dsimp only [cPick]
  repeat fail
  refine ⟨fun h => ?_, fun h => ?_⟩
  · simp only [decide_eq_true_eq] at h
    repeat fail
    refine ex2 rfl rfl (s_divW h1 h2) ?_
    repeat fail
    unfold pkV pkS src
    rw [if_pos h, if_pos h]
    exact ⟨rfl, rfl⟩
  · simp only [decide_eq_false_iff_not] at h
    repeat fail
    unfold pkV pkS src
    rw [if_neg h, if_neg h]
    exact ⟨rfl, rfl⟩
/-- what picks do -/
def Pick (cf : CF) : Prop := ∀ (s : Int × Int) (m : Int), 0 < m → m.natAbs.log2 < 9000 → ∃ v s', 0 ≤ v ∧ v < m ∧ cf "_law_pick" [src s, .int m] = .ret (.int v) [src s', .int m]
theorem pick_of {P : List Fd} {Y : Ex} (hP : findF P "_law_pick" = some cPick) (n : Nat) (hn : 1 ≤ n) : Pick (callF P Y n) := by
  intro s m h1 h2
  obtain ⟨k, rfl⟩ : ∃ k, n = k + 1 := ⟨n - 1, by omega⟩
  rw [callF_succ hP]
  exact ⟨pkV s m, pkS s m, (pkV_bd s h1).1, (pkV_bd s h1).2, pickW_run s m h1 h2⟩
theorem lg_small {m : Int} (h0 : 0 ≤ m) (h : m < 18446744073709551616) : m.natAbs.log2 < 9000 :=
  Nat.lt_of_lt_of_le (lg_lt (k := 64) h0 h (by omega)) (by omega)
theorem put_put : ∀ (r : Env) (k : Nat) (a b : Sl), put (put r k a) k b = put r k b
  | [], _, _, _ => rfl
  | _ :: _, 0, _, _ => rfl
  | x :: r, k + 1, a, b => by show x :: put (put r k a) k b = _; rw [put_put r]; rfl
theorem put_comm : ∀ (r : Env) (i j : Nat) (a b : Sl), i ≠ j → put (put r i a) j b = put (put r j b) i a
  | [], _, _, _, _, _ => rfl
  | _ :: _, 0, 0, _, _, h => absurd rfl h
  | _ :: _, 0, _ + 1, _, _, _ => rfl
  | _ :: _, _ + 1, 0, _, _, _ => rfl
  | x :: r, i + 1, j + 1, a, b, h => by show x :: put (put r i a) j b = x :: put (put r j b) i a; rw [put_comm r i j a b fun e => h (by rw [e])]
theorem put_get : ∀ (r : Env) (k : Nat), put r k (get r k) = r
  | [], _ => rfl
  | _ :: _, 0 => rfl
  | x :: r, k + 1 => by show x :: put r k (get r k) = _; rw [put_get r]
/-- a comprehension of picks -/
theorem lc_draw {cf : CF} (hp : Pick cf) {e : E} {k : Nat} {ρ : Env} {s : Int × Int} {M N : Int} (hs : get ρ 0 = .ow true (src s)) (hk : k ≠ 0) (hM : 0 < M) (hM2 : M.natAbs.log2 < 9000) (hN : N ≤ 16777216)
    (hE : ∀ s' d, WE (evE cf e (put (put ρ 0 (.ow true (src s'))) k (.va d))) (fun x r => x = .int M ∧ r = put (put ρ 0 (.ow true (src s'))) k (.va d)) (fun _ _ => False)) {Q : D → Env → Prop} {X : Exn → Env → Prop}
    (q : ∀ (vs : List Int) s', vs.length = N.toNat → (∀ v ∈ vs, 0 ≤ v ∧ v < M) → Q (.lst (vs.map .int)) (put ρ 0 (.ow true (src s')))) :
    LC cf (.nm k) [k] .nil (.call "_law_pick" [true, false] false (.cons (.var 0) (.cons e .nil))) ⟨(irange 0 N).map .int, none⟩ ρ Q X := by
  have h0 : 0 < ρ.length := by cases ρ with
    | nil => cases hs
    | cons _ _ => exact Nat.zero_lt_succ _
  have hput : ρ = put ρ 0 (.ow true (src s)) := by rw [← hs, put_get]
  refine lc_inv rfl (fun pr acc r => ∃ (vs : List Int) (s' : Int × Int) (t : Sl), acc = vs.map .int ∧ vs.length = pr.length ∧ (∀ v ∈ vs, 0 ≤ v ∧ v < M) ∧ r = put (put ρ 0 (.ow true (src s'))) k t) (le_SZ (by rw [irange_len]; omega)) ⟨[], s, get ρ k, rfl, rfl, fun v h => (by cases h), ?_⟩ ?_ ?_
  · rw [← hput, put_get]
  · rintro pr x post r acc e' ⟨vs, s', t, rfl, hl, hv, rfl⟩
    refine ⟨put (put ρ 0 (.ow true (src s'))) k (.va (.int x)), ?_, ?_⟩
    · show (if free (get (put (put (put ρ 0 (.ow true (src s'))) k t) k .un) k) then some (put (put (put (put ρ 0 (.ow true (src s'))) k t) k .un) k (.va (.int x))) else none) = _
      rw [put_put]
      by_cases hlen : k < ρ.length
      · rw [Z.q_get_put _ _ _ (by rw [Z.q_put_len]; exact hlen), put_put]; rfl
      · have hbig : ∀ (r : Env) (k : Nat) (a : Sl), ¬ k < r.length → get (put r k a) k = .un := by
          intro r
          induction r with
          | nil => intro k a _; cases k <;> rfl
          | cons x r ih =>
            intro k a h
            cases k with
            | zero => exact absurd (Nat.zero_lt_succ _) h
            | succ k => exact ih k a fun q => h (Nat.succ_lt_succ q)
        rw [hbig _ _ _ (by rw [Z.q_put_len]; exact hlen), put_put]; rfl
    refine t_nil ⟨fun _ => ?_, fun h => by cases h⟩
    have hg : get (put (put ρ 0 (.ow true (src s'))) k (.va (.int x))) 0 = .ow true (src s') := by
      rw [Z.q_get_put_ne _ _ _ _ hk, Z.q_get_put _ _ _ h0]
    refine w_call (wa_r hg (wa_v ?_))
    refine (hE s' (.int x)).mono ?_ fun _ _ h => h.elim
    rintro d r ⟨rfl, rfl⟩
    refine wa_nil ?_
    obtain ⟨v, s2, v0, v1, ev⟩ := hp s' M hM hM2
    refine ⟨[src s', .int M], rfl, ?_, ?_⟩
    · show (arD _ _).bind _ = _
      unfold arD
      dsimp only
      rw [hg]; rfl
    refine WR.ret ev ?_
    refine ⟨put (put (put ρ 0 (.ow true (src s'))) k (.va (.int x))) 0 (.ow true (src s2)), ?_, vs ++ [v], s2, .va (.int x), ?_, ?_, ?_, ?_⟩
    · unfold outTo
      rw [hg]; rfl
    · rw [List.map_append]; rfl
    · rw [List.length_append, hl]; simp
    · intro y m
      rcases List.mem_append.mp m with m | m
      · exact hv y m
      · rw [List.mem_singleton.mp m]; exact ⟨v0, v1⟩
    · rw [put_comm _ k 0 _ _ hk, put_put]
  · rintro r acc ⟨vs, s', t, rfl, hl, hv, rfl⟩
    rw [irange_len] at hl
    have : back ρ (put (put ρ 0 (.ow true (src s'))) k t) [k] = put ρ 0 (.ow true (src s')) := by
      show put (put _ k t) k (get ρ k) = _
      rw [put_put]
      have : get ρ k = get (put ρ 0 (.ow true (src s'))) k := (Z.q_get_put_ne _ _ _ _ (Ne.symm hk)).symm
      rw [this, put_get]
    rw [this]
    exact q vs s' (by omega) hv
/-- of picks below a number -/
theorem draw_int {cf : CF} {ρ : Env} {M : Int} : WE (evE cf (.int M) ρ) (fun x r => x = .int M ∧ r = ρ) (fun _ _ => False) := w_int ⟨rfl, rfl⟩

/-! ### what is the same -/
mutual
def dSz : Nat → D → Bool
  | _, .non => true | _, .bl _ => true | _, .int _ => true
  | _, .str _ => true
  | 0, .lst _ => false
  | n + 1, .lst l => decide (l.length ≤ 16777216) && dsSz n l
  | 0, .tup _ => false
  | n + 1, .tup l => decide (l.length ≤ 16777216) && dsSz n l
  | _, .ins _ _ _ => false
  | _, .scr _ => false
def dsSz : Nat → List D → Bool
  | _, [] => true
  | n, d :: ds => dSz n d && dsSz n ds
end
theorem dsSz_mem {n : Nat} : ∀ {l : List D} {d : D}, dsSz n l = true → d ∈ l → dSz n d = true
  | [], _, _, h => by cases h
  | x :: l, d, h, m => by
    unfold dsSz at h
    simp only [Bool.and_eq_true] at h
    rcases List.mem_cons.mp m with rfl | m
    · exact h.1
    · exact dsSz_mem h.2 m
theorem same_seq {cf : CF} {l : List D} {Q : D → Env → Prop} (ih : ∀ d ∈ l, cf "_law_same" [d, d] = .ret (.bl true) [d, d]) (d0 : D) (h0 : d0 = .lst l ∨ d0 = .tup l) (hl : l.length ≤ 16777216) {X : Exn → Env → Prop} (q : Q (.lst []) [.va d0, .va d0, .un]) :
    LC cf (.nm 2) [2] (.cons (.not (.tr (.call "_law_same" [false, false] false (.cons (.op2 .ix (.var 0) (.var 2)) (.cons (.op2 .ix (.var 1) (.var 2)) .nil))))) .nil) (.var 2) ⟨(irange 0 l.length).map .int, none⟩ [.va d0, .va d0, .un] Q X := by
  refine lc_map rfl [.va d0, .va d0, .un] rfl (fun _ => false) (fun x : Int => .non) (fun x => x) (le_SZ (by rw [irange_len]; omega)) (fun i hi => ?_) (by rw [List.filter_eq_nil_iff.mpr (fun _ _ => by decide)]; exact q)
  obtain ⟨h1, h2⟩ := mem_irange.mp hi
  refine ⟨[.va d0, .va d0, .va (.int i)], rfl, rfl, ?_, fun e => by cases e⟩
  have ex : sem2 .ix d0 (.int i) = some l[i.toNat] := by
    rcases h0 with rfl | rfl
    · exact s_ix (by omega) (by rw [List.getElem?_eq_some_iff]; exact ⟨by omega, rfl⟩)
    · exact s_ixT (by omega) (by rw [List.getElem?_eq_some_iff]; exact ⟨by omega, rfl⟩)
  repeat fail
  refine ex2 rfl rfl ex ?_
  repeat fail
  refine ex2 rfl rfl ex ?_
  repeat fail
  refine WR.ret (ih _ (List.getElem_mem (by omega))) ?_
  repeat fail
  rfl
/-- data are the same as themselves -/
theorem same_ok {P : List Fd} {Y : Ex} (hP : findF P "_law_same" = some cSame) : ∀ (k n : Nat) (d : D), dSz k d = true → callF P Y (n + k + 1) "_law_same" [d, d] = .ret (.bl true) [d, d] := by
  intro k
  induction k with
  | zero =>
    intro n d hd
    rw [callF_succ hP]
    refine WR.eq (fn_at [.va d, .va d, .un] rfl ?_)
    dsimp only [cSame]
    cases d <;> first | (cases hd; done) | skip
    all_goals repeat fail
    all_goals first | rfl | (refine ⟨?_, rfl⟩; simp)
  | succ k ih =>
    intro n d hd
    have ih' : ∀ l, dsSz k l = true → ∀ d ∈ l, callF P Y (n + (k + 1)) "_law_same" [d, d] = .ret (.bl true) [d, d] := fun l h d m => by
      have := ih n d (dsSz_mem h m)
      rw [show n + (k + 1) = n + k + 1 by omega]; exact this
    rw [callF_succ hP]
    revert ih'
    generalize callF P Y (n + (k + 1)) = cf
    intro ih'
    refine WR.eq (fn_at [.va d, .va d, .un] rfl ?_)
    dsimp only [cSame]
    cases d with
    | lst l =>
      unfold dSz at hd
      simp only [Bool.and_eq_true, decide_eq_true_eq] at hd
      obtain ⟨hd1, hd2⟩ := hd
      repeat fail
      refine same_seq (ih' l hd2) (.lst l) (.inl rfl) hd1 ?_
      repeat fail
      rfl
    | tup l =>
      unfold dSz at hd
      simp only [Bool.and_eq_true, decide_eq_true_eq] at hd
      obtain ⟨hd1, hd2⟩ := hd
      repeat fail
      refine same_seq (ih' l hd2) (.tup l) (.inr rfl) hd1 ?_
      repeat fail
      rfl
    | ins => cases hd
    | scr => cases hd
    | _ =>
      repeat fail
      all_goals first | rfl | (refine ⟨?_, rfl⟩; simp)
end CW

set_option Elab.async false
set_option linter.all false
set_option maxRecDepth 100000
set_option maxHeartbeats 0
namespace Pk30
open PySem PySem.Spec PyProof.Rows L2 CW
def top (i : Nat) : Stmt := PySem.Challenge.pw_codewhole_k30_whole_parts_of_a_whole.main.body.getD i (.Pass ⟨0, 0, 0, 0⟩)
/-- raised -/
def f0 : Fd := ⟨"raised", none, "raised", ["base", "e", "result", "step"], [false, false], false, (.cons (.set 2 (.int 1)) (.cons (.for_ (.nm 3) (.rng1 (.var 1)) (.cons (.set 2 (.op2 .mul (.var 2) (.var 0))) .nil)) (.cons (.ret (.var 2)) .nil)))⟩
def d0 : He.DefD := ⟨("raised", none), "raised", "raised", defArgs (top 6), defBody (top 6), defScope (top 6), [], []⟩
/-- _checked -/
def f1 : Fd := ⟨"_checked", none, "_checked", ["weights", "found", "weight"], [false], false, (.cons (.set 1 (.op1 .tuple (.var 0))) (.cons (.ifs (.bop false (.cons (.not (.tr (.var 1))) (.cons (.not (.tr (.op1 .all (.lc (.op2 .gt (.var 2) (.int 0)) (.nm 2) [2] (.seq (.var 1)) .nil)))) .nil))) (.cons (.rse "BadRow" (.str "weights")) .nil) .nil) (.cons (.ret (.var 1)) .nil)))⟩
def d1 : He.DefD := ⟨("_checked", none), "_checked", "_checked", defArgs (top 9), defBody (top 9), defScope (top 9), [], []⟩
/-- part_of -/
def f2 : Fd := ⟨"part_of", none, "part_of", ["weights", "text", "total", "low", "size", "whole", "letter"], [false, false], false, (.cons (.set 0 (.call "_checked" [false] false (.cons (.var 0) .nil))) (.cons (.ifs (.cmp .gt (.op1 .len (.var 1)) (.cst "MOST_LETTERS" (200))) (.cons (.rse "TooLarge" (.str "text")) .nil) .nil) (.cons (.ifs (.not (.tr (.op1 .all (.lc (.chain .le .lt (.int 0) (.var 6) (.op1 .len (.var 0))) (.nm 6) [6] (.seq (.var 1)) .nil)))) (.cons (.rse "BadRow" (.str "letter")) .nil) .nil) (.cons (.set 2 (.op1 .sum (.var 0))) (.cons (.unp (.tp3 (.nm 3) (.nm 4) (.nm 5)) (.tup (.cons (.int 0) (.cons (.int 1) (.cons (.int 1) .nil))))) (.cons (.for_ (.nm 6) (.seq (.var 1)) (.cons (.set 3 (.op2 .add (.op2 .mul (.var 3) (.var 2)) (.op2 .mul (.var 4) (.op1 .sum (.sl false (.var 0) .none (.some (.var 6))))))) (.cons (.set 4 (.op2 .mul (.var 4) (.op2 .ix (.var 0) (.var 6)))) (.cons (.set 5 (.op2 .mul (.var 5) (.var 2))) .nil)))) (.cons (.ret (.tup (.cons (.var 3) (.cons (.var 4) (.cons (.var 5) .nil))))) .nil)))))))⟩
def d2 : He.DefD := ⟨("part_of", none), "part_of", "part_of", defArgs (top 10), defBody (top 10), defScope (top 10), [], []⟩
/-- written -/
def f3 : Fd := ⟨"written", none, "written", ["weights", "text", "low", "size", "whole", "length", "scale", "first", "place"], [false, false], false, (.cons (.unp (.tp3 (.nm 2) (.nm 3) (.nm 4)) (.call "part_of" [false, false] false (.cons (.var 0) (.cons (.var 1) .nil)))) (.cons (.set 5 (.int 0)) (.cons (.whl (.tr (.bl true)) (.cons (.set 6 (.call "raised" [false, false] false (.cons (.int 2) (.cons (.var 5) .nil)))) (.cons (.set 7 (.op1 .neg (.op2 .fdiv (.op1 .neg (.op2 .mul (.var 2) (.var 6))) (.var 4)))) (.cons (.ifs (.cmp .le (.op2 .mul (.op2 .add (.var 7) (.int 1)) (.var 4)) (.op2 .mul (.op2 .add (.var 2) (.var 3)) (.var 6))) (.cons (.ret (.op1 .tuple (.lc (.op2 .mod (.op2 .fdiv (.var 7) (.call "raised" [false, false] false (.cons (.int 2) (.cons (.op2 .sub (.op2 .sub (.var 5) (.int 1)) (.var 8)) .nil)))) (.int 2)) (.nm 8) [8] (.rng1 (.var 5)) .nil))) .nil) .nil) (.cons (.set 5 (.op2 .add (.var 5) (.int 1))) .nil))))) .nil)))⟩
def d3 : He.DefD := ⟨("written", none), "written", "written", defArgs (top 11), defBody (top 11), defScope (top 11), [], []⟩
/-- read_part -/
def f4 : Fd := ⟨"read_part", none, "read_part", ["weights", "count", "word", "total", "number", "bit", "scale", "found", "turn", "place", "letter"], [false, false, false], false, (.cons (.set 0 (.call "_checked" [false] false (.cons (.var 0) .nil))) (.cons (.ifs (.not (.chain .le .le (.int 0) (.var 1) (.cst "MOST_LETTERS" (200)))) (.cons (.rse "BadNumber" (.str "count")) .nil) .nil) (.cons (.ifs (.not (.tr (.op1 .all (.lc (.op2 .inn (.var 5) (.tup (.cons (.int 0) (.cons (.int 1) .nil)))) (.nm 5) [5] (.seq (.var 2)) .nil)))) (.cons (.rse "BadRow" (.str "word")) .nil) .nil) (.cons (.set 3 (.op1 .sum (.var 0))) (.cons (.set 4 (.int 0)) (.cons (.for_ (.nm 5) (.seq (.var 2)) (.cons (.set 4 (.op2 .add (.op2 .mul (.int 2) (.var 4)) (.var 5))) .nil)) (.cons (.set 6 (.call "raised" [false, false] false (.cons (.int 2) (.cons (.op1 .len (.var 2)) .nil)))) (.cons (.setN 7 (.lst .nil)) (.cons (.for_ (.nm 8) (.rng1 (.var 1)) (.cons (.set 9 (.op2 .fdiv (.op2 .mul (.var 4) (.var 3)) (.var 6))) (.cons (.set 10 (.int 0)) (.cons (.whl (.cmp .ge (.var 9) (.op1 .sum (.sl false (.var 0) .none (.some (.op2 .add (.var 10) (.int 1)))))) (.cons (.set 10 (.op2 .add (.var 10) (.int 1))) .nil)) (.cons (.app 7 (.var 10)) (.cons (.set 4 (.op2 .sub (.op2 .mul (.var 4) (.var 3)) (.op2 .mul (.op1 .sum (.sl false (.var 0) .none (.some (.var 10)))) (.var 6)))) (.cons (.set 6 (.op2 .mul (.var 6) (.op2 .ix (.var 0) (.var 10)))) .nil))))))) (.cons (.ret (.op1 .tuple (.var 7))) .nil))))))))))⟩
def d4 : He.DefD := ⟨("read_part", none), "read_part", "read_part", defArgs (top 12), defBody (top 12), defScope (top 12), [], []⟩
/-- shares_of -/
def f5 : Fd := ⟨"shares_of", none, "shares_of", ["text", "letters", "letter", "own"], [false, false], false, (.cons (.ifs (.not (.tr (.op1 .all (.lc (.chain .le .lt (.int 0) (.var 2) (.var 1)) (.nm 2) [2] (.seq (.var 0)) .nil)))) (.cons (.rse "BadRow" (.str "letter")) .nil) .nil) (.cons (.ret (.op1 .tuple (.lc (.op1 .len (.lc (.var 3) (.nm 3) [3] (.seq (.var 0)) (.cons (.cmp .eq (.var 3) (.var 2)) .nil))) (.nm 2) [2] (.rng1 (.var 1)) .nil))) .nil))⟩
def d5 : He.DefD := ⟨("shares_of", none), "shares_of", "shares_of", defArgs (top 13), defBody (top 13), defScope (top 13), [], []⟩
/-- place_of -/
def f6 : Fd := ⟨"place_of", none, "place_of", ["text", "letters", "counts", "ahead", "letter", "lesser"], [false, false], false, (.cons (.setN 2 (.op1 .list (.call "shares_of" [false, false] false (.cons (.var 0) (.cons (.var 1) .nil))))) (.cons (.set 3 (.int 0)) (.cons (.for_ (.nm 4) (.seq (.var 0)) (.cons (.for_ (.nm 5) (.rng1 (.var 4)) (.cons (.ifs (.cmp .gt (.op2 .ix (.var 2) (.var 5)) (.int 0)) (.cons (.setix 2 (.var 5) (.op2 .sub (.op2 .ix (.var 2) (.var 5)) (.int 1))) (.cons (.set 3 (.op2 .add (.var 3) (.call "orders" [true] false (.cons (.var 2) .nil)))) (.cons (.setix 2 (.var 5) (.op2 .add (.op2 .ix (.var 2) (.var 5)) (.int 1))) .nil))) .nil) .nil)) (.cons (.setix 2 (.var 4) (.op2 .sub (.op2 .ix (.var 2) (.var 4)) (.int 1))) .nil))) (.cons (.ret (.var 3)) .nil))))⟩
def d6 : He.DefD := ⟨("place_of", none), "place_of", "place_of", defArgs (top 14), defBody (top 14), defScope (top 14), [], []⟩
/-- orders -/
def f7 : Fd := ⟨"orders", none, "orders", ["counts", "result", "done", "count", "step"], [true], false, (.cons (.set 1 (.int 1)) (.cons (.set 2 (.int 0)) (.cons (.for_ (.nm 3) (.live 0) (.cons (.for_ (.nm 4) (.rng2 (.int 1) (.op2 .add (.var 3) (.int 1))) (.cons (.set 2 (.op2 .add (.var 2) (.int 1))) (.cons (.set 1 (.op2 .fdiv (.op2 .mul (.var 1) (.var 2)) (.var 4))) .nil))) .nil)) (.cons (.ret (.var 1)) .nil))))⟩
def d7 : He.DefD := ⟨("orders", none), "orders", "orders", defArgs (top 15), defBody (top 15), defScope (top 15), [], []⟩
/-- text_at -/
def f8 : Fd := ⟨"text_at", none, "text_at", ["counts", "ahead", "left", "found", "letter", "here", "count"], [false, false], false, (.cons (.setN 2 (.op1 .list (.var 0))) (.cons (.ifs (.not (.tr (.op1 .all (.lc (.op2 .ge (.var 6) (.int 0)) (.nm 6) [6] (.live 2) .nil)))) (.cons (.rse "BadRow" (.str "counts")) .nil) .nil) (.cons (.ifs (.not (.chain .le .lt (.int 0) (.var 1) (.call "orders" [true] false (.cons (.var 2) .nil)))) (.cons (.rse "BadNumber" (.str "index")) .nil) .nil) (.cons (.setN 3 (.lst .nil)) (.cons (.whl (.cmp .gt (.op1 .sum (.var 2)) (.int 0)) (.cons (.for_ (.nm 4) (.rng1 (.op1 .len (.var 2))) (.cons (.ifs (.cmp .gt (.op2 .ix (.var 2) (.var 4)) (.int 0)) (.cons (.setix 2 (.var 4) (.op2 .sub (.op2 .ix (.var 2) (.var 4)) (.int 1))) (.cons (.set 5 (.call "orders" [true] false (.cons (.var 2) .nil))) (.cons (.ifs (.cmp .lt (.var 1) (.var 5)) (.cons (.app 3 (.var 4)) (.cons .brk .nil)) .nil) (.cons (.set 1 (.op2 .sub (.var 1) (.var 5))) (.cons (.setix 2 (.var 4) (.op2 .add (.op2 .ix (.var 2) (.var 4)) (.int 1))) .nil))))) .nil) .nil)) .nil)) (.cons (.ret (.op1 .tuple (.var 3))) .nil))))))⟩
def d8 : He.DefD := ⟨("text_at", none), "text_at", "text_at", defArgs (top 16), defBody (top 16), defScope (top 16), [], []⟩
/-- _law_cell -/
def f9 : Fd := ⟨"_law_cell", none, "_law_cell", ["script", "k"], [false, false], false, (.cons (.ifs (.cmp .lt (.var 1) (.op1 .len (.var 0))) (.cons (.ret (.op2 .ix (.var 0) (.var 1))) .nil) .nil) (.cons (.ret (.int 0)) .nil))⟩
def d9 : He.DefD := ⟨("_law_cell", none), "_law_cell", "_law_cell", defArgs (top 18), defBody (top 18), defScope (top 18), [], []⟩
/-- _law_source -/
def f10 : Fd := ⟨"_law_source", none, "_law_source", ["cell", "k"], [false, false], true, (.cons (.ifs (.cmp .ge (.var 0) (.op2 .pow (.int 10) (.int 18))) (.cons (.retN (.lst (.cons (.op2 .sub (.var 0) (.op2 .pow (.int 10) (.int 18))) (.cons (.op2 .add (.var 1) (.int 1)) .nil)))) .nil) .nil) (.cons (.retN (.lst (.cons (.int 0) (.cons (.op2 .mod (.op1 .int (.op2 .add (.op2 .add (.op2 .mul (.var 0) (.int 7919)) (.op2 .mul (.var 1) (.int 104729))) (.int 1))) (.int 2147483647)) .nil)))) .nil))⟩
def d10 : He.DefD := ⟨("_law_source", none), "_law_source", "_law_source", defArgs (top 19), defBody (top 19), defScope (top 19), [], []⟩
/-- _law_pick -/
def f11 : Fd := ⟨"_law_pick", none, "_law_pick", ["source", "many", "picked", "mixed"], [true, false], false, (.cons (.ifs (.cmp .gt (.op2 .ix (.var 0) (.int 0)) (.int 1)) (.cons (.set 2 (.op2 .mod (.op1 .int (.op2 .ix (.var 0) (.int 0))) (.var 1))) (.cons (.setix 0 (.int 0) (.op2 .fdiv (.op2 .ix (.var 0) (.int 0)) (.var 1))) (.cons (.ret (.var 2)) .nil))) .nil) (.cons (.setix 0 (.int 1) (.op2 .mod (.op1 .int (.op2 .add (.op2 .mul (.op2 .ix (.var 0) (.int 1)) (.int 48271)) (.int 12345))) (.int 2147483647))) (.cons (.set 3 (.op2 .mod (.op1 .int (.op2 .add (.op2 .add (.op2 .mul (.op2 .ix (.var 0) (.int 1)) (.int 69621)) (.op2 .fdiv (.op2 .ix (.var 0) (.int 1)) (.int 127))) (.int 7))) (.int 2147483629))) (.cons (.ret (.op2 .mod (.op1 .int (.op2 .fdiv (.var 3) (.int 16))) (.var 1))) .nil))))⟩
def d11 : He.DefD := ⟨("_law_pick", none), "_law_pick", "_law_pick", defArgs (top 20), defBody (top 20), defScope (top 20), [], []⟩
/-- _law_same -/
def f12 : Fd := ⟨"_law_same", none, "_law_same", ["told", "due", "k"], [false, false], false, (.cons (.ifs (.tr (.isi (.var 1) .tuple)) (.cons (.ifs (.bop false (.cons (.not (.tr (.isi (.var 0) .tuple))) (.cons (.cmp .ne (.op1 .len (.var 0)) (.op1 .len (.var 1))) .nil))) (.cons (.ret (.bl false)) .nil) .nil) (.cons (.ret (.op2 .eq (.lc (.var 2) (.nm 2) [2] (.rng1 (.op1 .len (.var 1))) (.cons (.not (.tr (.call "_law_same" [false, false] false (.cons (.op2 .ix (.var 0) (.var 2)) (.cons (.op2 .ix (.var 1) (.var 2)) .nil))))) .nil)) (.lst .nil))) .nil)) .nil) (.cons (.ifs (.tr (.isi (.var 1) .list)) (.cons (.ifs (.bop false (.cons (.not (.tr (.isi (.var 0) .list))) (.cons (.cmp .ne (.op1 .len (.var 0)) (.op1 .len (.var 1))) .nil))) (.cons (.ret (.bl false)) .nil) .nil) (.cons (.ret (.op2 .eq (.lc (.var 2) (.nm 2) [2] (.rng1 (.op1 .len (.var 1))) (.cons (.not (.tr (.call "_law_same" [false, false] false (.cons (.op2 .ix (.var 0) (.var 2)) (.cons (.op2 .ix (.var 1) (.var 2)) .nil))))) .nil)) (.lst .nil))) .nil)) .nil) (.cons (.ifs (.cmpN false (.var 1)) (.cons (.ret (.op1 .isN (.var 0))) .nil) .nil) (.cons (.ifs (.tr (.isi (.var 1) .bool)) (.cons (.ret (.bop true (.cons (.isi (.var 0) .bool) (.cons (.op2 .eq (.var 0) (.var 1)) .nil)))) .nil) .nil) (.cons (.ifs (.tr (.isi (.var 1) .int)) (.cons (.ret (.bop true (.cons (.isi (.var 0) .int) (.cons (.op1 .notv (.isi (.var 0) .bool)) (.cons (.op2 .eq (.var 0) (.var 1)) .nil))))) .nil) .nil) (.cons (.ret (.bop true (.cons (.isi (.var 0) .str) (.cons (.op2 .eq (.var 0) (.var 1)) .nil)))) .nil))))))⟩
def d12 : He.DefD := ⟨("_law_same", none), "_law_same", "_law_same", defArgs (top 21), defBody (top 21), defScope (top 21), [], []⟩
/-- _law_power -/
def f13 : Fd := ⟨"_law_power", none, "_law_power", ["base", "e", "result", "step"], [false, false], false, (.cons (.set 2 (.int 1)) (.cons (.for_ (.nm 3) (.rng1 (.var 1)) (.cons (.set 2 (.op2 .mul (.var 2) (.var 0))) .nil)) (.cons (.ret (.var 2)) .nil)))⟩
def d13 : He.DefD := ⟨("_law_power", none), "_law_power", "_law_power", defArgs (top 22), defBody (top 22), defScope (top 22), [], []⟩
/-- _law_part -/
def f14 : Fd := ⟨"_law_part", none, "_law_part", ["weights", "text", "total", "low", "size", "letter"], [false, false], false, (.cons (.set 2 (.op1 .sum (.var 0))) (.cons (.set 3 (.int 0)) (.cons (.set 4 (.int 1)) (.cons (.for_ (.nm 5) (.seq (.var 1)) (.cons (.set 3 (.op2 .add (.op2 .mul (.var 3) (.var 2)) (.op2 .mul (.var 4) (.op1 .sum (.sl false (.var 0) .none (.some (.var 5))))))) (.cons (.set 4 (.op2 .mul (.var 4) (.op2 .ix (.var 0) (.var 5)))) .nil))) (.cons (.ret (.tup (.cons (.var 3) (.cons (.var 4) (.cons (.call "_law_power" [false, false] false (.cons (.var 2) (.cons (.op1 .len (.var 1)) .nil))) .nil))))) .nil)))))⟩
def d14 : He.DefD := ⟨("_law_part", none), "_law_part", "_law_part", defArgs (top 23), defBody (top 23), defScope (top 23), [], []⟩
/-- _law_within -/
def f15 : Fd := ⟨"_law_within", none, "_law_within", ["weights", "text", "word", "low", "size", "whole", "number", "bit", "scale"], [false, false, false], false, (.cons (.unp (.tp3 (.nm 3) (.nm 4) (.nm 5)) (.call "_law_part" [false, false] false (.cons (.var 0) (.cons (.var 1) .nil)))) (.cons (.set 6 (.int 0)) (.cons (.for_ (.nm 7) (.seq (.var 2)) (.cons (.set 6 (.op2 .add (.op2 .mul (.int 2) (.var 6)) (.var 7))) .nil)) (.cons (.set 8 (.call "_law_power" [false, false] false (.cons (.int 2) (.cons (.op1 .len (.var 2)) .nil)))) (.cons (.ret (.bop true (.cons (.op2 .le (.op2 .mul (.var 3) (.var 8)) (.op2 .mul (.var 6) (.var 5))) (.cons (.op2 .le (.op2 .mul (.op2 .add (.var 6) (.int 1)) (.var 5)) (.op2 .mul (.op2 .add (.var 3) (.var 4)) (.var 8))) .nil)))) .nil)))))⟩
def d15 : He.DefD := ⟨("_law_within", none), "_law_within", "_law_within", defArgs (top 24), defBody (top 24), defScope (top 24), [], []⟩
/-- _law_shortest -/
def f16 : Fd := ⟨"_law_shortest", none, "_law_shortest", ["weights", "text", "low", "size", "whole", "scale", "length", "number", "word", "place"], [false, false], false, (.cons (.unp (.tp3 (.nm 2) (.nm 3) (.nm 4)) (.call "_law_part" [false, false] false (.cons (.var 0) (.cons (.var 1) .nil)))) (.cons (.set 5 (.int 1)) (.cons (.for_ (.nm 6) (.rng1 (.int 5000)) (.cons (.set 7 (.op2 .fdiv (.op2 .sub (.op2 .add (.op2 .mul (.var 2) (.var 5)) (.var 4)) (.int 1)) (.var 4))) (.cons (.ifs (.cmp .le (.op2 .mul (.op2 .add (.var 7) (.int 1)) (.var 4)) (.op2 .mul (.op2 .add (.var 2) (.var 3)) (.var 5))) (.cons (.set 8 (.lst .nil)) (.cons (.for_ (.nm 9) (.rng1 (.var 6)) (.cons (.set 8 (.op2 .add (.lst (.cons (.op2 .mod (.op1 .int (.var 7)) (.int 2)) .nil)) (.var 8))) (.cons (.set 7 (.op2 .fdiv (.var 7) (.int 2))) .nil))) (.cons (.ret (.op1 .tuple (.var 8))) .nil))) .nil) (.cons (.set 5 (.op2 .mul (.int 2) (.var 5))) .nil)))) (.cons (.ret .non) .nil))))⟩
def d16 : He.DefD := ⟨("_law_shortest", none), "_law_shortest", "_law_shortest", defArgs (top 25), defBody (top 25), defScope (top 25), [], []⟩
/-- _law_factorial -/
def f17 : Fd := ⟨"_law_factorial", none, "_law_factorial", ["number", "result", "k"], [false], false, (.cons (.set 1 (.int 1)) (.cons (.for_ (.nm 2) (.rng2 (.int 2) (.op2 .add (.var 0) (.int 1))) (.cons (.set 1 (.op2 .mul (.var 1) (.var 2))) .nil)) (.cons (.ret (.var 1)) .nil)))⟩
def d17 : He.DefD := ⟨("_law_factorial", none), "_law_factorial", "_law_factorial", defArgs (top 26), defBody (top 26), defScope (top 26), [], []⟩
/-- _law_orders -/
def f18 : Fd := ⟨"_law_orders", none, "_law_orders", ["counts", "result", "count"], [false], false, (.cons (.set 1 (.call "_law_factorial" [false] false (.cons (.op1 .sum (.var 0)) .nil))) (.cons (.for_ (.nm 2) (.seq (.var 0)) (.cons (.set 1 (.op2 .fdiv (.var 1) (.call "_law_factorial" [false] false (.cons (.var 2) .nil)))) .nil)) (.cons (.ret (.var 1)) .nil)))⟩
def d18 : He.DefD := ⟨("_law_orders", none), "_law_orders", "_law_orders", defArgs (top 27), defBody (top 27), defScope (top 27), [], []⟩
/-- _law_texts -/
def f19 : Fd := ⟨"_law_texts", none, "_law_texts", ["counts", "found", "step", "wide", "text", "left", "letter"], [false], false, (.cons (.set 1 (.lst (.cons (.tup (.cons (.tup .nil) (.cons (.op1 .tuple (.var 0)) .nil))) .nil))) (.cons (.for_ (.nm 2) (.rng1 (.op1 .sum (.var 0))) (.cons (.setN 3 (.lst .nil)) (.cons (.for_ (.tp2 (.nm 4) (.nm 5)) (.seq (.var 1)) (.cons (.for_ (.nm 6) (.rng1 (.op1 .len (.var 5))) (.cons (.ifs (.cmp .gt (.op2 .ix (.var 5) (.var 6)) (.int 0)) (.cons (.app 3 (.tup (.cons (.op2 .add (.var 4) (.tup (.cons (.var 6) .nil))) (.cons (.op2 .add (.op2 .add (.sl false (.var 5) .none (.some (.var 6))) (.tup (.cons (.op2 .sub (.op2 .ix (.var 5) (.var 6)) (.int 1)) .nil))) (.sl false (.var 5) (.some (.op2 .add (.var 6) (.int 1))) .none)) .nil)))) .nil) .nil) .nil)) .nil)) (.cons (.set 1 (.frz 3)) .nil)))) (.cons (.ret (.lc (.var 4) (.tp2 (.nm 4) (.nm 5)) [4, 5] (.seq (.var 1)) .nil)) .nil)))⟩
def d19 : He.DefD := ⟨("_law_texts", none), "_law_texts", "_law_texts", defArgs (top 28), defBody (top 28), defScope (top 28), [], []⟩
/-- _law_refused -/
def f20 : Fd := ⟨"_law_refused", none, "_law_refused", ["which", "one", "two", "three", "e"], [false, false, false, false], false, (.cons (.try_ 4 (.cons (.ifs (.cmp .eq (.var 0) (.int 0)) (.cons (.exp (.call "part_of" [false, false] false (.cons (.var 1) (.cons (.var 2) .nil)))) .nil) (.cons (.ifs (.cmp .eq (.var 0) (.int 1)) (.cons (.exp (.call "written" [false, false] false (.cons (.var 1) (.cons (.var 2) .nil)))) .nil) (.cons (.ifs (.cmp .eq (.var 0) (.int 2)) (.cons (.exp (.call "read_part" [false, false, false] false (.cons (.var 1) (.cons (.var 2) (.cons (.var 3) .nil))))) .nil) (.cons (.ifs (.cmp .eq (.var 0) (.int 3)) (.cons (.exp (.call "text_at" [false, false] false (.cons (.var 1) (.cons (.var 2) .nil)))) .nil) (.cons (.ifs (.cmp .eq (.var 0) (.int 4)) (.cons (.exp (.call "shares_of" [false, false] false (.cons (.var 1) (.cons (.var 2) .nil)))) .nil) (.cons (.exp (.call "place_of" [false, false] false (.cons (.var 1) (.cons (.var 2) .nil)))) .nil)) .nil)) .nil)) .nil)) .nil)) .nil) (.cons "BadNumber" (.str "number") (.cons "BadRow" (.str "row") (.cons "TooLarge" (.str "large") (.cons "CodeError" (.str "strange") .nil))))) (.cons (.ret (.str "")) .nil))⟩
def d20 : He.DefD := ⟨("_law_refused", none), "_law_refused", "_law_refused", defArgs (top 29), defBody (top 29), defScope (top 29), [], []⟩
/-- _law_orders_right -/
def f21 : Fd := ⟨"_law_orders_right", none, "_law_orders_right", ["source", "letters", "text", "counts", "told", "wide", "index", "far", "step", "k", "letter"], [true], false, (.cons (.set 1 (.op2 .add (.int 1) (.call "_law_pick" [true, false] false (.cons (.var 0) (.cons (.int 4) .nil))))) (.cons (.set 2 (.op1 .tuple (.lc (.call "_law_pick" [true, false] false (.cons (.var 0) (.cons (.var 1) .nil))) (.nm 8) [8] (.rng1 (.call "_law_pick" [true, false] false (.cons (.var 0) (.cons (.int 8) .nil)))) .nil))) (.cons (.setN 3 (.lc (.op1 .len (.lc (.var 10) (.nm 10) [10] (.seq (.var 2)) (.cons (.cmp .eq (.var 10) (.var 9)) .nil))) (.nm 9) [9] (.rng1 (.var 1)) .nil)) (.cons (.ifs (.not (.tr (.call "_law_same" [false, false] false (.cons (.tup (.cons (.call "shares_of" [false, false] false (.cons (.op1 .list (.var 2)) (.cons (.var 1) .nil))) (.cons (.call "orders" [true] false (.cons (.var 3) .nil)) .nil))) (.cons (.tup (.cons (.op1 .tuple (.var 3)) (.cons (.call "_law_orders" [false] false (.cons (.frz 3) .nil)) .nil))) .nil))))) (.cons (.ret (.bl false)) .nil) .nil) (.cons (.set 4 (.call "place_of" [false, false] false (.cons (.op1 .list (.var 2)) (.cons (.var 1) .nil)))) (.cons (.ifs (.cmp .lt (.call "_law_orders" [false] false (.cons (.frz 3) .nil)) (.int 900)) (.cons (.ifs (.not (.tr (.call "_law_same" [false, false] false (.cons (.var 4) (.cons (.lm .index (.call "_law_texts" [false] false (.cons (.frz 3) .nil)) (.var 2)) .nil))))) (.cons (.ret (.bl false)) .nil) .nil) .nil) .nil) (.cons (.ifs (.not (.tr (.call "_law_same" [false, false] false (.cons (.call "text_at" [false, false] false (.cons (.frz 3) (.cons (.var 4) .nil))) (.cons (.var 2) .nil))))) (.cons (.ret (.bl false)) .nil) .nil) (.cons (.setN 5 (.lc (.call "_law_pick" [true, false] false (.cons (.var 0) (.cons (.int 12) .nil))) (.nm 9) [9] (.rng1 (.var 1)) .nil)) (.cons (.set 6 (.call "_law_pick" [true, false] false (.cons (.var 0) (.cons (.call "_law_orders" [false] false (.cons (.frz 5) .nil)) .nil)))) (.cons (.set 7 (.call "text_at" [false, false] false (.cons (.frz 5) (.cons (.var 6) .nil)))) (.cons (.ifs (.bop false (.cons (.not (.tr (.call "_law_same" [false, false] false (.cons (.call "place_of" [false, false] false (.cons (.var 7) (.cons (.var 1) .nil))) (.cons (.var 6) .nil))))) (.cons (.not (.tr (.call "_law_same" [false, false] false (.cons (.call "shares_of" [false, false] false (.cons (.var 7) (.cons (.var 1) .nil))) (.cons (.op1 .tuple (.var 5)) .nil))))) .nil))) (.cons (.ret (.bl false)) .nil) .nil) (.cons (.ifs (.bop false (.cons (.cmp .ne (.call "_law_refused" [false, false, false, false] false (.cons (.int 3) (.cons (.frz 3) (.cons (.call "_law_orders" [false] false (.cons (.frz 3) .nil)) (.cons .non .nil))))) (.str "number")) (.cons (.cmp .ne (.call "_law_refused" [false, false, false, false] false (.cons (.int 3) (.cons (.frz 3) (.cons (.op2 .sub (.int 0) (.int 1)) (.cons .non .nil))))) (.str "number")) (.cons (.cmp .ne (.call "_law_refused" [false, false, false, false] false (.cons (.int 3) (.cons (.lst (.cons (.int 2) (.cons (.op2 .sub (.int 0) (.int 1)) .nil))) (.cons (.int 0) (.cons .non .nil))))) (.str "row")) .nil)))) (.cons (.ret (.bl false)) .nil) .nil) (.cons (.ret (.bop true (.cons (.op2 .eq (.call "_law_refused" [false, false, false, false] false (.cons (.int 4) (.cons (.op2 .add (.var 2) (.tup (.cons (.var 1) .nil))) (.cons (.var 1) (.cons .non .nil))))) (.str "row")) (.cons (.op2 .eq (.call "_law_refused" [false, false, false, false] false (.cons (.int 5) (.cons (.op2 .add (.tup (.cons (.op2 .sub (.int 0) (.int 1)) .nil)) (.var 2)) (.cons (.var 1) (.cons .non .nil))))) (.str "row")) .nil)))) .nil)))))))))))))⟩
def d21 : He.DefD := ⟨("_law_orders_right", none), "_law_orders_right", "_law_orders_right", defArgs (top 30), defBody (top 30), defScope (top 30), [], []⟩
/-- _law_right -/
def f22 : Fd := ⟨"_law_right", none, "_law_right", ["source", "weights", "text", "low", "size", "whole", "told", "behind", "other", "word", "count", "found", "own", "number", "bit", "scale", "which", "k", "step", "letter"], [true], false, (.cons (.setN 1 (.lc (.op2 .add (.int 1) (.call "_law_pick" [true, false] false (.cons (.var 0) (.cons (.op2 .ix (.lst (.cons (.int 4) (.cons (.op2 .pow (.int 10) (.int 6)) .nil))) (.call "_law_pick" [true, false] false (.cons (.var 0) (.cons (.int 2) .nil)))) .nil)))) (.nm 17) [17] (.rng1 (.op2 .add (.int 1) (.call "_law_pick" [true, false] false (.cons (.var 0) (.cons (.int 5) .nil))))) .nil)) (.cons (.set 2 (.op1 .tuple (.lc (.call "_law_pick" [true, false] false (.cons (.var 0) (.cons (.op1 .len (.var 1)) .nil))) (.nm 18) [18] (.rng1 (.op2 .ix (.lst (.cons (.call "_law_pick" [true, false] false (.cons (.var 0) (.cons (.int 21) .nil))) (.cons (.int 200) .nil))) (.op1 .int (.op2 .eq (.call "_law_pick" [true, false] false (.cons (.var 0) (.cons (.int 40) .nil))) (.int 0))))) .nil))) (.cons (.unp (.tp3 (.nm 3) (.nm 4) (.nm 5)) (.call "_law_part" [false, false] false (.cons (.frz 1) (.cons (.var 2) .nil)))) (.cons (.ifs (.not (.tr (.call "_law_same" [false, false] false (.cons (.call "part_of" [false, false] false (.cons (.op1 .list (.var 1)) (.cons (.op1 .list (.var 2)) .nil))) (.cons (.tup (.cons (.var 3) (.cons (.var 4) (.cons (.var 5) .nil)))) .nil))))) (.cons (.ret (.bl false)) .nil) .nil) (.cons (.set 6 (.call "written" [false, false] false (.cons (.frz 1) (.cons (.var 2) .nil)))) (.cons (.ifs (.bop false (.cons (.not (.tr (.call "_law_same" [false, false] false (.cons (.var 6) (.cons (.call "_law_shortest" [false, false] false (.cons (.frz 1) (.cons (.var 2) .nil))) .nil))))) (.cons (.not (.tr (.call "_law_within" [false, false, false] false (.cons (.frz 1) (.cons (.var 2) (.cons (.var 6) .nil)))))) .nil))) (.cons (.ret (.bl false)) .nil) .nil) (.cons (.for_ (.nm 7) (.seq (.lst (.cons (.tup .nil) (.cons (.tup (.cons (.int 0) .nil)) (.cons (.tup (.cons (.int 1) .nil)) (.cons (.tup (.cons (.int 1) (.cons (.int 1) (.cons (.int 0) (.cons (.int 1) .nil))))) (.cons (.op1 .tuple (.lc (.call "_law_pick" [true, false] false (.cons (.var 0) (.cons (.int 2) .nil))) (.nm 18) [18] (.rng1 (.int 5)) .nil)) .nil))))))) (.cons (.ifs (.not (.tr (.call "_law_same" [false, false] false (.cons (.call "read_part" [false, false, false] false (.cons (.frz 1) (.cons (.op1 .len (.var 2)) (.cons (.op1 .list (.op2 .add (.var 6) (.var 7))) .nil)))) (.cons (.var 2) .nil))))) (.cons (.ret (.bl false)) .nil) .nil) .nil)) (.cons (.ifs (.bop true (.cons (.cmp .ne (.var 2) (.tup .nil)) (.cons (.cmp .lt (.op2 .add (.op2 .ix (.var 2) (.op1 .neg (.int 1))) (.int 1)) (.op1 .len (.var 1))) .nil))) (.cons (.set 8 (.call "_law_part" [false, false] false (.cons (.frz 1) (.cons (.op2 .add (.sl false (.var 2) .none (.some (.op1 .neg (.int 1)))) (.tup (.cons (.op2 .add (.op2 .ix (.var 2) (.op1 .neg (.int 1))) (.int 1)) .nil))) .nil)))) (.cons (.ifs (.cmp .ne (.call "part_of" [false, false] false (.cons (.frz 1) (.cons (.op2 .add (.sl false (.var 2) .none (.some (.op1 .neg (.int 1)))) (.tup (.cons (.op2 .add (.op2 .ix (.var 2) (.op1 .neg (.int 1))) (.int 1)) .nil))) .nil))) (.tup (.cons (.op2 .add (.var 3) (.var 4)) (.cons (.op2 .ix (.var 8) (.int 1)) (.cons (.var 5) .nil))))) (.cons (.ret (.bl false)) .nil) .nil) .nil)) .nil) (.cons (.set 9 (.op1 .tuple (.lc (.call "_law_pick" [true, false] false (.cons (.var 0) (.cons (.int 2) .nil))) (.nm 18) [18] (.rng1 (.call "_law_pick" [true, false] false (.cons (.var 0) (.cons (.int 12) .nil)))) .nil))) (.cons (.set 10 (.call "_law_pick" [true, false] false (.cons (.var 0) (.cons (.int 6) .nil)))) (.cons (.set 11 (.call "read_part" [false, false, false] false (.cons (.frz 1) (.cons (.var 10) (.cons (.var 9) .nil))))) (.cons (.ifs (.bop false (.cons (.not (.tr (.isi (.var 11) .tuple))) (.cons (.cmp .ne (.op1 .len (.var 11)) (.var 10)) (.cons (.cmp .ne (.lc (.var 19) (.nm 19) [19] (.seq (.var 11)) (.cons (.bop false (.cons (.cmp .lt (.var 19) (.int 0)) (.cons (.cmp .ge (.var 19) (.op1 .len (.var 1))) .nil))) .nil)) (.lst .nil)) .nil)))) (.cons (.ret (.bl false)) .nil) .nil) (.cons (.set 12 (.call "_law_part" [false, false] false (.cons (.frz 1) (.cons (.var 11) .nil)))) (.cons (.set 13 (.int 0)) (.cons (.for_ (.nm 14) (.seq (.var 9)) (.cons (.set 13 (.op2 .add (.op2 .mul (.int 2) (.var 13)) (.var 14))) .nil)) (.cons (.set 15 (.call "_law_power" [false, false] false (.cons (.int 2) (.cons (.op1 .len (.var 9)) .nil)))) (.cons (.ifs (.bop false (.cons (.cmp .gt (.op2 .mul (.op2 .ix (.var 12) (.int 0)) (.var 15)) (.op2 .mul (.var 13) (.op2 .ix (.var 12) (.int 2)))) (.cons (.cmp .ge (.op2 .mul (.var 13) (.op2 .ix (.var 12) (.int 2))) (.op2 .mul (.op2 .add (.op2 .ix (.var 12) (.int 0)) (.op2 .ix (.var 12) (.int 1))) (.var 15))) .nil))) (.cons (.ret (.bl false)) .nil) .nil) (.cons (.for_ (.nm 16) (.seq (.tup (.cons (.int 0) (.cons (.int 1) .nil)))) (.cons (.ifs (.bop false (.cons (.cmp .ne (.call "_law_refused" [false, false, false, false] false (.cons (.var 16) (.cons (.lst .nil) (.cons (.tup .nil) (.cons .non .nil))))) (.str "row")) (.cons (.cmp .ne (.call "_law_refused" [false, false, false, false] false (.cons (.var 16) (.cons (.op2 .add (.var 1) (.lst (.cons (.int 0) .nil))) (.cons (.tup .nil) (.cons .non .nil))))) (.str "row")) (.cons (.cmp .ne (.call "_law_refused" [false, false, false, false] false (.cons (.var 16) (.cons (.frz 1) (.cons (.tup (.cons (.op1 .len (.var 1)) .nil)) (.cons .non .nil))))) (.str "row")) .nil)))) (.cons (.ret (.bl false)) .nil) .nil) (.cons (.ifs (.bop false (.cons (.cmp .ne (.call "_law_refused" [false, false, false, false] false (.cons (.var 16) (.cons (.frz 1) (.cons (.op2 .mul (.tup (.cons (.int 0) .nil)) (.int 201)) (.cons .non .nil))))) (.str "large")) (.cons (.cmp .ne (.call "_law_refused" [false, false, false, false] false (.cons (.var 16) (.cons (.frz 1) (.cons (.tup (.cons (.op2 .sub (.int 0) (.int 1)) .nil)) (.cons .non .nil))))) (.str "row")) .nil))) (.cons (.ret (.bl false)) .nil) .nil) .nil))) (.cons (.ifs (.bop false (.cons (.cmp .ne (.call "_law_refused" [false, false, false, false] false (.cons (.int 2) (.cons (.frz 1) (.cons (.op2 .sub (.int 0) (.int 1)) (.cons (.tup .nil) .nil))))) (.str "number")) (.cons (.cmp .ne (.call "_law_refused" [false, false, false, false] false (.cons (.int 2) (.cons (.frz 1) (.cons (.int 201) (.cons (.tup .nil) .nil))))) (.str "number")) (.cons (.cmp .ne (.call "_law_refused" [false, false, false, false] false (.cons (.int 2) (.cons (.frz 1) (.cons (.int 2) (.cons (.tup (.cons (.int 2) .nil)) .nil))))) (.str "row")) .nil)))) (.cons (.ret (.bl false)) .nil) .nil) (.cons (.ret (.bop true (.cons (.op2 .eq (.call "_law_refused" [false, false, false, false] false (.cons (.int 2) (.cons (.lst (.cons (.int 0) .nil)) (.cons (.int 2) (.cons (.tup .nil) .nil))))) (.str "row")) (.cons (.call "_law_orders_right" [true] false (.cons (.var 0) .nil)) .nil)))) .nil))))))))))))))))))))⟩
def d22 : He.DefD := ⟨("_law_right", none), "_law_right", "_law_right", defArgs (top 31), defBody (top 31), defScope (top 31), [], []⟩
/-- law -/
def f23 : Fd := ⟨"law", none, "law", ["script", "k"], [false], false, (.cons (.for_ (.nm 1) (.rng1 (.op2 .add (.op2 .min2 (.op1 .len (.var 0)) (.int 6)) (.int 3))) (.cons (.ifs (.not (.tr (.call "_law_right" [true] false (.cons (.call "_law_source" [false, false] true (.cons (.call "_law_cell" [false, false] false (.cons (.var 0) (.cons (.var 1) .nil))) (.cons (.var 1) .nil))) .nil)))) (.cons (.ret (.bl false)) .nil) .nil) .nil)) (.cons (.ret (.bl true)) .nil))⟩
def d23 : He.DefD := ⟨("law", none), "law", "law", defArgs (top 32), defBody (top 32), defScope (top 32), [], []⟩
def Y : Ex := ⟨["BadNumber", "BadRow", "CodeError", "TooLarge"], fun a b => decide ((a, b) ∈ ([("BadNumber", "BadNumber"), ("BadNumber", "CodeError"), ("BadRow", "BadRow"), ("BadRow", "CodeError"), ("CodeError", "CodeError"), ("TooLarge", "CodeError"), ("TooLarge", "TooLarge")] : List (String × String)))⟩
def Tb : Tab := ⟨[f0, f1, f2, f3, f4, f5, f6, f7, f8, f9, f10, f11, f12, f13, f14, f15, f16, f17, f18, f19, f20, f21, f22, f23], [("MOST_LETTERS", (200))], [], [], [], [], [], Y⟩
def ds : List DefE := [⟨f0, d0⟩, ⟨f1, d1⟩, ⟨f2, d2⟩, ⟨f3, d3⟩, ⟨f4, d4⟩, ⟨f5, d5⟩, ⟨f6, d6⟩, ⟨f7, d7⟩, ⟨f8, d8⟩, ⟨f9, d9⟩, ⟨f10, d10⟩, ⟨f11, d11⟩, ⟨f12, d12⟩, ⟨f13, d13⟩, ⟨f14, d14⟩, ⟨f15, d15⟩, ⟨f16, d16⟩, ⟨f17, d17⟩, ⟨f18, d18⟩, ⟨f19, d19⟩, ⟨f20, d20⟩, ⟨f21, d21⟩, ⟨f22, d22⟩, ⟨f23, d23⟩]
def fn : List He.DefD := ds.map (·.d)
def fa : List He.Fa := Tb.fa
def ex (K : PySem.W.Frag) : Bool := exB PySem.Challenge.rw_codewhole_k30_whole_parts_of_a_whole.prog "CodeError" "what" "self" "what" Tb K
theorem prg : PrgOk Tb ds fa fn ⟨f23, d23⟩ where
  P := rfl
  fa := fun _ h => h
  fn := fun e h => List.mem_map.mpr ⟨e, h, rfl⟩
  st := by
    have : ds.all (statB Tb) = true := by decide +kernel
    exact fun e h => List.all_eq_true.mp this e h
  tt := by decide +kernel
  law := by simp [ds]
  nm := rfl
  cls := rfl
  ms := rfl
  nw := rfl
  ps := by decide +kernel
abbrev R : PySem.W.OpenRow := PySem.W.OpenLaw.row PySem.Challenge.rw_codewhole_k30_whole_parts_of_a_whole
abbrev hk : PySem.W.Hook := hookS 6 fa fn ex
def ob (s : PySem.W.SharedT) : He.AlD × Bool := obsS 6 fa fn ex (HandSHeadRun.getT s)
theorem ob_eq (s : PySem.W.SharedT) : ob s = hk.obs s.abs := obsS_eq (HandSHeadRun.getT_eq s)
def lo : List PySem.Str := ["CodeError", "BadNumber", "BadRow", "TooLarge", "raised", "_checked", "part_of", "written", "read_part", "shares_of", "place_of", "orders", "text_at", "_law_cell", "_law_source", "_law_pick", "_law_same", "_law_power", "_law_part", "_law_within", "_law_shortest", "_law_factorial", "_law_orders", "_law_texts", "_law_refused", "_law_orders_right", "_law_right", "MOST_LETTERS"]
theorem run (w : World) : HandSHeadRun.RunEq R (PySem.W.view R.prog [32]) hk ob 20000 lo w := by
  intro os
  kernel_rfl
end Pk30

namespace Pk30
open CW
abbrev P : List Fd := Tb.P
theorem c_raised (n : Nat) (ds : List D) : callF P Y (n + 1) "raised" ds = runF (callF P Y n) Y f0 ds := callF_succ rfl
theorem c__checked (n : Nat) (ds : List D) : callF P Y (n + 1) "_checked" ds = runF (callF P Y n) Y f1 ds := callF_succ rfl
theorem c_part_of (n : Nat) (ds : List D) : callF P Y (n + 1) "part_of" ds = runF (callF P Y n) Y f2 ds := callF_succ rfl
theorem c_written (n : Nat) (ds : List D) : callF P Y (n + 1) "written" ds = runF (callF P Y n) Y f3 ds := callF_succ rfl
theorem c_read_part (n : Nat) (ds : List D) : callF P Y (n + 1) "read_part" ds = runF (callF P Y n) Y f4 ds := callF_succ rfl
theorem c_shares_of (n : Nat) (ds : List D) : callF P Y (n + 1) "shares_of" ds = runF (callF P Y n) Y f5 ds := callF_succ rfl
theorem c_place_of (n : Nat) (ds : List D) : callF P Y (n + 1) "place_of" ds = runF (callF P Y n) Y f6 ds := callF_succ rfl
theorem c_orders (n : Nat) (ds : List D) : callF P Y (n + 1) "orders" ds = runF (callF P Y n) Y f7 ds := callF_succ rfl
theorem c_text_at (n : Nat) (ds : List D) : callF P Y (n + 1) "text_at" ds = runF (callF P Y n) Y f8 ds := callF_succ rfl
theorem c__law_cell (n : Nat) (ds : List D) : callF P Y (n + 1) "_law_cell" ds = runF (callF P Y n) Y f9 ds := callF_succ rfl
theorem c__law_source (n : Nat) (ds : List D) : callF P Y (n + 1) "_law_source" ds = runF (callF P Y n) Y f10 ds := callF_succ rfl
theorem c__law_pick (n : Nat) (ds : List D) : callF P Y (n + 1) "_law_pick" ds = runF (callF P Y n) Y f11 ds := callF_succ rfl
theorem c__law_same (n : Nat) (ds : List D) : callF P Y (n + 1) "_law_same" ds = runF (callF P Y n) Y f12 ds := callF_succ rfl
theorem c__law_power (n : Nat) (ds : List D) : callF P Y (n + 1) "_law_power" ds = runF (callF P Y n) Y f13 ds := callF_succ rfl
theorem c__law_part (n : Nat) (ds : List D) : callF P Y (n + 1) "_law_part" ds = runF (callF P Y n) Y f14 ds := callF_succ rfl
theorem c__law_within (n : Nat) (ds : List D) : callF P Y (n + 1) "_law_within" ds = runF (callF P Y n) Y f15 ds := callF_succ rfl
theorem c__law_shortest (n : Nat) (ds : List D) : callF P Y (n + 1) "_law_shortest" ds = runF (callF P Y n) Y f16 ds := callF_succ rfl
theorem c__law_factorial (n : Nat) (ds : List D) : callF P Y (n + 1) "_law_factorial" ds = runF (callF P Y n) Y f17 ds := callF_succ rfl
theorem c__law_orders (n : Nat) (ds : List D) : callF P Y (n + 1) "_law_orders" ds = runF (callF P Y n) Y f18 ds := callF_succ rfl
theorem c__law_texts (n : Nat) (ds : List D) : callF P Y (n + 1) "_law_texts" ds = runF (callF P Y n) Y f19 ds := callF_succ rfl
theorem c__law_refused (n : Nat) (ds : List D) : callF P Y (n + 1) "_law_refused" ds = runF (callF P Y n) Y f20 ds := callF_succ rfl
theorem c__law_orders_right (n : Nat) (ds : List D) : callF P Y (n + 1) "_law_orders_right" ds = runF (callF P Y n) Y f21 ds := callF_succ rfl
theorem c__law_right (n : Nat) (ds : List D) : callF P Y (n + 1) "_law_right" ds = runF (callF P Y n) Y f22 ds := callF_succ rfl
theorem c_law (n : Nat) (ds : List D) : callF P Y (n + 1) "law" ds = runF (callF P Y n) Y f23 ds := callF_succ rfl
end Pk30

set_option linter.all false
set_option maxRecDepth 100000
set_option maxHeartbeats 0
namespace Pk30
open CW
/-! ### parts of a whole: plain facts -/
def pre (w : List Int) (a : Int) : Int := (w.take a.toNat).sum
def stp (w : List Int) (p : Int × Int) (a : Int) : Int × Int := (p.1 * w.sum + p.2 * pre w a, p.2 * w[a.toNat]!)
def prt (w t : List Int) : Int × Int := t.foldl (stp w) (0, 1)
theorem prt_snoc (w t : List Int) (a : Int) : prt w (t ++ [a]) = stp w (prt w t) a := by
  unfold prt; rw [List.foldl_append]; rfl
theorem fold_front (w : List Int) : ∀ (t : List Int) (p : Int × Int), t.foldl (stp w) p = (p.1 * w.sum ^ t.length + p.2 * (prt w t).1, p.2 * (prt w t).2)
  | [], p => by
    show p = (p.1 * w.sum ^ 0 + p.2 * 0, p.2 * 1)
    simp
  | a :: t, p => by
    have e1 : (a :: t).foldl (stp w) p = t.foldl (stp w) (stp w p a) := rfl
    have e2 : prt w (a :: t) = t.foldl (stp w) (stp w (0, 1) a) := rfl
    rw [e1, e2, fold_front w t (stp w p a), fold_front w t (stp w (0, 1) a)]
    unfold stp
    rw [List.length_cons, Int.pow_succ]
    dsimp only
    refine Prod.ext ?_ ?_ <;> dsimp only <;> grind
theorem prt_front (w t : List Int) (a : Int) : prt w (a :: t) = (pre w a * w.sum ^ t.length + w[a.toNat]! * (prt w t).1, w[a.toNat]! * (prt w t).2) := by
  show t.foldl (stp w) (stp w (0, 1) a) = _
  rw [fold_front]
  unfold stp
  refine Prod.ext ?_ ?_ <;> dsimp only <;> grind
structure Wts (w : List Int) : Prop where
  pos : ∀ x ∈ w, 0 < x ∧ x ≤ 1000000
  ne : w ≠ []
  len : w.length ≤ 5
def Ltr (w t : List Int) : Prop := ∀ a ∈ t, 0 ≤ a ∧ a < w.length
theorem Ltr.tail {w t : List Int} {a : Int} (h : Ltr w (a :: t)) : Ltr w t := fun x m => h x (List.mem_cons_of_mem _ m)
theorem sum_bd : ∀ (w : List Int), (∀ x ∈ w, 0 < x ∧ x ≤ 1000000) → (w.length : Int) ≤ w.sum ∧ w.sum ≤ w.length * 1000000
  | [], _ => by simp
  | x :: w, h => by
    have h1 := h x List.mem_cons_self
    have h2 := sum_bd w fun y m => h y (List.mem_cons_of_mem _ m)
    rw [List.sum_cons, List.length_cons]
    omega
theorem Wts.sum {w : List Int} (h : Wts w) : 1 ≤ w.sum ∧ w.sum ≤ 5000000 := by
  have h1 := sum_bd w h.pos
  have h2 := h.len
  have h3 : 0 < w.length := List.length_pos_iff.mpr h.ne
  omega
theorem Wts.at {w : List Int} (h : Wts w) {a : Int} (h1 : 0 ≤ a) (h2 : a < w.length) : 0 < w[a.toNat]! ∧ w[a.toNat]! ≤ 1000000 := h.pos _ (ixm_mem h1 h2)
theorem pre_zero (w : List Int) : pre w 0 = 0 := by simp [pre]
theorem pre_succ (w : List Int) {a : Int} (h1 : 0 ≤ a) (h2 : a < w.length) : pre w (a + 1) = pre w a + w[a.toNat]! := by
  unfold pre
  have e : (a + 1).toNat = a.toNat + 1 := by omega
  have hl : a.toNat < w.length := by omega
  rw [e, List.take_succ_eq_append_getElem hl, List.sum_append, getElem!_pos w a.toNat hl]
  simp
theorem pre_all (w : List Int) : pre w w.length = w.sum := by
  unfold pre
  simp
theorem pre_le {w : List Int} (hw : Wts w) : ∀ (k : Nat) (a : Int), 0 ≤ a → a + k ≤ w.length → pre w a ≤ pre w (a + k)
  | 0, a, _, _ => by simp
  | k + 1, a, h1, h2 => by
    have := pre_le hw k a h1 (by omega)
    have e := pre_succ w (a := a + k) (by omega) (by omega)
    have := hw.at (a := a + k) (by omega) (by omega)
    rw [show a + ((k + 1 : Nat) : Int) = a + k + 1 by omega]
    omega
theorem pre_mono {w : List Int} (hw : Wts w) {a b : Int} (h0 : 0 ≤ a) (h : a ≤ b) (hb : b ≤ w.length) : pre w a ≤ pre w b := by
  have := pre_le hw (b - a).toNat a h0 (by omega)
  rwa [show a + ((b - a).toNat : Int) = b by omega] at this
theorem pre_nonneg {w : List Int} (hw : Wts w) {a : Int} (h0 : 0 ≤ a) (hb : a ≤ w.length) : 0 ≤ pre w a := by
  have := pre_mono hw (a := 0) (b := a) (by omega) h0 hb
  rwa [pre_zero] at this
theorem pre_top {w : List Int} (hw : Wts w) {a : Int} (h0 : 0 ≤ a) (hb : a ≤ w.length) : pre w a ≤ w.sum := by
  have := pre_mono hw (a := a) (b := w.length) h0 hb (by omega)
  rwa [pre_all] at this
theorem pow_pos' {T : Int} (h : 1 ≤ T) (n : Nat) : 1 ≤ T ^ n := by
  have := Int.pow_pos (n := T) (m := n) (by omega)
  omega
theorem prt_bd {w : List Int} (hw : Wts w) : ∀ (t : List Int), Ltr w t → 0 ≤ (prt w t).1 ∧ 1 ≤ (prt w t).2 ∧ (prt w t).1 + (prt w t).2 ≤ w.sum ^ t.length
  | [], _ => by simp [prt]
  | a :: t, h => by
    obtain ⟨i1, i2, i3⟩ := prt_bd hw t h.tail
    obtain ⟨a1, a2⟩ := h a List.mem_cons_self
    obtain ⟨w1, w2⟩ := hw.at a1 a2
    have p0 := pre_nonneg hw a1 (by omega)
    have p1 := pre_succ w a1 a2
    have p2 := pre_top hw (a := a + 1) (by omega) (by omega)
    have tp := pow_pos' hw.sum.1 t.length
    rw [prt_front]
    dsimp only
    rw [List.length_cons, Int.pow_succ]
    generalize w.sum ^ t.length = T at *
    generalize (prt w t).1 = lo at *
    generalize (prt w t).2 = sz at *
    generalize w[a.toNat]! = x at *
    have e1 : 0 ≤ pre w a * T := Int.mul_nonneg p0 (by omega)
    have e2 : 0 ≤ x * lo := Int.mul_nonneg (by omega) i1
    have e3 : 1 * 1 ≤ x * sz := Int.mul_le_mul (by omega) i2 (by omega) (by omega)
    have e4 : x * (lo + sz) ≤ x * T := Int.mul_le_mul_of_nonneg_left i3 (by omega)
    have e5 : (pre w a + x) * T ≤ w.sum * T := Int.mul_le_mul_of_nonneg_right (by omega) (by omega)
    refine ⟨by omega, by omega, ?_⟩
    grind
/-- a number is in a text's part -/
def InP (w t : List Int) (N S : Int) : Prop := (prt w t).1 * S ≤ N * w.sum ^ t.length ∧ N * w.sum ^ t.length < ((prt w t).1 + (prt w t).2) * S
theorem inP_head {w : List Int} (hw : Wts w) {a : Int} {t : List Int} (h : Ltr w (a :: t)) {N S : Int} (hS : 0 < S) (q : InP w (a :: t) N S) :
    pre w a * S ≤ N * w.sum ∧ N * w.sum < (pre w a + w[a.toNat]!) * S ∧ InP w t (N * w.sum - pre w a * S) (S * w[a.toNat]!) := by
  obtain ⟨i1, i2, i3⟩ := prt_bd hw t h.tail
  obtain ⟨a1, a2⟩ := h a List.mem_cons_self
  obtain ⟨w1, w2⟩ := hw.at a1 a2
  have tp := pow_pos' hw.sum.1 t.length
  obtain ⟨q1, q2⟩ := q
  rw [prt_front, List.length_cons, Int.pow_succ] at q1 q2
  dsimp only at q1 q2
  unfold InP
  generalize w.sum ^ t.length = T at *
  generalize (prt w t).1 = lo at *
  generalize (prt w t).2 = sz at *
  generalize w[a.toNat]! = x at *
  generalize pre w a = p at *
  have e2 : 0 ≤ x * lo * S := Int.mul_nonneg (Int.mul_nonneg (by omega) i1) (by omega)
  have e4 : x * S * (lo + sz) ≤ x * S * T := Int.mul_le_mul_of_nonneg_left i3 (Int.mul_nonneg (by omega) (by omega))
  refine ⟨Int.le_of_mul_le_mul_right (a := T) ?_ (by omega), Int.lt_of_mul_lt_mul_right (a := T) ?_ (by omega), ?_, ?_⟩ <;> grind
theorem inP_uniq {w : List Int} (hw : Wts w) : ∀ (t u : List Int) (N S : Int), 0 < S → Ltr w t → Ltr w u → t.length = u.length → InP w t N S → InP w u N S → t = u
  | [], [], _, _, _, _, _, _, _, _ => rfl
  | [], _ :: _, _, _, _, _, _, e, _, _ => by cases e
  | _ :: _, [], _, _, _, _, _, e, _, _ => by cases e
  | a :: t, b :: u, N, S, hS, ht, hu, e, q1, q2 => by
    obtain ⟨x1, x2, x3⟩ := inP_head hw ht hS q1
    obtain ⟨y1, y2, y3⟩ := inP_head hw hu hS q2
    obtain ⟨a1, a2⟩ := ht a List.mem_cons_self
    obtain ⟨b1, b2⟩ := hu b List.mem_cons_self
    have hab : a = b := by
      rcases Int.lt_trichotomy a b with h | h | h
      · exfalso
        have := pre_mono hw (a := a + 1) (b := b) (by omega) (by omega) (by omega)
        rw [pre_succ w a1 a2] at this
        have := Int.mul_le_mul_of_nonneg_right this (c := S) (by omega)
        omega
      · exact h
      · exfalso
        have := pre_mono hw (a := b + 1) (b := a) (by omega) (by omega) (by omega)
        rw [pre_succ w b1 b2] at this
        have := Int.mul_le_mul_of_nonneg_right this (c := S) (by omega)
        omega
    subst hab
    have w1 := (hw.at a1 a2).1
    rw [inP_uniq hw t u _ _ (Int.mul_pos hS w1) ht.tail hu.tail (by simpa using e) x3 y3]
/-- a further letter is read -/
theorem read_step {w fd : List Int} {a N0 S0 n s : Int} (hn : n = N0 * w.sum ^ fd.length - (prt w fd).1 * S0) (hs : s = S0 * (prt w fd).2) :
    n * w.sum - pre w a * s = N0 * w.sum ^ (fd ++ [a]).length - (prt w (fd ++ [a])).1 * S0 ∧ s * w[a.toNat]! = S0 * (prt w (fd ++ [a])).2 := by
  rw [prt_snoc, List.length_append, List.length_singleton, Int.pow_succ]
  unfold stp
  subst hn hs
  dsimp only
  constructor <;> grind
/-- the neighbour's part meets -/
theorem prt_next {w t : List Int} {a : Int} (h1 : 0 ≤ a) (h2 : a < w.length) : (prt w (t ++ [a + 1])).1 = (prt w (t ++ [a])).1 + (prt w (t ++ [a])).2 := by
  rw [prt_snoc, prt_snoc]
  unfold stp
  dsimp only
  rw [pre_succ w h1 h2]
  grind
/-! ### the shortest word -/
def fst (lo wh : Int) (L : Nat) : Int := (lo * 2 ^ L + wh - 1) / wh
def Gd (lo sz wh : Int) (L : Nat) : Prop := (fst lo wh L + 1) * wh ≤ (lo + sz) * 2 ^ L
theorem ceil_eq {a b : Int} (h : 0 < b) : -((-a) / b) = (a + b - 1) / b := by
  have h1 := Int.mul_ediv_add_emod (-a) b
  have h2 := Int.emod_nonneg (-a) (b := b) (by omega)
  have h3 := Int.emod_lt_of_pos (-a) h
  refine Int.le_antisymm ((Int.le_ediv_iff_mul_le h).mpr ?_) (Int.le_of_lt_add_one ((Int.ediv_lt_iff_lt_mul h).mpr ?_)) <;> grind
theorem fst_bd {lo wh : Int} (h : 0 < wh) (L : Nat) : lo * 2 ^ L ≤ fst lo wh L * wh ∧ fst lo wh L * wh < lo * 2 ^ L + wh := by
  unfold fst
  generalize lo * 2 ^ L = x
  have h1 := Int.mul_ediv_add_emod (x + wh - 1) wh
  have h2 := Int.emod_nonneg (x + wh - 1) (b := wh) (by omega)
  have h3 := Int.emod_lt_of_pos (x + wh - 1) h
  rw [Int.mul_comm] at h1
  constructor <;> omega
theorem gd_big {lo sz wh : Int} (h : 0 < wh) (hs : 1 ≤ sz) {L : Nat} (hL : 2 * wh ≤ 2 ^ L) : Gd lo sz wh L := by
  have := fst_bd (lo := lo) h L
  unfold Gd
  have : 1 * 2 ^ L ≤ sz * 2 ^ L := Int.mul_le_mul_of_nonneg_right hs (Int.pow_nonneg (by omega))
  grind
theorem pow_le_left {a b : Int} (h0 : 0 ≤ a) (h : a ≤ b) : ∀ n : Nat, a ^ n ≤ b ^ n
  | 0 => by simp
  | n + 1 => by
    rw [Int.pow_succ, Int.pow_succ]
    exact Int.mul_le_mul (pow_le_left h0 h n) h h0 (Int.pow_nonneg (by omega))
theorem pow_le_right {a : Int} (h0 : 1 ≤ a) {m n : Nat} (h : m ≤ n) : a ^ m ≤ a ^ n := by
  obtain ⟨k, rfl⟩ := Nat.le.dest h
  rw [Int.pow_add]
  have := Int.mul_le_mul_of_nonneg_left (pow_pos' h0 k) (c := a ^ m) (Int.pow_nonneg (by omega))
  omega
theorem whole_lt {T : Int} (h1 : 1 ≤ T) (h2 : T ≤ 5000000) {n : Nat} (hn : n ≤ 200) : T ^ n < 2 ^ 4601 := by
  have e1 : T ^ n ≤ 8388608 ^ n := pow_le_left (by omega) (by omega) n
  have e2 : (8388608 : Int) ^ n ≤ 8388608 ^ 200 := pow_le_right (by omega) hn
  have e3 : (8388608 : Int) ^ 200 < 2 ^ 4601 := by decide +kernel
  omega
theorem gd_some {lo sz wh : Int} (h : 0 < wh) (hs : 1 ≤ sz) (hw : wh < 2 ^ 4601) {L : Nat} (hL : 4602 ≤ L) : Gd lo sz wh L := by
  refine gd_big h hs ?_
  have e : (2 : Int) ^ 4602 ≤ 2 ^ L := pow_le_right (by omega) hL
  have e2 : (2 : Int) ^ 4602 = 2 ^ 4601 * 2 := Int.pow_succ ..
  generalize (2 : Int) ^ 4601 = z at *
  omega
/-- what the shortest word is -/
structure Sh (lo sz wh : Int) (L : Nat) : Prop where
  gd : Gd lo sz wh L
  lst : ∀ k, k < L → ¬ Gd lo sz wh k
theorem Sh.uniq {lo sz wh : Int} {L M : Nat} (a : Sh lo sz wh L) (b : Sh lo sz wh M) : L = M := by
  rcases Nat.lt_trichotomy L M with h | h | h
  · exact absurd a.gd (b.lst _ h)
  · exact h
  · exact absurd b.gd (a.lst _ h)
theorem Sh.le {lo sz wh : Int} {L : Nat} (a : Sh lo sz wh L) (h : 0 < wh) (hs : 1 ≤ sz) (hw : wh < 2 ^ 4601) : L ≤ 4602 := by
  rcases Nat.lt_or_ge 4602 L with z | z
  · exact absurd (gd_some h hs hw (Nat.le_refl 4602)) (a.lst _ z)
  · exact z
/-! ### words as numbers -/
def bitsR : Int → Nat → List Int
  | _, 0 => []
  | x, L + 1 => bitsR (x / 2) L ++ [x % 2]
theorem bitsR_len : ∀ (L : Nat) (x : Int), (bitsR x L).length = L
  | 0, _ => rfl
  | L + 1, x => by simp [bitsR, bitsR_len L]
theorem bitsR_split : ∀ (L j : Nat) (x : Int), bitsR x (L + j) = bitsR (x / 2 ^ j) L ++ bitsR x j
  | L, 0, x => by simp [bitsR]
  | L, j + 1, x => by
    show bitsR (x / 2) (L + j) ++ [x % 2] = _ ++ (bitsR (x / 2) j ++ [x % 2])
    rw [bitsR_split L j (x / 2), Int.ediv_ediv_of_nonneg (by omega), List.append_assoc, Int.pow_succ, Int.mul_comm]
theorem bitsR_cons (x : Int) (j : Nat) : (x / 2 ^ j % 2) :: bitsR x j = bitsR x (j + 1) := by
  rw [Nat.add_comm, bitsR_split 1 j]; rfl
theorem bitsR_map : ∀ (L : Nat) (x : Int), bitsR x L = (irange 0 L).map fun p => x / 2 ^ ((L : Int) - 1 - p).toNat % 2
  | 0, _ => rfl
  | L + 1, x => by
    rw [show ((L + 1 : Nat) : Int) = (L : Int) + 1 by omega, irange_succ (by omega), List.map_append]
    show bitsR (x / 2) L ++ [x % 2] = _
    rw [bitsR_map L]
    congr 1
    · refine List.map_congr_left fun p hp => ?_
      obtain ⟨h1, h2⟩ := mem_irange.mp hp
      rw [Int.ediv_ediv_of_nonneg (by omega), Int.mul_comm, ← Int.pow_succ]
      congr 3
      omega
    · show [x % 2] = [x / 2 ^ ((L : Int) + 1 - 1 - L).toNat % 2]
      rw [show ((L : Int) + 1 - 1 - L).toNat = 0 by omega]
      simp
theorem bitsR_01 : ∀ (L : Nat) (x : Int), ∀ b ∈ bitsR x L, b = 0 ∨ b = 1
  | 0, _, _, h => by cases h
  | L + 1, x, b, h => by
    rcases List.mem_append.mp h with h | h
    · exact bitsR_01 L _ b h
    · rw [List.mem_singleton.mp h]; omega
def num (l : List Int) : Int := l.foldl (fun n b => 2 * n + b) 0
theorem num_snoc (l : List Int) (b : Int) : num (l ++ [b]) = 2 * num l + b := by
  unfold num; rw [List.foldl_append]; rfl
theorem num_bits : ∀ (L : Nat) (x : Int), 0 ≤ x → x < 2 ^ L → num (bitsR x L) = x
  | 0, x, h1, h2 => by
    show (0 : Int) = x
    have : (2 : Int) ^ 0 = 1 := rfl
    omega
  | L + 1, x, h1, h2 => by
    rw [Int.pow_succ] at h2
    show num (bitsR (x / 2) L ++ [x % 2]) = x
    rw [num_snoc, num_bits L (x / 2) (by omega) (by omega)]
    omega
theorem fold_num : ∀ (l : List Int) (n : Int), l.foldl (fun n b => 2 * n + b) n = n * 2 ^ l.length + num l
  | [], n => by simp [num]
  | b :: l, n => by
    have e : num (b :: l) = l.foldl (fun n b => 2 * n + b) (2 * 0 + b) := rfl
    rw [List.foldl_cons, e, fold_num l, fold_num l (2 * 0 + b), List.length_cons, Int.pow_succ]
    grind
theorem num_app (l m : List Int) : num (l ++ m) = num l * 2 ^ m.length + num m := by
  unfold num
  rw [List.foldl_append, fold_num m]; rfl
theorem num_bd : ∀ (l : List Int), (∀ b ∈ l, b = 0 ∨ b = 1) → 0 ≤ num l ∧ num l < 2 ^ l.length := by
  intro l
  suffices h : ∀ n (l : List Int), l.length = n → (∀ b ∈ l, b = 0 ∨ b = 1) → 0 ≤ num l ∧ num l < 2 ^ l.length from h _ l rfl
  intro n
  induction n with
  | zero =>
    intro l hl _
    rw [List.length_eq_zero_iff.mp hl]
    exact ⟨by decide, by decide⟩
  | succ n ih =>
    intro l hl h
    have hne : l ≠ [] := by intro e; rw [e] at hl; cases hl
    have e : l = l.dropLast ++ [l.getLast hne] := (List.dropLast_concat_getLast hne).symm
    have hl' : l.dropLast.length = n := by rw [List.length_dropLast]; omega
    have i := ih l.dropLast hl' fun b m => h b ((List.dropLast_sublist l).mem m)
    have hb := h _ (List.getLast_mem hne)
    rw [hl'] at i
    rw [hl, e, num_snoc, Int.pow_succ]
    omega
/-- the shortest word's stretch, and all behind it -/
theorem sh_in {w t : List Int} (hw : Wts w) (ht : Ltr w t) {L : Nat} (h : Sh (prt w t).1 (prt w t).2 (w.sum ^ t.length) L) (m : List Int) (hm : ∀ b ∈ m, b = 0 ∨ b = 1) :
    0 ≤ fst (prt w t).1 (w.sum ^ t.length) L ∧ fst (prt w t).1 (w.sum ^ t.length) L < 2 ^ L ∧ InP w t (num (bitsR (fst (prt w t).1 (w.sum ^ t.length) L) L ++ m)) (2 ^ (L + m.length)) := by
  obtain ⟨i1, i2, i3⟩ := prt_bd hw t ht
  have tp := pow_pos' hw.sum.1 t.length
  have g := h.gd
  obtain ⟨m1, m2⟩ := num_bd m hm
  have p2 : 1 ≤ (2 : Int) ^ L := pow_pos' (by omega) L
  have p3 : 1 ≤ (2 : Int) ^ m.length := pow_pos' (by omega) _
  have hf : 0 ≤ fst (prt w t).1 (w.sum ^ t.length) L := by
    unfold fst
    exact Int.ediv_nonneg (by have := Int.mul_nonneg i1 (b := 2 ^ L) (by omega); omega) (by omega)
  have hf2 : fst (prt w t).1 (w.sum ^ t.length) L < 2 ^ L := by
    have : (fst (prt w t).1 (w.sum ^ t.length) L + 1) * w.sum ^ t.length ≤ 2 ^ L * w.sum ^ t.length := by
      refine Int.le_trans g ?_
      rw [Int.mul_comm (2 ^ L)]
      exact Int.mul_le_mul_of_nonneg_right i3 (by omega)
    have := Int.le_of_mul_le_mul_right this (by omega)
    omega
  refine ⟨hf, hf2, ?_⟩
  unfold InP
  rw [num_app, num_bits L _ hf hf2, Int.pow_add]
  obtain ⟨b1, b2⟩ := fst_bd (lo := (prt w t).1) (wh := w.sum ^ t.length) (by omega) L
  unfold Gd at g
  generalize fst (prt w t).1 (w.sum ^ t.length) L = f at *
  generalize w.sum ^ t.length = T at *
  generalize (prt w t).1 = lo at *
  generalize (prt w t).2 = sz at *
  generalize (2 : Int) ^ L = A at *
  generalize (2 : Int) ^ m.length = B at *
  generalize num m = k at *
  have e1 : lo * A * B ≤ f * T * B := Int.mul_le_mul_of_nonneg_right b1 (by omega)
  have e2 : (f + 1) * T * B ≤ (lo + sz) * A * B := Int.mul_le_mul_of_nonneg_right g (by omega)
  have e3 : k * T < B * T := Int.mul_lt_mul_of_pos_right m2 (by omega)
  have e4 : 0 ≤ k * T := Int.mul_nonneg m1 (by omega)
  constructor <;> grind
end Pk30

set_option linter.all false
set_option maxRecDepth 100000
set_option maxHeartbeats 0
namespace Pk30
open CW
/-! ### orders: plain facts -/
def fc : Nat → Nat
  | 0 => 1
  | n + 1 => (n + 1) * fc n
theorem fc_pos : ∀ n, 0 < fc n
  | 0 => by decide
  | n + 1 => Nat.mul_pos (by omega) (fc_pos n)
def PF : List Int → Nat
  | [] => 1
  | x :: c => fc x.toNat * PF c
theorem PF_pos : ∀ c, 0 < PF c
  | [] => by decide
  | x :: c => Nat.mul_pos (fc_pos _) (PF_pos c)
theorem PF_app : ∀ c d : List Int, PF (c ++ d) = PF c * PF d
  | [], d => by simp [PF]
  | x :: c, d => by
    show fc x.toNat * PF (c ++ d) = fc x.toNat * PF c * PF d
    rw [PF_app c d, Nat.mul_assoc]
def Nn (c : List Int) : Prop := ∀ x ∈ c, 0 ≤ x
theorem Nn.sum : ∀ {c : List Int}, Nn c → 0 ≤ c.sum
  | [], _ => by simp
  | x :: c, h => by
    have h1 := h x List.mem_cons_self
    have h2 : 0 ≤ c.sum := Nn.sum fun y m => h y (List.mem_cons_of_mem _ m)
    rw [List.sum_cons]; omega
def B : Nat → Nat → Nat
  | 0 => fun _ => 1
  | d + 1 => fun j => Nat.rec 1 (fun j r => B d (j + 1) + r) j
theorem B_zero (d : Nat) : B d 0 = 1 := by cases d <;> rfl
theorem B_ok : ∀ d j : Nat, B d j * fc d * fc j = fc (d + j)
  | d, 0 => by rw [B_zero]; simp [fc]
  | 0, j + 1 => by simp [B, fc]
  | d + 1, j + 1 => by
    have h1 := B_ok d (j + 1)
    have h2 := B_ok (d + 1) j
    have e1 : fc (d + 1 + (j + 1)) = (d + j + 2) * fc (d + (j + 1)) := by rw [show d + 1 + (j + 1) = (d + (j + 1)) + 1 by omega]; show (d + (j + 1) + 1) * _ = _; rw [show d + (j + 1) + 1 = d + j + 2 by omega]
    have e2 : d + 1 + j = d + (j + 1) := by omega
    have e3 : B (d + 1) (j + 1) = B d (j + 1) + B (d + 1) j := rfl
    have e4 : fc (d + 1) = (d + 1) * fc d := rfl
    have e5 : fc (j + 1) = (j + 1) * fc j := rfl
    rw [e2] at h2
    rw [e1, e3]
    rw [e4] at h2 ⊢
    rw [e5] at h1 ⊢
    generalize fc (d + (j + 1)) = F at *
    generalize B d (j + 1) = b1 at *
    generalize B (d + 1) j = b2 at *
    generalize fc d = fd at *
    generalize fc j = fj at *
    grind
theorem B_step (d j : Nat) : B d (j + 1) * (j + 1) = B d j * (d + j + 1) := by
  have h1 := B_ok d (j + 1)
  have h2 := B_ok d j
  have e : fc (d + (j + 1)) = (d + j + 1) * fc (d + j) := rfl
  have e5 : fc (j + 1) = (j + 1) * fc j := rfl
  rw [e, ← h2, e5] at h1
  refine Nat.eq_of_mul_eq_mul_right (Nat.mul_pos (fc_pos d) (fc_pos j)) ?_
  generalize B d (j + 1) = b1 at *
  generalize B d j = b2 at *
  generalize fc d = fd at *
  generalize fc j = fj at *
  grind
/-- how many texts there are with letters so often each -/
def M (c : List Int) : Nat := fc c.sum.toNat / PF c
theorem M_of {c : List Int} {r : Nat} (h : r * PF c = fc c.sum.toNat) : M c = r := by
  unfold M
  rw [← h, Nat.mul_div_cancel _ (PF_pos c)]
theorem M_nil : M [] = 1 := M_of rfl
theorem step_ok {p : List Int} {x : Int} (hp : Nn p) (hx : 0 ≤ x) (h : M p * PF p = fc p.sum.toNat) : M p * B p.sum.toNat x.toNat * PF (p ++ [x]) = fc (p ++ [x]).sum.toNat := by
  have e : (p ++ [x]).sum.toNat = p.sum.toNat + x.toNat := by
    have := hp.sum
    rw [List.sum_append]
    simp only [List.sum_cons, List.sum_nil]
    omega
  rw [e, ← B_ok, ← h, PF_app]
  show M p * B _ _ * (PF p * (fc x.toNat * 1)) = _
  grind
theorem M_ok {c : List Int} (h : Nn c) : M c * PF c = fc c.sum.toNat := by
  suffices ∀ n (c : List Int), c.length = n → Nn c → M c * PF c = fc c.sum.toNat from this _ c rfl h
  intro n
  induction n with
  | zero =>
    intro c e _
    rw [List.length_eq_zero_iff.mp e]; rfl
  | succ n ih =>
    intro c e h
    have hne : c ≠ [] := by intro z; rw [z] at e; cases e
    obtain ⟨p, x, rfl⟩ : ∃ p x, c = p ++ [x] := ⟨_, _, (List.dropLast_concat_getLast hne).symm⟩
    have hp : Nn p := fun y m => h y (List.mem_append_left _ m)
    have hx : 0 ≤ x := h x (by simp)
    have i := ih p (by simpa using e) hp
    have := step_ok hp hx i
    rw [M_of this]; exact this
theorem M_snoc {p : List Int} {x : Int} (hp : Nn p) (hx : 0 ≤ x) : M (p ++ [x]) = M p * B p.sum.toNat x.toNat := M_of (step_ok hp hx (M_ok hp))
theorem M_pos {c : List Int} (h : Nn c) : 0 < M c := by
  have e := M_ok h
  have := fc_pos c.sum.toNat
  rcases Nat.eq_zero_or_pos (M c) with z | z
  · rw [z] at e; omega
  · exact z
theorem all0_sum : ∀ {c : List Int}, Nn c → c.sum = 0 → ∀ x ∈ c, x = 0
  | [], _, _, _, m => by cases m
  | y :: c, h, e, x, m => by
    have h1 := h y List.mem_cons_self
    have hn : Nn c := fun z m => h z (List.mem_cons_of_mem _ m)
    have h2 := hn.sum
    rw [List.sum_cons] at e
    rcases List.mem_cons.mp m with rfl | m
    · omega
    · exact all0_sum hn (by omega) x m
theorem sum_all0 : ∀ {c : List Int}, (∀ x ∈ c, x = 0) → c.sum = 0
  | [], _ => rfl
  | y :: c, h => by
    rw [List.sum_cons, h y List.mem_cons_self, sum_all0 fun x m => h x (List.mem_cons_of_mem _ m)]; rfl
theorem PF_all0 : ∀ {c : List Int}, (∀ x ∈ c, x = 0) → PF c = 1
  | [], _ => rfl
  | y :: c, h => by
    show fc y.toNat * PF c = 1
    rw [h y List.mem_cons_self, PF_all0 fun x m => h x (List.mem_cons_of_mem _ m)]; rfl
theorem M_all0 {c : List Int} (h : ∀ x ∈ c, x = 0) : M c = 1 := M_of (by rw [PF_all0 h, sum_all0 h]; rfl)
/-- one less of a letter -/
def dec (c : List Int) (i : Nat) : List Int := c.set i (c[i]! - 1)
theorem dec_len (c : List Int) (i : Nat) : (dec c i).length = c.length := List.length_set
theorem dec_sum : ∀ {c : List Int} {i : Nat}, i < c.length → (dec c i).sum = c.sum - 1
  | [], _, h => absurd h (Nat.not_lt_zero _)
  | x :: c, 0, _ => by simp [dec]; omega
  | x :: c, i + 1, h => by
    have := dec_sum (c := c) (i := i) (by simpa using h)
    show (x :: dec c i).sum = _
    rw [List.sum_cons, List.sum_cons, this]; omega
theorem dec_nn {c : List Int} {i : Nat} (h : Nn c) (hi : 0 < c[i]!) : Nn (dec c i) := by
  intro x m
  rcases List.mem_or_eq_of_mem_set m with m | e
  · exact h x m
  · omega
theorem PF_dec : ∀ {c : List Int} {i : Nat}, i < c.length → 0 < c[i]! → PF (dec c i) * c[i]!.toNat = PF c
  | [], _, h, _ => absurd h (Nat.not_lt_zero _)
  | x :: c, 0, _, hx => by
    have hx : 0 < x := hx
    show fc (x - 1).toNat * PF c * x.toNat = fc x.toNat * PF c
    obtain ⟨k, hk⟩ : ∃ k : Nat, x.toNat = k + 1 := ⟨x.toNat - 1, by omega⟩
    rw [show (x - 1).toNat = k by omega, hk]
    show _ = (k + 1) * fc k * PF c
    grind
  | x :: c, i + 1, h, hx => by
    have := PF_dec (c := c) (i := i) (by simpa using h) (by simpa using hx)
    show fc x.toNat * PF (dec c i) * ((x :: c)[i + 1]!).toNat = fc x.toNat * PF c
    rw [← this, show (x :: c)[i + 1]! = c[i]! by simp, Nat.mul_assoc]
def trm (c : List Int) (i : Nat) : Nat := if 0 < c[i]! then M (dec c i) else 0
def Sm (c : List Int) : Nat → Nat
  | 0 => 0
  | a + 1 => Sm c a + trm c a
theorem trm_ok {c : List Int} (h : Nn c) {i : Nat} (hi : i < c.length) : trm c i * PF c = c[i]!.toNat * fc (c.sum.toNat - 1) := by
  unfold trm
  split
  · next z =>
    have := M_ok (dec_nn h z)
    rw [dec_sum hi, show (c.sum - 1).toNat = c.sum.toNat - 1 by omega] at this
    rw [← PF_dec hi z, ← this]
    grind
  · next z => rw [show c[i]!.toNat = 0 by omega]; simp
theorem Sm_ok {c : List Int} (h : Nn c) : ∀ k, k ≤ c.length → Sm c k * PF c = (c.take k).sum.toNat * fc (c.sum.toNat - 1)
  | 0, _ => by simp [Sm]
  | k + 1, hk => by
    have i := Sm_ok h k (by omega)
    have t := trm_ok h (i := k) (by omega)
    have n1 : 0 ≤ (c.take k).sum := Nn.sum fun x m => h x (List.mem_of_mem_take m)
    have n2 : 0 ≤ c[k]! := h _ (by rw [getElem!_pos c k (by omega)]; exact List.getElem_mem _)
    show (Sm c k + trm c k) * PF c = _
    rw [Nat.add_mul, i, t, List.take_succ_eq_append_getElem (by omega), List.sum_append, ← Nat.add_mul]
    congr 1
    rw [getElem!_pos c k (by omega)] at n2 ⊢
    simp only [List.sum_cons, List.sum_nil]
    omega
theorem Sm_len {c : List Int} (h : Nn c) (hs : 0 < c.sum) : Sm c c.length = M c := by
  have e := Sm_ok h c.length (Nat.le_refl _)
  rw [List.take_length] at e
  refine (M_of ?_).symm
  rw [e]
  obtain ⟨k, hk⟩ : ∃ k : Nat, c.sum.toNat = k + 1 := ⟨c.sum.toNat - 1, by omega⟩
  rw [hk]; rfl
theorem Sm_mono (c : List Int) {a b : Nat} (h : a ≤ b) : Sm c a ≤ Sm c b := by
  induction h with
  | refl => exact Nat.le_refl _
  | step _ ih => exact Nat.le_trans ih (Nat.le_add_right _ _)
/-- how many texts are less -/
def R : List Int → List Int → Nat
  | _, [] => 0
  | c, a :: t => Sm c a.toNat + R (dec c a.toNat) t
def Ft : List Int → List Int → Prop
  | c, [] => ∀ x ∈ c, x = 0
  | c, a :: t => 0 ≤ a ∧ a < c.length ∧ 0 < c[a.toNat]! ∧ Ft (dec c a.toNat) t
theorem sum_pos {c : List Int} (h : Nn c) {i : Nat} (hi : i < c.length) (hc : 0 < c[i]!) : 0 < c.sum := by
  have := (dec_nn h hc).sum
  rw [dec_sum hi] at this
  omega
theorem R_lt : ∀ {t c : List Int}, Nn c → Ft c t → R c t < M c
  | [], c, h, f => by
    rw [M_all0 f]; exact Nat.zero_lt_one
  | a :: t, c, h, ⟨h1, h2, h3, f⟩ => by
    have i := R_lt (dec_nn h h3) f
    have e : Sm c (a.toNat + 1) = Sm c a.toNat + M (dec c a.toNat) := by
      show Sm c a.toNat + trm c a.toNat = _
      unfold trm
      rw [if_pos h3]
    have m := Sm_mono c (a := a.toNat + 1) (b := c.length) (by omega)
    have := Sm_len h (sum_pos h (i := a.toNat) (by omega) h3)
    show Sm c a.toNat + R (dec c a.toNat) t < M c
    omega
theorem R_inj : ∀ {t u c : List Int}, Nn c → Ft c t → Ft c u → R c t = R c u → t = u
  | [], [], _, _, _, _, _ => rfl
  | [], b :: u, c, h, f, ⟨g1, g2, g3, g⟩, _ => by
    have := f _ (ixm_mem g1 g2)
    omega
  | a :: t, [], c, h, ⟨g1, g2, g3, g⟩, f, _ => by
    have := f _ (ixm_mem g1 g2)
    omega
  | a :: t, b :: u, c, h, ⟨f1, f2, f3, f⟩, ⟨g1, g2, g3, g⟩, e => by
    have e : Sm c a.toNat + R (dec c a.toNat) t = Sm c b.toNat + R (dec c b.toNat) u := e
    have hh : ∀ {a b : Int} {t u : List Int}, 0 ≤ a → 0 < c[a.toNat]! → Ft (dec c a.toNat) t → 0 ≤ b → a < b → Sm c a.toNat + R (dec c a.toNat) t < Sm c b.toNat + R (dec c b.toNat) u := by
      intro a b t u h1 h2 h3 h4 h5
      have i := R_lt (dec_nn h h2) h3
      have e : Sm c (a.toNat + 1) = Sm c a.toNat + M (dec c a.toNat) := by
        show Sm c a.toNat + trm c a.toNat = _
        unfold trm
        rw [if_pos h2]
      have m := Sm_mono c (a := a.toNat + 1) (b := b.toNat) (by omega)
      omega
    rcases Int.lt_trichotomy a b with z | z | z
    · have := hh (u := u) f1 f3 f g1 z
      omega
    · subst z
      rw [R_inj (dec_nn h f3) f g (by omega)]
    · have := hh (u := t) g1 g3 g f1 z
      omega
/-- how often each letter stands in a text -/
def cnt (m : Nat) (t : List Int) : List Int := (irange 0 m).map fun i => (t.count i : Int)
theorem cnt_len (m : Nat) (t : List Int) : (cnt m t).length = m := by
  unfold cnt
  rw [List.length_map, irange_len]; omega
theorem cnt_get {m i : Nat} (t : List Int) (h : i < m) : (cnt m t)[i]! = (t.count (i : Int) : Int) := by
  rw [getElem!_pos _ _ (by rw [cnt_len]; exact h)]
  unfold cnt
  rw [List.getElem_map]
  have := irange_get (a := 0) (b := m) (i := i) (by omega)
  rw [List.getElem?_eq_some_iff] at this
  obtain ⟨_, e⟩ := this
  rw [e]; simp
theorem cnt_nn (m : Nat) (t : List Int) : Nn (cnt m t) := by
  intro x h
  unfold cnt at h
  obtain ⟨i, _, rfl⟩ := List.mem_map.mp h
  omega
theorem ext! {a b : List Int} (hl : a.length = b.length) (h : ∀ i, i < a.length → a[i]! = b[i]!) : a = b := by
  refine List.ext_getElem hl fun i h1 h2 => ?_
  have := h i h1
  rwa [getElem!_pos a i h1, getElem!_pos b i h2] at this
theorem dec_get {c : List Int} {i j : Nat} (h : j < c.length) : (dec c i)[j]! = if i = j then c[j]! - 1 else c[j]! := by
  rw [getElem!_pos _ _ (by rw [dec_len]; exact h)]
  unfold dec
  rw [List.getElem_set]
  split
  · next e => subst e; rfl
  · rw [getElem!_pos c j h]
theorem cnt_dec {m : Nat} {a : Int} {t : List Int} (h1 : 0 ≤ a) (h2 : a < m) : dec (cnt m (a :: t)) a.toNat = cnt m t := by
  refine ext! (by rw [dec_len, cnt_len, cnt_len]) fun i hi => ?_
  rw [dec_len, cnt_len] at hi
  rw [dec_get (by rw [cnt_len]; exact hi), cnt_get _ hi, cnt_get _ hi, List.count_cons]
  by_cases e : a.toNat = i
  · rw [if_pos e, if_pos (by simp; omega)]; omega
  · rw [if_neg e, if_neg (by simp; omega)]; omega
theorem cnt_ft {m : Nat} : ∀ {t : List Int}, (∀ a ∈ t, 0 ≤ a ∧ a < (m : Int)) → Ft (cnt m t) t
  | [], _ => by
    intro x h
    unfold cnt at h
    obtain ⟨i, _, rfl⟩ := List.mem_map.mp h
    simp
  | a :: t, h => by
    obtain ⟨h1, h2⟩ := h a List.mem_cons_self
    refine ⟨h1, by rw [cnt_len]; exact h2, ?_, ?_⟩
    · rw [cnt_get _ (by omega), List.count_cons, if_pos (by simp; omega)]; omega
    · rw [cnt_dec h1 h2]
      exact cnt_ft fun x m => h x (List.mem_cons_of_mem _ m)
theorem ft_cnt : ∀ {t c : List Int}, Ft c t → c = cnt c.length t ∧ ∀ a ∈ t, 0 ≤ a ∧ a < (c.length : Int)
  | [], c, h => by
    refine ⟨ext! (by rw [cnt_len]) fun i hi => ?_, fun a m => by cases m⟩
    rw [cnt_get _ hi, getElem!_pos c i hi, h _ (List.getElem_mem hi)]; simp
  | a :: t, c, ⟨h1, h2, h3, f⟩ => by
    obtain ⟨e, l⟩ := ft_cnt f
    rw [dec_len] at e l
    refine ⟨ext! (by rw [cnt_len]) fun i hi => ?_, fun x m => ?_⟩
    · have g := dec_get (c := c) (i := a.toNat) (j := i) hi
      rw [e, cnt_get _ hi] at g
      rw [cnt_get _ hi, List.count_cons]
      by_cases z : a.toNat = i
      · rw [if_pos z] at g
        rw [if_pos (by simp; omega)]; omega
      · rw [if_neg z] at g
        rw [if_neg (by simp; omega)]; omega
    · rcases List.mem_cons.mp m with rfl | m
      · exact ⟨h1, h2⟩
      · exact l x m
theorem ft_len : ∀ {t c : List Int}, Ft c t → c.sum = t.length
  | [], c, h => by rw [sum_all0 h]; rfl
  | a :: t, c, ⟨h1, h2, h3, f⟩ => by
    have := ft_len f
    rw [dec_sum (by omega)] at this
    rw [List.length_cons]; omega
/-! ### all texts, layer by layer -/
abbrev TL := List Int × List Int
def exK (x : TL) (k : Nat) : List TL := ((irange 0 k).filter fun l : Int => decide (0 < x.2[l.toNat]!)).map fun l : Int => (x.1 ++ [l], dec x.2 l.toNat)
def exts (x : TL) : List TL := exK x x.2.length
theorem exK_succ (x : TL) (k : Nat) : exK x (k + 1) = exK x k ++ if 0 < x.2[k]! then [(x.1 ++ [(k : Int)], dec x.2 k)] else [] := by
  unfold exK
  rw [show ((k + 1 : Nat) : Int) = (k : Int) + 1 by omega, irange_succ (by omega), List.filter_append, List.map_append]
  congr 1
  simp only [List.filter_cons, List.filter_nil, Int.toNat_natCast, decide_eq_true_eq]
  split <;> rfl
def lay : Nat → List TL → List TL
  | 0, f => f
  | n + 1, f => lay n (f.flatMap exts)
theorem lay_succ : ∀ (n : Nat) (f : List TL), lay (n + 1) f = (lay n f).flatMap exts
  | 0, f => rfl
  | n + 1, f => lay_succ n (f.flatMap exts)
theorem lay_app : ∀ (n : Nat) (f g : List TL), lay n (f ++ g) = lay n f ++ lay n g
  | 0, f, g => rfl
  | n + 1, f, g => by
    show lay n ((f ++ g).flatMap exts) = _
    rw [List.flatMap_append, lay_app n]; rfl
theorem lay_nil : ∀ n, lay n [] = []
  | 0 => rfl
  | n + 1 => lay_nil n
theorem lay_one (n : Nat) (x : TL) : lay (n + 1) [x] = lay n (exts x) := by
  show lay n ([x].flatMap exts) = _
  simp
theorem lay_len : ∀ (n : Nat) (x : TL), Nn x.2 → x.2.sum = n → (lay n [x]).length = M x.2
  | 0, x, h, e => by
    rw [M_all0 (all0_sum h (by simpa using e))]; rfl
  | n + 1, x, h, e => by
    have key : ∀ k, k ≤ x.2.length → (lay n (exK x k)).length = Sm x.2 k := by
      intro k
      induction k with
      | zero => intro _; show (lay n []).length = 0; rw [lay_nil]; rfl
      | succ k ih =>
        intro hk
        rw [exK_succ, lay_app, List.length_append, ih (by omega)]
        show _ = Sm x.2 k + trm x.2 k
        unfold trm
        split
        · next z => rw [lay_len n _ (dec_nn h z) (by show (dec _ _).sum = _; rw [dec_sum (by omega)]; omega)]
        · rw [lay_nil]; rfl
    rw [lay_one]
    show (lay n (exK x x.2.length)).length = _
    rw [key _ (Nat.le_refl _), Sm_len h (by omega)]
theorem lay_fst : ∀ (n : Nat) (f : List TL) (y : TL), y ∈ lay n f → ∃ x ∈ f, ∃ s, y.1 = x.1 ++ s
  | 0, f, y, h => ⟨y, h, [], by simp⟩
  | n + 1, f, y, h => by
    obtain ⟨x, hx, s, e⟩ := lay_fst n _ y h
    obtain ⟨z, hz, m⟩ := List.mem_flatMap.mp hx
    unfold exts exK at m
    obtain ⟨l, _, rfl⟩ := List.mem_map.mp m
    exact ⟨z, hz, l :: s, by rw [e]; simp⟩
theorem findIdx_app {α : Type} (p : α → Bool) (a b : List α) (h : ∀ x ∈ a, p x = false) : (a ++ b).findIdx? p = (b.findIdx? p).map (· + a.length) := by
  rw [List.findIdx?_append]
  have : a.findIdx? p = none := by
    rw [List.findIdx?_eq_none_iff]; exact h
  rw [this]
  simp
theorem findIdx_left {α : Type} (p : α → Bool) (a b : List α) {i : Nat} (h : a.findIdx? p = some i) : (a ++ b).findIdx? p = some i := by
  rw [List.findIdx?_append, h]; rfl
theorem lay_idx : ∀ (t p c : List Int), Nn c → Ft c t → (lay t.length [(p, c)]).findIdx? (fun y => decide (y.1 = p ++ t)) = some (R c t)
  | [], p, c, h, f => by
    show [(p, c)].findIdx? _ = some 0
    simp
  | a :: t, p, c, h, ⟨h1, h2, h3, f⟩ => by
    have i := lay_idx t (p ++ [a]) (dec c a.toNat) (dec_nn h h3) f
    have hl := lay_len t.length (p ++ [a], dec c a.toNat)
    have ec := ft_len f
    have key : ∀ k, k ≤ c.length → (lay t.length (exK (p, c) k)).length = Sm c k := by
      intro k
      induction k with
      | zero => intro _; show (lay _ []).length = 0; rw [lay_nil]; rfl
      | succ k ih =>
        intro hk
        rw [exK_succ, lay_app, List.length_append, ih (by omega)]
        show _ = Sm c k + trm c k
        unfold trm
        dsimp only
        split
        · next z => rw [lay_len _ _ (dec_nn h z) (by show (dec _ _).sum = _; rw [dec_sum (by omega)]; rw [dec_sum (by omega)] at ec; omega)]
        · rw [lay_nil]; rfl
    have far : ∀ k : Nat, k ≤ a.toNat → ∀ y ∈ lay t.length (exK (p, c) k), decide (y.1 = p ++ a :: t) = false := by
      intro k hk y hy
      obtain ⟨x, hx, s, e⟩ := lay_fst _ _ _ hy
      unfold exK at hx
      obtain ⟨l, hl, rfl⟩ := List.mem_map.mp hx
      obtain ⟨l1, l2⟩ := mem_irange.mp (List.mem_filter.mp hl).1
      refine decide_eq_false fun q => ?_
      rw [e] at q
      dsimp only at q
      rw [List.append_assoc] at q
      have q := List.append_cancel_left q
      have : l = a := by injection q
      omega
    have ext : ∀ k : Nat, a.toNat < k → k ≤ c.length → (lay t.length (exK (p, c) k)).findIdx? (fun y => decide (y.1 = p ++ a :: t)) = some (R c (a :: t)) := by
      intro k hk hk2
      induction k with
      | zero => omega
      | succ k ih =>
        rw [exK_succ, lay_app]
        by_cases z : a.toNat = k
        · subst z
          dsimp only
          rw [if_pos h3, findIdx_app _ _ _ (far _ (Nat.le_refl _)), key _ (by omega), show ((a.toNat : Nat) : Int) = a by omega]
          have e : p ++ a :: t = p ++ [a] ++ t := by simp
          rw [e, i]
          show some (R (dec c a.toNat) t + Sm c a.toNat) = some (Sm c a.toNat + R (dec c a.toNat) t)
          rw [Nat.add_comm]
        · exact findIdx_left _ _ _ (ih (by omega) (by omega))
    rw [List.length_cons, lay_one]
    exact ext c.length (by omega) (Nat.le_refl _)
end Pk30

set_option linter.all false
set_option maxRecDepth 100000
set_option maxHeartbeats 0
namespace Pk30
open CW
-- step<
local macro_rules | `(tactic| fail "o") => `(tactic| first
  | ((with_reducible refine le_SZ ?_); first | exact Nat.le_of_ble_eq_true rfl | omega | (simp only [List.length_map, List.length_cons, List.length_nil, List.length_append, List.length_range, List.length_take, List.length_drop, List.length_dropLast, List.length_reverse] at *; omega))
  | ((with_reducible refine lt_SZ ?_); first | exact Nat.le_of_ble_eq_true rfl | omega | (simp only [List.length_map, List.length_cons, List.length_nil, List.length_append, List.length_range, List.length_take, List.length_drop, List.length_dropLast, List.length_reverse] at *; omega)))
local macro_rules | `(tactic| fail "s") => `(tactic| first
  | with_reducible exact s_add
  | with_reducible exact s_sub
  | with_reducible exact s_lt
  | with_reducible exact s_le
  | with_reducible exact s_gt
  | with_reducible exact s_ge
  | with_reducible exact s_eq
  | with_reducible exact s_ne
  | ((with_reducible apply s_mod); omega)
  | ((with_reducible apply s_div); omega; omega)
  | ((with_reducible apply s_mulR); first | exact small_of (by omega) (by omega) | exact small_of (by decide) (by decide))
  | ((with_reducible apply s_mulL); exact small_of (by omega) (by omega))
  | with_reducible exact s_eqs
  | with_reducible exact s_nes
  | with_reducible exact s_eqb
  | with_reducible exact s_neb
  | with_reducible exact s_isb
  | with_reducible exact s_nisb
  | with_reducible exact s_inI
  | with_reducible exact s_nin2
  | with_reducible exact s_in2
  | with_reducible exact s_b2i
  | with_reducible exact s_i2i
  | with_reducible exact s_max2
  | with_reducible exact s_min2
  | with_reducible exact s_lenm
  | with_reducible exact s_lenTm
  | with_reducible exact s_len
  | with_reducible exact s_lenT
  | with_reducible exact s_sumI
  | with_reducible exact s_sumT
  | with_reducible exact s_all
  | with_reducible exact s_any
  | with_reducible exact s_eqN
  | with_reducible exact s_neN
  | with_reducible exact s_eqL
  | with_reducible exact s_neL
  | with_reducible exact s_eqU
  | with_reducible exact s_neU
  | ((with_reducible apply s_band); omega; omega)
  | ((with_reducible apply s_bxor); omega; omega)
  | ((with_reducible apply s_ixm); omega; omega)
  | ((with_reducible apply s_ixTm); omega; omega)
  | ((with_reducible apply s_catm); fail "o")
  | ((with_reducible apply s_catU); fail "o")
  | ((with_reducible apply s_cat1); fail "o")
  | ((with_reducible apply s_catU1); fail "o")
  | ((with_reducible apply s_cat2); fail "o")
  | ((with_reducible apply s_catU2); fail "o")
  | ((with_reducible apply s_catm'); fail "o")
  | ((with_reducible apply s_cat1'); fail "o")
  | ((with_reducible apply s_cat); fail "o")
  | ((with_reducible apply s_catT); fail "o")
  | ((with_reducible apply s_cat'); fail "o")
  | ((with_reducible apply s_rep); omega; omega; fail "o")
  | ((with_reducible apply s_repT); (intro h; cases h); omega; omega; exact Nat.le_of_ble_eq_true rfl)
  | exact s_ix (by decide) rfl
  | exact s_ixT (by decide) rfl
  | rfl
  | ((with_reducible apply s_lenS); assumption)
  | ((with_reducible apply s_sumS); assumption)
  | ((with_reducible apply s_listS); assumption)
  | ((with_reducible apply s_tupleS); assumption)
  | ((with_reducible apply s_ixS); assumption; omega; omega)
  | ((with_reducible apply s_catS); assumption; fail "o"))
local macro_rules | `(tactic| fail) => `(tactic| first
  | ((with_reducible refine kE ?_); first
    | ((with_reducible refine gVar ?_); refine w_var rfl ?_) | with_reducible refine w_op2 ?_ | with_reducible refine w_int ?_ | with_reducible refine w_op1 ?_ | with_reducible refine w_cst ?_ | with_reducible refine w_call ?_ | with_reducible refine w_str ?_ | with_reducible refine w_cons ?_ | with_reducible refine w_fld ?_ | with_reducible refine w_tup ?_ | with_reducible refine w_bl ?_ | with_reducible refine w_non ?_ | with_reducible refine w_bop ?_ | with_reducible refine w_b1 ?_ | with_reducible refine w_b2 ?_ | with_reducible refine w_ite ?_ | with_reducible refine w_lst ?_ | with_reducible refine w_nil ?_ | with_reducible refine w_chain ?_ | with_reducible refine w_meth ?_ | with_reducible refine w_sl ?_ | with_reducible refine w_onone ?_ | with_reducible refine w_osome ?_ | with_reducible refine w_isi ?_ | with_reducible refine w_make ?_ | with_reducible refine w_lrng ?_ | with_reducible refine w_eqo ?_ | with_reducible refine w_lm ?_ | with_reducible refine w_lc ?_ | ((with_reducible refine gFrz ?_); (first | refine w_frz rfl ?_ | refine w_frzv rfl ?_)) | ((with_reducible refine gPop ?_); refine w_pop rfl ?_) | ((with_reducible refine gPopAt ?_); refine w_popAt rfl ?_) | ((with_reducible refine gMethR ?_); refine w_methR rfl rfl ?_))
  | ((with_reducible refine kP ?_); first
    | ((with_reducible refine gPk ?_); refine pk_var rfl ?_) | with_reducible refine pk_e ?_)
  | ((with_reducible refine kC ?_); first
    | ((with_reducible refine And.intro ?_ ?_); (first | with_reducible rfl | ((with_reducible refine q_okR ?_ ?_ ?_ ?_); omega; omega; omega; omega) | fail "o" | ((with_reducible refine eqG ?_); rfl))) | ((with_reducible refine ifT ?_ ?_); (first | with_reducible rfl | with_reducible exact bnt | exact decide_eq_true (by omega) | exact ndT (by omega) | exact decide_eq_true (by decide))) | ((with_reducible refine anT ?_ ?_); (first | with_reducible rfl | with_reducible exact bnt | exact decide_eq_true (by omega) | exact ndT (by omega) | exact decide_eq_true (by decide))) | ((with_reducible refine orT ?_ ?_); (first | with_reducible rfl | with_reducible exact bnt | exact decide_eq_true (by omega) | exact ndT (by omega) | exact decide_eq_true (by decide))) | ((with_reducible refine ifF ?_ ?_); (first | with_reducible rfl | with_reducible exact bnf | exact decide_eq_false (by omega) | exact ndF (by omega) | exact decide_eq_false (by decide))) | ((with_reducible refine anF ?_ ?_); (first | with_reducible rfl | with_reducible exact bnf | exact decide_eq_false (by omega) | exact ndF (by omega) | exact decide_eq_false (by decide))) | ((with_reducible refine orF ?_ ?_); (first | with_reducible rfl | with_reducible exact bnf | exact decide_eq_false (by omega) | exact ndF (by omega) | exact decide_eq_false (by decide))))
  | ((with_reducible refine kX ?_); first
    | ((with_reducible apply ex2); rfl; rfl; fail "s") | ((with_reducible apply ex1); rfl; fail "s") | ((with_reducible apply ex2b); rfl; rfl; fail "s") | ((with_reducible apply exF); rfl; rfl; rfl) | ((with_reducible apply exA); rfl; rfl) | ((with_reducible apply exR); rfl) | ((with_reducible apply exR); exact seqOf_S (by assumption)) | ((with_reducible apply exN); rfl; rfl) | ((with_reducible apply exT); rfl; rfl) | ((with_reducible apply exI); rfl; rfl) | ((with_reducible apply exRR); rfl; rfl) | ((with_reducible apply exX); rfl; rfl; (first | ((with_reducible apply setL_map); omega; omega) | rfl)) | ((with_reducible apply exS); rfl; (first | ((with_reducible apply sl_from); omega) | ((with_reducible apply sl_to); omega) | ((with_reducible apply sl_mid); omega; omega) | with_reducible exact sl_last | ((with_reducible apply sl_fromL); omega) | ((with_reducible apply sl_toL); omega) | ((with_reducible apply sl_midL); omega; omega) | with_reducible exact sl_lastL | ((with_reducible apply sl_fromS); assumption; omega) | ((with_reducible apply sl_toS); assumption; omega) | ((with_reducible apply sl_midS); assumption; omega; omega) | rfl)) | ((with_reducible apply exM); rfl; rfl) | ((with_reducible apply exMo); rfl; rfl) | ((with_reducible apply exSF); rfl; rfl; exact Nat.le_of_ble_eq_true rfl; rfl) | ((with_reducible apply exP); rfl; fail "o"))
  | with_reducible refine s_cons ?_
  | ((with_reducible refine kS ?_); first
    | with_reducible refine s_set ?_ | with_reducible refine s_ifs ?_ | with_reducible refine s_ret ?_ | with_reducible refine s_setN ?_ | with_reducible refine s_for ?_ | with_reducible refine s_exp ?_ | with_reducible refine s_unp ?_ | with_reducible refine s_rse ?_ | with_reducible refine s_par ?_ | with_reducible refine s_setix ?_ | with_reducible refine s_swap ?_ | with_reducible refine s_setf ?_ | with_reducible refine s_ret0 ?_ | with_reducible refine s_pass ?_ | with_reducible refine s_brk ?_ | with_reducible refine s_cnt ?_ | ((with_reducible refine gApp ?_); refine s_app rfl ?_) | ((with_reducible refine gExt ?_); refine s_ext rfl ?_) | ((with_reducible refine gIns0 ?_); refine s_ins0 rfl ?_) | ((with_reducible refine gRvs ?_); refine s_rvs rfl ?_) | ((with_reducible refine gRetNv ?_); refine s_retNv rfl ?_) | ((with_reducible refine gRetN ?_); refine s_retN (by intro i e; cases e) ?_))
  | with_reducible refine s_nil ?_
  | ((with_reducible refine kT ?_); first
    | with_reducible refine t_cmp ?_ | with_reducible refine t_bop ?_ | with_reducible refine t_not ?_ | with_reducible refine t_tr ?_ | with_reducible refine t_chain ?_ | with_reducible refine t_cmpN ?_ | with_reducible refine t_eqo ?_)
  | ((with_reducible refine kH ?_); first
    | ((with_reducible refine h_hit ?_ ?_); rfl) | ((with_reducible refine h_miss ?_ ?_); rfl))
  | with_reducible refine s_try ?_
  | with_reducible refine w_cons ?_
  | with_reducible refine w_nil ?_
  | with_reducible refine t_one ?_
  | with_reducible refine t_cons ?_
  | with_reducible refine t_nil ?_
  | with_reducible refine w_b1 ?_
  | with_reducible refine w_b2 ?_
  | with_reducible refine w_onone ?_
  | with_reducible refine w_osome ?_
  | with_reducible refine wa_v ?_
  | with_reducible refine wa_nil ?_
  | ((with_reducible refine gAr ?_); refine wa_r rfl ?_)
  | ((with_reducible refine gAt ?_); refine wa_t (by intro i e; cases e) ?_)
  | ((with_reducible refine kI ?_); first
    | with_reducible refine i_seqL ?_ | with_reducible refine i_enum ?_ | with_reducible refine i_zip ?_ | with_reducible refine i_rev ?_ | with_reducible refine i_rng3 ?_ | with_reducible refine j_rng1 ?_ | with_reducible refine j_rng2 ?_ | ((with_reducible refine gLive ?_); (first | refine i_liveV rfl rfl ?_ | refine i_liveO rfl ?_))))
local macro_rules | `(tactic| fail "d") => `(tactic| first
  | fail | with_reducible refine ifD (fun h => ?_) (fun h => ?_) | with_reducible refine ifN (fun h => ?_) (fun h => ?_) | with_reducible refine anD (fun h => ?_) (fun h => ?_) | with_reducible refine anN (fun h => ?_) (fun h => ?_) | with_reducible refine orD (fun h => ?_) (fun h => ?_) | with_reducible refine orN (fun h => ?_) (fun h => ?_))
-- >step
theorem ex_succ {d n : Nat} (h : d + 1 ≤ n) : ∃ m, n = m + 1 ∧ d ≤ m := ⟨n - 1, by omega, by omega⟩
theorem lg {i : Int} {k : Nat} (h0 : 0 ≤ i) (h : i < 2 ^ k) (hk : 0 < k) : i.natAbs.log2 < k := by
  by_cases z : i.natAbs = 0
  · rw [z]; simpa using hk
  · rw [Nat.log2_lt z]
    have : ((i.natAbs : Nat) : Int) < ((2 ^ k : Nat) : Int) := by
      rw [Int.natAbs_of_nonneg h0, Int.natCast_pow]; exact h
    exact Int.ofNat_lt.mp this
theorem nem {w : List Int} (h : w ≠ []) : (!(!(w.map D.int).isEmpty)) = false := by
  cases w with
  | nil => exact absurd rfl h
  | cons x w => rfl
theorem power_ok (nm : String) (n : Nat) (hn : 1 ≤ n) (b : Int) (e : Nat) (hb : smallI b = true) (he : e ≤ 100000) (hnm : nm = "raised" ∨ nm = "_law_power") : callF P Y n nm [.int b, .int e] = .ret (.int (b ^ e)) [.int b, .int e] := by
  obtain ⟨m, rfl, hm⟩ := ex_succ hn
  rcases hnm with rfl | rfl
  · rw [c_raised]
    refine WR.eq (fn_at [.va (.int b), .va (.int e), .un, .un] rfl ?_)
    dsimp only [f0]
    repeat fail
    refine fl_pre rfl (fun pre r => ∃ t, r = [.va (.int b), .va (.int e), .va (.int (b ^ pre.length)), t] ∧ free t = true) ⟨.un, by rw [List.length_nil, Int.pow_zero]; rfl, rfl⟩ ?_ ?_
    · rintro pre k post r e' ⟨t, rfl, ht⟩
      refine ⟨[.va (.int b), .va (.int e), .va (.int (b ^ pre.length)), .va (.int k)], by simp [setTg, CW.get, ht, put], ?_⟩
      repeat fail
      refine ex2 rfl rfl (s_mulR hb) ?_
      repeat fail
      exact ⟨.va (.int k), by rw [List.length_append, List.length_singleton, Int.pow_succ]; rfl, rfl⟩
    · rintro r ⟨t, rfl, ht⟩
      rw [irange_len, show ((e : Int) - 0).toNat = e by omega]
      repeat fail
      rfl
  · rw [c__law_power]
    refine WR.eq (fn_at [.va (.int b), .va (.int e), .un, .un] rfl ?_)
    dsimp only [f13]
    repeat fail
    refine fl_pre rfl (fun pre r => ∃ t, r = [.va (.int b), .va (.int e), .va (.int (b ^ pre.length)), t] ∧ free t = true) ⟨.un, by rw [List.length_nil, Int.pow_zero]; rfl, rfl⟩ ?_ ?_
    · rintro pre k post r e' ⟨t, rfl, ht⟩
      refine ⟨[.va (.int b), .va (.int e), .va (.int (b ^ pre.length)), .va (.int k)], by simp [setTg, CW.get, ht, put], ?_⟩
      repeat fail
      refine ex2 rfl rfl (s_mulR hb) ?_
      repeat fail
      exact ⟨.va (.int k), by rw [List.length_append, List.length_singleton, Int.pow_succ]; rfl, rfl⟩
    · rintro r ⟨t, rfl, ht⟩
      rw [irange_len, show ((e : Int) - 0).toNat = e by omega]
      repeat fail
      rfl
theorem raised_ok (n : Nat) (hn : 1 ≤ n) (e : Nat) (he : e ≤ 100000) : callF P Y n "raised" [.int 2, .int e] = .ret (.int (2 ^ e)) [.int 2, .int e] := power_ok _ n hn 2 e (by decide) he (.inl rfl)
theorem lpower_ok (n : Nat) (hn : 1 ≤ n) (b : Int) (e : Nat) (h1 : 0 ≤ b) (h2 : b ≤ 5000000) (he : e ≤ 100000) : callF P Y n "_law_power" [.int b, .int e] = .ret (.int (b ^ e)) [.int b, .int e] := power_ok _ n hn b e (small_of (by omega) (by omega)) he (.inr rfl)
/-- weights as they are told -/
def WOk (w : List Int) : Prop := w ≠ [] ∧ ∀ x ∈ w, 0 < x
theorem checked_ok (n : Nat) (hn : 1 ≤ n) (s : List D → D) (hs : Sq s) (w : List Int) (hl : w.length ≤ 1000) (hw : WOk w) : callF P Y n "_checked" [s (w.map .int)] = .ret (.tup (w.map .int)) [s (w.map .int)] := by
  obtain ⟨n, rfl, hm⟩ := ex_succ hn
  rw [c__checked]
  rcases hs with rfl | rfl
  all_goals
    refine WR.eq (fn_at [.va _, .un, .un] rfl ?_)
    dsimp only [f1]
    repeat fail
    refine orF (nem hw.1) ?_
    repeat fail
    refine lc_all rfl _ rfl .bl (fun v : Int => decide (0 < v)) (le_SZ (by omega)) (fun x hx => ⟨_, rfl, rfl, ?_⟩) ?_
    · repeat fail
      rfl
    repeat fail
    refine ifF (by rw [List.all_eq_true.mpr (fun x m => decide_eq_true (hw.2 x m))]; rfl) ?_
    repeat fail
    rfl
theorem checked_bad (n : Nat) (hn : 1 ≤ n) (s : List D → D) (hs : Sq s) (w : List Int) (hl : w.length ≤ 1000) (hw : ¬ WOk w) : callF P Y n "_checked" [s (w.map .int)] = .exc ⟨"BadRow", .str "weights"⟩ [s (w.map .int)] := by
  obtain ⟨n, rfl, hm⟩ := ex_succ hn
  rw [c__checked]
  rcases hs with rfl | rfl
  all_goals
    refine WR.eqx (fn_at [.va _, .un, .un] rfl ?_)
    dsimp only [f1]
    repeat fail
    by_cases h0 : w = []
    · subst h0
      refine orT rfl (ifT rfl ?_)
      repeat fail
      rfl
    refine orF (nem h0) ?_
    repeat fail
    refine lc_all rfl _ rfl .bl (fun v : Int => decide (0 < v)) (le_SZ (by omega)) (fun x hx => ⟨_, rfl, rfl, ?_⟩) ?_
    · repeat fail
      rfl
    repeat fail
    refine ifT ?_ ?_
    · have : w.all (fun v => decide (0 < v)) = false := by
        rw [List.all_eq_false]
        refine Classical.byContradiction fun h => hw ⟨h0, fun x m => ?_⟩
        have := mt (fun z => (⟨x, m, by simpa using z⟩ : ∃ x ∈ w, ¬ decide (0 < x) = true)) h
        simpa using this
      rw [this]; rfl
    repeat fail
    rfl
end Pk30

set_option linter.all false
set_option maxRecDepth 100000
set_option maxHeartbeats 0
namespace Pk30
open CW
-- step<
local macro_rules | `(tactic| fail "o") => `(tactic| first
  | ((with_reducible refine le_SZ ?_); first | exact Nat.le_of_ble_eq_true rfl | omega | (simp only [List.length_map, List.length_cons, List.length_nil, List.length_append, List.length_range, List.length_take, List.length_drop, List.length_dropLast, List.length_reverse] at *; omega))
  | ((with_reducible refine lt_SZ ?_); first | exact Nat.le_of_ble_eq_true rfl | omega | (simp only [List.length_map, List.length_cons, List.length_nil, List.length_append, List.length_range, List.length_take, List.length_drop, List.length_dropLast, List.length_reverse] at *; omega)))
local macro_rules | `(tactic| fail "s") => `(tactic| first
  | with_reducible exact s_add
  | with_reducible exact s_sub
  | with_reducible exact s_lt
  | with_reducible exact s_le
  | with_reducible exact s_gt
  | with_reducible exact s_ge
  | with_reducible exact s_eq
  | with_reducible exact s_ne
  | ((with_reducible apply s_mod); omega)
  | ((with_reducible apply s_div); omega; omega)
  | ((with_reducible apply s_mulR); first | exact small_of (by omega) (by omega) | exact small_of (by decide) (by decide))
  | ((with_reducible apply s_mulL); exact small_of (by omega) (by omega))
  | with_reducible exact s_eqs
  | with_reducible exact s_nes
  | with_reducible exact s_eqb
  | with_reducible exact s_neb
  | with_reducible exact s_isb
  | with_reducible exact s_nisb
  | with_reducible exact s_inI
  | with_reducible exact s_nin2
  | with_reducible exact s_in2
  | with_reducible exact s_b2i
  | with_reducible exact s_i2i
  | with_reducible exact s_max2
  | with_reducible exact s_min2
  | with_reducible exact s_lenm
  | with_reducible exact s_lenTm
  | with_reducible exact s_len
  | with_reducible exact s_lenT
  | with_reducible exact s_sumI
  | with_reducible exact s_sumT
  | with_reducible exact s_all
  | with_reducible exact s_any
  | with_reducible exact s_eqN
  | with_reducible exact s_neN
  | with_reducible exact s_eqL
  | with_reducible exact s_neL
  | with_reducible exact s_eqU
  | with_reducible exact s_neU
  | ((with_reducible apply s_band); omega; omega)
  | ((with_reducible apply s_bxor); omega; omega)
  | ((with_reducible apply s_ixm); omega; omega)
  | ((with_reducible apply s_ixTm); omega; omega)
  | ((with_reducible apply s_catm); fail "o")
  | ((with_reducible apply s_catU); fail "o")
  | ((with_reducible apply s_cat1); fail "o")
  | ((with_reducible apply s_catU1); fail "o")
  | ((with_reducible apply s_cat2); fail "o")
  | ((with_reducible apply s_catU2); fail "o")
  | ((with_reducible apply s_catm'); fail "o")
  | ((with_reducible apply s_cat1'); fail "o")
  | ((with_reducible apply s_cat); fail "o")
  | ((with_reducible apply s_catT); fail "o")
  | ((with_reducible apply s_cat'); fail "o")
  | ((with_reducible apply s_rep); omega; omega; fail "o")
  | ((with_reducible apply s_repT); (intro h; cases h); omega; omega; exact Nat.le_of_ble_eq_true rfl)
  | exact s_ix (by decide) rfl
  | exact s_ixT (by decide) rfl
  | rfl
  | ((with_reducible apply s_lenS); assumption)
  | ((with_reducible apply s_sumS); assumption)
  | ((with_reducible apply s_listS); assumption)
  | ((with_reducible apply s_tupleS); assumption)
  | ((with_reducible apply s_ixS); assumption; omega; omega)
  | ((with_reducible apply s_catS); assumption; fail "o"))
local macro_rules | `(tactic| fail) => `(tactic| first
  | ((with_reducible refine kE ?_); first
    | ((with_reducible refine gVar ?_); refine w_var rfl ?_) | with_reducible refine w_op2 ?_ | with_reducible refine w_int ?_ | with_reducible refine w_op1 ?_ | with_reducible refine w_cst ?_ | with_reducible refine w_call ?_ | with_reducible refine w_str ?_ | with_reducible refine w_cons ?_ | with_reducible refine w_fld ?_ | with_reducible refine w_tup ?_ | with_reducible refine w_bl ?_ | with_reducible refine w_non ?_ | with_reducible refine w_bop ?_ | with_reducible refine w_b1 ?_ | with_reducible refine w_b2 ?_ | with_reducible refine w_ite ?_ | with_reducible refine w_lst ?_ | with_reducible refine w_nil ?_ | with_reducible refine w_chain ?_ | with_reducible refine w_meth ?_ | with_reducible refine w_sl ?_ | with_reducible refine w_onone ?_ | with_reducible refine w_osome ?_ | with_reducible refine w_isi ?_ | with_reducible refine w_make ?_ | with_reducible refine w_lrng ?_ | with_reducible refine w_eqo ?_ | with_reducible refine w_lm ?_ | with_reducible refine w_lc ?_ | ((with_reducible refine gFrz ?_); (first | refine w_frz rfl ?_ | refine w_frzv rfl ?_)) | ((with_reducible refine gPop ?_); refine w_pop rfl ?_) | ((with_reducible refine gPopAt ?_); refine w_popAt rfl ?_) | ((with_reducible refine gMethR ?_); refine w_methR rfl rfl ?_))
  | ((with_reducible refine kP ?_); first
    | ((with_reducible refine gPk ?_); refine pk_var rfl ?_) | with_reducible refine pk_e ?_)
  | ((with_reducible refine kC ?_); first
    | ((with_reducible refine And.intro ?_ ?_); (first | with_reducible rfl | ((with_reducible refine q_okR ?_ ?_ ?_ ?_); omega; omega; omega; omega) | fail "o" | ((with_reducible refine eqG ?_); rfl))) | ((with_reducible refine ifT ?_ ?_); (first | with_reducible rfl | with_reducible exact bnt | exact decide_eq_true (by omega) | exact ndT (by omega) | exact decide_eq_true (by decide))) | ((with_reducible refine anT ?_ ?_); (first | with_reducible rfl | with_reducible exact bnt | exact decide_eq_true (by omega) | exact ndT (by omega) | exact decide_eq_true (by decide))) | ((with_reducible refine orT ?_ ?_); (first | with_reducible rfl | with_reducible exact bnt | exact decide_eq_true (by omega) | exact ndT (by omega) | exact decide_eq_true (by decide))) | ((with_reducible refine ifF ?_ ?_); (first | with_reducible rfl | with_reducible exact bnf | exact decide_eq_false (by omega) | exact ndF (by omega) | exact decide_eq_false (by decide))) | ((with_reducible refine anF ?_ ?_); (first | with_reducible rfl | with_reducible exact bnf | exact decide_eq_false (by omega) | exact ndF (by omega) | exact decide_eq_false (by decide))) | ((with_reducible refine orF ?_ ?_); (first | with_reducible rfl | with_reducible exact bnf | exact decide_eq_false (by omega) | exact ndF (by omega) | exact decide_eq_false (by decide))))
  | ((with_reducible refine kX ?_); first
    | ((with_reducible apply ex2); rfl; rfl; fail "s") | ((with_reducible apply ex1); rfl; fail "s") | ((with_reducible apply ex2b); rfl; rfl; fail "s") | ((with_reducible apply exF); rfl; rfl; rfl) | ((with_reducible apply exA); rfl; rfl) | ((with_reducible apply exR); rfl) | ((with_reducible apply exR); exact seqOf_S (by assumption)) | ((with_reducible apply exN); rfl; rfl) | ((with_reducible apply exT); rfl; rfl) | ((with_reducible apply exI); rfl; rfl) | ((with_reducible apply exRR); rfl; rfl) | ((with_reducible apply exX); rfl; rfl; (first | ((with_reducible apply setL_map); omega; omega) | rfl)) | ((with_reducible apply exS); rfl; (first | ((with_reducible apply sl_from); omega) | ((with_reducible apply sl_to); omega) | ((with_reducible apply sl_mid); omega; omega) | with_reducible exact sl_last | ((with_reducible apply sl_fromL); omega) | ((with_reducible apply sl_toL); omega) | ((with_reducible apply sl_midL); omega; omega) | with_reducible exact sl_lastL | ((with_reducible apply sl_fromS); assumption; omega) | ((with_reducible apply sl_toS); assumption; omega) | ((with_reducible apply sl_midS); assumption; omega; omega) | rfl)) | ((with_reducible apply exM); rfl; rfl) | ((with_reducible apply exMo); rfl; rfl) | ((with_reducible apply exSF); rfl; rfl; exact Nat.le_of_ble_eq_true rfl; rfl) | ((with_reducible apply exP); rfl; fail "o"))
  | with_reducible refine s_cons ?_
  | ((with_reducible refine kS ?_); first
    | with_reducible refine s_set ?_ | with_reducible refine s_ifs ?_ | with_reducible refine s_ret ?_ | with_reducible refine s_setN ?_ | with_reducible refine s_for ?_ | with_reducible refine s_exp ?_ | with_reducible refine s_unp ?_ | with_reducible refine s_rse ?_ | with_reducible refine s_par ?_ | with_reducible refine s_setix ?_ | with_reducible refine s_swap ?_ | with_reducible refine s_setf ?_ | with_reducible refine s_ret0 ?_ | with_reducible refine s_pass ?_ | with_reducible refine s_brk ?_ | with_reducible refine s_cnt ?_ | ((with_reducible refine gApp ?_); refine s_app rfl ?_) | ((with_reducible refine gExt ?_); refine s_ext rfl ?_) | ((with_reducible refine gIns0 ?_); refine s_ins0 rfl ?_) | ((with_reducible refine gRvs ?_); refine s_rvs rfl ?_) | ((with_reducible refine gRetNv ?_); refine s_retNv rfl ?_) | ((with_reducible refine gRetN ?_); refine s_retN (by intro i e; cases e) ?_))
  | with_reducible refine s_nil ?_
  | ((with_reducible refine kT ?_); first
    | with_reducible refine t_cmp ?_ | with_reducible refine t_bop ?_ | with_reducible refine t_not ?_ | with_reducible refine t_tr ?_ | with_reducible refine t_chain ?_ | with_reducible refine t_cmpN ?_ | with_reducible refine t_eqo ?_)
  | ((with_reducible refine kH ?_); first
    | ((with_reducible refine h_hit ?_ ?_); rfl) | ((with_reducible refine h_miss ?_ ?_); rfl))
  | with_reducible refine s_try ?_
  | with_reducible refine w_cons ?_
  | with_reducible refine w_nil ?_
  | with_reducible refine t_one ?_
  | with_reducible refine t_cons ?_
  | with_reducible refine t_nil ?_
  | with_reducible refine w_b1 ?_
  | with_reducible refine w_b2 ?_
  | with_reducible refine w_onone ?_
  | with_reducible refine w_osome ?_
  | with_reducible refine wa_v ?_
  | with_reducible refine wa_nil ?_
  | ((with_reducible refine gAr ?_); refine wa_r rfl ?_)
  | ((with_reducible refine gAt ?_); refine wa_t (by intro i e; cases e) ?_)
  | ((with_reducible refine kI ?_); first
    | with_reducible refine i_seqL ?_ | with_reducible refine i_enum ?_ | with_reducible refine i_zip ?_ | with_reducible refine i_rev ?_ | with_reducible refine i_rng3 ?_ | with_reducible refine j_rng1 ?_ | with_reducible refine j_rng2 ?_ | ((with_reducible refine gLive ?_); (first | refine i_liveV rfl rfl ?_ | refine i_liveO rfl ?_))))
local macro_rules | `(tactic| fail "d") => `(tactic| first
  | fail | with_reducible refine ifD (fun h => ?_) (fun h => ?_) | with_reducible refine ifN (fun h => ?_) (fun h => ?_) | with_reducible refine anD (fun h => ?_) (fun h => ?_) | with_reducible refine anN (fun h => ?_) (fun h => ?_) | with_reducible refine orD (fun h => ?_) (fun h => ?_) | with_reducible refine orN (fun h => ?_) (fun h => ?_))
-- >step
theorem Wts.wok {w : List Int} (h : Wts w) : WOk w := ⟨h.ne, fun x m => (h.pos x m).1⟩
def ltrB (w : List Int) (v : Int) : Bool := decide (0 ≤ v) && decide (v < w.length)
theorem ltr_all {w t : List Int} (h : Ltr w t) : t.all (ltrB w) = true := List.all_eq_true.mpr fun x m => by
  have := h x m
  unfold ltrB; simp; omega
theorem ltr_not {w t : List Int} (h : ¬ Ltr w t) : t.all (ltrB w) = false := by
  cases z : t.all (ltrB w) with
  | false => rfl
  | true =>
    refine absurd (fun x m => ?_) h
    have := List.all_eq_true.mp z x m
    unfold ltrB at this
    simpa using this
theorem part_ok (n : Nat) (hn : 2 ≤ n) (s1 s2 : List D → D) (h1 : Sq s1) (h2 : Sq s2) (w t : List Int) (hw : Wts w) (ht : Ltr w t) (hl : t.length ≤ 200) :
    callF P Y n "part_of" [s1 (w.map .int), s2 (t.map .int)] = .ret (.tup [.int (prt w t).1, .int (prt w t).2, .int (w.sum ^ t.length)]) [s1 (w.map .int), s2 (t.map .int)] := by
  obtain ⟨n, rfl, hm⟩ := ex_succ hn
  rw [c_part_of]
  have hwl := hw.len
  have hsum := hw.sum
  refine WR.eq (fn_at [.va _, .va _, .un, .un, .un, .un, .un] rfl ?_)
  dsimp only [f2]
  repeat fail
  refine WR.ret (checked_ok n (by omega) s1 h1 w (by omega) hw.wok) ?_
  repeat fail
  refine lc_all rfl _ rfl .bl (ltrB w) (le_SZ (by omega)) (fun x hx => ⟨_, rfl, rfl, ?_⟩) ?_
  · repeat fail
    refine ⟨fun h => ?_, fun h => ?_⟩
    · repeat fail
      unfold ltrB
      rw [h]
      exact ⟨rfl, rfl⟩
    · unfold ltrB
      rw [h]
      exact ⟨rfl, rfl⟩
  repeat fail
  refine ifF (by rw [ltr_all ht]; rfl) ?_
  repeat fail
  refine fl_pre rfl (fun pr r => ∃ t0, r = [.va (.tup (w.map .int)), .va (s2 (t.map .int)), .va (.int w.sum), .va (.int (prt w pr).1), .va (.int (prt w pr).2), .va (.int (w.sum ^ pr.length)), t0] ∧ free t0 = true) ⟨.un, by rw [List.length_nil, Int.pow_zero]; rfl, rfl⟩ ?_ ?_
  · rintro pr a post r e ⟨t0, rfl, ht0⟩
    refine ⟨[.va (.tup (w.map .int)), .va (s2 (t.map .int)), .va (.int w.sum), .va (.int (prt w pr).1), .va (.int (prt w pr).2), .va (.int (w.sum ^ pr.length)), .va (.int a)], by simp [setTg, CW.get, ht0, put], ?_⟩
    obtain ⟨a1, a2⟩ := ht a (by rw [e]; simp)
    have q1 : 0 ≤ (w.take a.toNat).sum := pre_nonneg hw a1 (by omega)
    have q2 : (w.take a.toNat).sum ≤ w.sum := pre_top hw a1 (by omega)
    have q3 := hw.at a1 a2
    repeat fail
    refine ⟨.va (.int a), ?_, rfl⟩
    rw [prt_snoc, List.length_append, List.length_singleton, Int.pow_succ]
    rfl
  · rintro r ⟨t0, rfl, ht0⟩
    repeat fail
    rfl
theorem part_badW (n : Nat) (hn : 2 ≤ n) (s1 : List D → D) (h1 : Sq s1) (w : List Int) (d : D) (hw : ¬ WOk w) (hl : w.length ≤ 1000) :
    callF P Y n "part_of" [s1 (w.map .int), d] = .exc ⟨"BadRow", .str "weights"⟩ [s1 (w.map .int), d] := by
  obtain ⟨n, rfl, hm⟩ := ex_succ hn
  rw [c_part_of]
  refine WR.eqx (fn_at [.va _, .va _, .un, .un, .un, .un, .un] rfl ?_)
  dsimp only [f2]
  repeat fail
  refine WR.exc (checked_bad n (by omega) s1 h1 w (by omega) hw) ?_
  repeat fail
  rfl
theorem part_long (n : Nat) (hn : 2 ≤ n) (s1 s2 : List D → D) (h1 : Sq s1) (h2 : Sq s2) (w t : List Int) (hw : Wts w) (hl : 200 < t.length) (hl2 : t.length ≤ 1000) :
    callF P Y n "part_of" [s1 (w.map .int), s2 (t.map .int)] = .exc ⟨"TooLarge", .str "text"⟩ [s1 (w.map .int), s2 (t.map .int)] := by
  obtain ⟨n, rfl, hm⟩ := ex_succ hn
  rw [c_part_of]
  have hwl := hw.len
  refine WR.eqx (fn_at [.va _, .va _, .un, .un, .un, .un, .un] rfl ?_)
  dsimp only [f2]
  repeat fail
  refine WR.ret (checked_ok n (by omega) s1 h1 w (by omega) hw.wok) ?_
  repeat fail
  rfl
theorem part_badL (n : Nat) (hn : 2 ≤ n) (s1 s2 : List D → D) (h1 : Sq s1) (h2 : Sq s2) (w t : List Int) (hw : Wts w) (ht : ¬ Ltr w t) (hl : t.length ≤ 200) :
    callF P Y n "part_of" [s1 (w.map .int), s2 (t.map .int)] = .exc ⟨"BadRow", .str "letter"⟩ [s1 (w.map .int), s2 (t.map .int)] := by
  obtain ⟨n, rfl, hm⟩ := ex_succ hn
  rw [c_part_of]
  have hwl := hw.len
  refine WR.eqx (fn_at [.va _, .va _, .un, .un, .un, .un, .un] rfl ?_)
  dsimp only [f2]
  repeat fail
  refine WR.ret (checked_ok n (by omega) s1 h1 w (by omega) hw.wok) ?_
  repeat fail
  refine lc_all rfl _ rfl .bl (ltrB w) (le_SZ (by omega)) (fun x hx => ⟨_, rfl, rfl, ?_⟩) ?_
  · repeat fail
    refine ⟨fun h => ?_, fun h => ?_⟩
    · repeat fail
      unfold ltrB
      rw [h]
      exact ⟨rfl, rfl⟩
    · unfold ltrB
      rw [h]
      exact ⟨rfl, rfl⟩
  repeat fail
  refine ifT (by rw [ltr_not ht]; rfl) ?_
  repeat fail
  rfl
theorem lpart_ok (n : Nat) (hn : 2 ≤ n) (s1 s2 : List D → D) (h1 : Sq s1) (h2 : Sq s2) (w t : List Int) (hw : Wts w) (ht : Ltr w t) (hl : t.length ≤ 200) :
    callF P Y n "_law_part" [s1 (w.map .int), s2 (t.map .int)] = .ret (.tup [.int (prt w t).1, .int (prt w t).2, .int (w.sum ^ t.length)]) [s1 (w.map .int), s2 (t.map .int)] := by
  obtain ⟨n, rfl, hm⟩ := ex_succ hn
  rw [c__law_part]
  have hwl := hw.len
  have hsum := hw.sum
  refine WR.eq (fn_at [.va _, .va _, .un, .un, .un, .un] rfl ?_)
  dsimp only [f14]
  repeat fail
  refine fl_pre rfl (fun pr r => ∃ t0, r = [.va (s1 (w.map .int)), .va (s2 (t.map .int)), .va (.int w.sum), .va (.int (prt w pr).1), .va (.int (prt w pr).2), t0] ∧ free t0 = true) ⟨.un, rfl, rfl⟩ ?_ ?_
  · rintro pr a post r e ⟨t0, rfl, ht0⟩
    refine ⟨[.va (s1 (w.map .int)), .va (s2 (t.map .int)), .va (.int w.sum), .va (.int (prt w pr).1), .va (.int (prt w pr).2), .va (.int a)], by simp [setTg, CW.get, ht0, put], ?_⟩
    obtain ⟨a1, a2⟩ := ht a (by rw [e]; simp)
    have q1 : 0 ≤ (w.take a.toNat).sum := pre_nonneg hw a1 (by omega)
    have q2 : (w.take a.toNat).sum ≤ w.sum := pre_top hw a1 (by omega)
    have q3 := hw.at a1 a2
    repeat fail
    refine ⟨.va (.int a), ?_, rfl⟩
    rw [prt_snoc]
    rfl
  · rintro r ⟨t0, rfl, ht0⟩
    repeat fail
    refine WR.ret (lpower_ok n (by omega) w.sum t.length (by omega) (by omega) (by omega)) ?_
    repeat fail
    rfl
end Pk30

set_option linter.all false
set_option maxRecDepth 100000
set_option maxHeartbeats 0
namespace Pk30
open CW
-- step<
local macro_rules | `(tactic| fail "o") => `(tactic| first
  | ((with_reducible refine le_SZ ?_); first | exact Nat.le_of_ble_eq_true rfl | omega | (simp only [List.length_map, List.length_cons, List.length_nil, List.length_append, List.length_range, List.length_take, List.length_drop, List.length_dropLast, List.length_reverse] at *; omega))
  | ((with_reducible refine lt_SZ ?_); first | exact Nat.le_of_ble_eq_true rfl | omega | (simp only [List.length_map, List.length_cons, List.length_nil, List.length_append, List.length_range, List.length_take, List.length_drop, List.length_dropLast, List.length_reverse] at *; omega)))
local macro_rules | `(tactic| fail "s") => `(tactic| first
  | with_reducible exact s_add
  | with_reducible exact s_sub
  | with_reducible exact s_lt
  | with_reducible exact s_le
  | with_reducible exact s_gt
  | with_reducible exact s_ge
  | with_reducible exact s_eq
  | with_reducible exact s_ne
  | ((with_reducible apply s_mod); omega)
  | ((with_reducible apply s_div); omega; omega)
  | ((with_reducible apply s_mulR); first | exact small_of (by omega) (by omega) | exact small_of (by decide) (by decide))
  | ((with_reducible apply s_mulL); exact small_of (by omega) (by omega))
  | with_reducible exact s_eqs
  | with_reducible exact s_nes
  | with_reducible exact s_eqb
  | with_reducible exact s_neb
  | with_reducible exact s_isb
  | with_reducible exact s_nisb
  | with_reducible exact s_inI
  | with_reducible exact s_nin2
  | with_reducible exact s_in2
  | with_reducible exact s_b2i
  | with_reducible exact s_i2i
  | with_reducible exact s_max2
  | with_reducible exact s_min2
  | with_reducible exact s_lenm
  | with_reducible exact s_lenTm
  | with_reducible exact s_len
  | with_reducible exact s_lenT
  | with_reducible exact s_sumI
  | with_reducible exact s_sumT
  | with_reducible exact s_all
  | with_reducible exact s_any
  | with_reducible exact s_eqN
  | with_reducible exact s_neN
  | with_reducible exact s_eqL
  | with_reducible exact s_neL
  | with_reducible exact s_eqU
  | with_reducible exact s_neU
  | ((with_reducible apply s_band); omega; omega)
  | ((with_reducible apply s_bxor); omega; omega)
  | ((with_reducible apply s_ixm); omega; omega)
  | ((with_reducible apply s_ixTm); omega; omega)
  | ((with_reducible apply s_catm); fail "o")
  | ((with_reducible apply s_catU); fail "o")
  | ((with_reducible apply s_cat1); fail "o")
  | ((with_reducible apply s_catU1); fail "o")
  | ((with_reducible apply s_cat2); fail "o")
  | ((with_reducible apply s_catU2); fail "o")
  | ((with_reducible apply s_catm'); fail "o")
  | ((with_reducible apply s_cat1'); fail "o")
  | ((with_reducible apply s_cat); fail "o")
  | ((with_reducible apply s_catT); fail "o")
  | ((with_reducible apply s_cat'); fail "o")
  | ((with_reducible apply s_rep); omega; omega; fail "o")
  | ((with_reducible apply s_repT); (intro h; cases h); omega; omega; exact Nat.le_of_ble_eq_true rfl)
  | exact s_ix (by decide) rfl
  | exact s_ixT (by decide) rfl
  | rfl
  | ((with_reducible apply s_lenS); assumption)
  | ((with_reducible apply s_sumS); assumption)
  | ((with_reducible apply s_listS); assumption)
  | ((with_reducible apply s_tupleS); assumption)
  | ((with_reducible apply s_ixS); assumption; omega; omega)
  | ((with_reducible apply s_catS); assumption; fail "o"))
local macro_rules | `(tactic| fail) => `(tactic| first
  | ((with_reducible refine kE ?_); first
    | ((with_reducible refine gVar ?_); refine w_var rfl ?_) | with_reducible refine w_op2 ?_ | with_reducible refine w_int ?_ | with_reducible refine w_op1 ?_ | with_reducible refine w_cst ?_ | with_reducible refine w_call ?_ | with_reducible refine w_str ?_ | with_reducible refine w_cons ?_ | with_reducible refine w_fld ?_ | with_reducible refine w_tup ?_ | with_reducible refine w_bl ?_ | with_reducible refine w_non ?_ | with_reducible refine w_bop ?_ | with_reducible refine w_b1 ?_ | with_reducible refine w_b2 ?_ | with_reducible refine w_ite ?_ | with_reducible refine w_lst ?_ | with_reducible refine w_nil ?_ | with_reducible refine w_chain ?_ | with_reducible refine w_meth ?_ | with_reducible refine w_sl ?_ | with_reducible refine w_onone ?_ | with_reducible refine w_osome ?_ | with_reducible refine w_isi ?_ | with_reducible refine w_make ?_ | with_reducible refine w_lrng ?_ | with_reducible refine w_eqo ?_ | with_reducible refine w_lm ?_ | with_reducible refine w_lc ?_ | ((with_reducible refine gFrz ?_); (first | refine w_frz rfl ?_ | refine w_frzv rfl ?_)) | ((with_reducible refine gPop ?_); refine w_pop rfl ?_) | ((with_reducible refine gPopAt ?_); refine w_popAt rfl ?_) | ((with_reducible refine gMethR ?_); refine w_methR rfl rfl ?_))
  | ((with_reducible refine kP ?_); first
    | ((with_reducible refine gPk ?_); refine pk_var rfl ?_) | with_reducible refine pk_e ?_)
  | ((with_reducible refine kC ?_); first
    | ((with_reducible refine And.intro ?_ ?_); (first | with_reducible rfl | ((with_reducible refine q_okR ?_ ?_ ?_ ?_); omega; omega; omega; omega) | fail "o" | ((with_reducible refine eqG ?_); rfl))) | ((with_reducible refine ifT ?_ ?_); (first | with_reducible rfl | with_reducible exact bnt | exact decide_eq_true (by omega) | exact ndT (by omega) | exact decide_eq_true (by decide))) | ((with_reducible refine anT ?_ ?_); (first | with_reducible rfl | with_reducible exact bnt | exact decide_eq_true (by omega) | exact ndT (by omega) | exact decide_eq_true (by decide))) | ((with_reducible refine orT ?_ ?_); (first | with_reducible rfl | with_reducible exact bnt | exact decide_eq_true (by omega) | exact ndT (by omega) | exact decide_eq_true (by decide))) | ((with_reducible refine ifF ?_ ?_); (first | with_reducible rfl | with_reducible exact bnf | exact decide_eq_false (by omega) | exact ndF (by omega) | exact decide_eq_false (by decide))) | ((with_reducible refine anF ?_ ?_); (first | with_reducible rfl | with_reducible exact bnf | exact decide_eq_false (by omega) | exact ndF (by omega) | exact decide_eq_false (by decide))) | ((with_reducible refine orF ?_ ?_); (first | with_reducible rfl | with_reducible exact bnf | exact decide_eq_false (by omega) | exact ndF (by omega) | exact decide_eq_false (by decide))))
  | ((with_reducible refine kX ?_); first
    | ((with_reducible apply ex2); rfl; rfl; fail "s") | ((with_reducible apply ex1); rfl; fail "s") | ((with_reducible apply ex2b); rfl; rfl; fail "s") | ((with_reducible apply exF); rfl; rfl; rfl) | ((with_reducible apply exA); rfl; rfl) | ((with_reducible apply exR); rfl) | ((with_reducible apply exR); exact seqOf_S (by assumption)) | ((with_reducible apply exN); rfl; rfl) | ((with_reducible apply exT); rfl; rfl) | ((with_reducible apply exI); rfl; rfl) | ((with_reducible apply exRR); rfl; rfl) | ((with_reducible apply exX); rfl; rfl; (first | ((with_reducible apply setL_map); omega; omega) | rfl)) | ((with_reducible apply exS); rfl; (first | ((with_reducible apply sl_from); omega) | ((with_reducible apply sl_to); omega) | ((with_reducible apply sl_mid); omega; omega) | with_reducible exact sl_last | ((with_reducible apply sl_fromL); omega) | ((with_reducible apply sl_toL); omega) | ((with_reducible apply sl_midL); omega; omega) | with_reducible exact sl_lastL | ((with_reducible apply sl_fromS); assumption; omega) | ((with_reducible apply sl_toS); assumption; omega) | ((with_reducible apply sl_midS); assumption; omega; omega) | rfl)) | ((with_reducible apply exM); rfl; rfl) | ((with_reducible apply exMo); rfl; rfl) | ((with_reducible apply exSF); rfl; rfl; exact Nat.le_of_ble_eq_true rfl; rfl) | ((with_reducible apply exP); rfl; fail "o"))
  | with_reducible refine s_cons ?_
  | ((with_reducible refine kS ?_); first
    | with_reducible refine s_set ?_ | with_reducible refine s_ifs ?_ | with_reducible refine s_ret ?_ | with_reducible refine s_setN ?_ | with_reducible refine s_for ?_ | with_reducible refine s_exp ?_ | with_reducible refine s_unp ?_ | with_reducible refine s_rse ?_ | with_reducible refine s_par ?_ | with_reducible refine s_setix ?_ | with_reducible refine s_swap ?_ | with_reducible refine s_setf ?_ | with_reducible refine s_ret0 ?_ | with_reducible refine s_pass ?_ | with_reducible refine s_brk ?_ | with_reducible refine s_cnt ?_ | ((with_reducible refine gApp ?_); refine s_app rfl ?_) | ((with_reducible refine gExt ?_); refine s_ext rfl ?_) | ((with_reducible refine gIns0 ?_); refine s_ins0 rfl ?_) | ((with_reducible refine gRvs ?_); refine s_rvs rfl ?_) | ((with_reducible refine gRetNv ?_); refine s_retNv rfl ?_) | ((with_reducible refine gRetN ?_); refine s_retN (by intro i e; cases e) ?_))
  | with_reducible refine s_nil ?_
  | ((with_reducible refine kT ?_); first
    | with_reducible refine t_cmp ?_ | with_reducible refine t_bop ?_ | with_reducible refine t_not ?_ | with_reducible refine t_tr ?_ | with_reducible refine t_chain ?_ | with_reducible refine t_cmpN ?_ | with_reducible refine t_eqo ?_)
  | ((with_reducible refine kH ?_); first
    | ((with_reducible refine h_hit ?_ ?_); rfl) | ((with_reducible refine h_miss ?_ ?_); rfl))
  | with_reducible refine s_try ?_
  | with_reducible refine w_cons ?_
  | with_reducible refine w_nil ?_
  | with_reducible refine t_one ?_
  | with_reducible refine t_cons ?_
  | with_reducible refine t_nil ?_
  | with_reducible refine w_b1 ?_
  | with_reducible refine w_b2 ?_
  | with_reducible refine w_onone ?_
  | with_reducible refine w_osome ?_
  | with_reducible refine wa_v ?_
  | with_reducible refine wa_nil ?_
  | ((with_reducible refine gAr ?_); refine wa_r rfl ?_)
  | ((with_reducible refine gAt ?_); refine wa_t (by intro i e; cases e) ?_)
  | ((with_reducible refine kI ?_); first
    | with_reducible refine i_seqL ?_ | with_reducible refine i_enum ?_ | with_reducible refine i_zip ?_ | with_reducible refine i_rev ?_ | with_reducible refine i_rng3 ?_ | with_reducible refine j_rng1 ?_ | with_reducible refine j_rng2 ?_ | ((with_reducible refine gLive ?_); (first | refine i_liveV rfl rfl ?_ | refine i_liveO rfl ?_))))
local macro_rules | `(tactic| fail "d") => `(tactic| first
  | fail | with_reducible refine ifD (fun h => ?_) (fun h => ?_) | with_reducible refine ifN (fun h => ?_) (fun h => ?_) | with_reducible refine anD (fun h => ?_) (fun h => ?_) | with_reducible refine anN (fun h => ?_) (fun h => ?_) | with_reducible refine orD (fun h => ?_) (fun h => ?_) | with_reducible refine orN (fun h => ?_) (fun h => ?_))
-- >step
theorem p5000 {L : Nat} (h : L ≤ 5000) : (1 : Int) ≤ 2 ^ L ∧ (2 : Int) ^ L ≤ 2 ^ 5000 := ⟨pow_pos' (by omega) L, pow_le_right (by omega) h⟩
theorem lgm {i j : Int} {a b : Nat} (h0 : 0 ≤ i) (h1 : i < 2 ^ a) (ha : 0 < a) (h2 : 0 ≤ j) (h3 : j < 2 ^ b) (hb : 0 < b) (hab : a + b ≤ 900000) : i.natAbs.log2 + j.natAbs.log2 < 1000000 := by
  have := lg h0 h1 ha
  have := lg h2 h3 hb
  omega
theorem lt_pow {i : Int} {a b : Nat} (h : i < 2 ^ a) (hab : a ≤ b) : i < 2 ^ b := Int.lt_of_lt_of_le h (pow_le_right (by omega) hab)
/-- the numbers of a part, all of them bounded -/
structure Pt (lo sz wh : Int) : Prop where
  lo0 : 0 ≤ lo
  sz1 : 1 ≤ sz
  le : lo + sz ≤ wh
  wh : wh < 2 ^ 4601
theorem pt_of {w t : List Int} (hw : Wts w) (ht : Ltr w t) (hl : t.length ≤ 200) : Pt (prt w t).1 (prt w t).2 (w.sum ^ t.length) := by
  obtain ⟨h1, h2, h3⟩ := prt_bd hw t ht
  exact ⟨h1, h2, h3, whole_lt hw.sum.1 hw.sum.2 hl⟩
theorem fst_rng {lo sz wh : Int} (h : Pt lo sz wh) (L : Nat) : 0 ≤ fst lo wh L ∧ fst lo wh L ≤ 2 ^ L := by
  have h1 := h.lo0
  have h2 := h.sz1
  have h3 := h.le
  have hp : 1 ≤ (2 : Int) ^ L := pow_pos' (by omega) L
  have m0 := Int.mul_nonneg h1 (b := 2 ^ L) (by omega)
  obtain ⟨b1, b2⟩ := fst_bd (lo := lo) (wh := wh) (by omega) L
  refine ⟨Int.ediv_nonneg (by omega) (by omega), ?_⟩
  have : lo * 2 ^ L ≤ (wh - 1) * 2 ^ L := Int.mul_le_mul_of_nonneg_right (by omega) (by omega)
  have e : fst lo wh L * wh < (2 ^ L + 1) * wh := by
    have : (wh - 1) * 2 ^ L ≤ wh * 2 ^ L := Int.mul_le_mul_of_nonneg_right (by omega) (by omega)
    grind
  have := Int.lt_of_mul_lt_mul_right e (by omega)
  omega
theorem lo_mul {lo sz wh : Int} (h : Pt lo sz wh) {L : Nat} (hL : L ≤ 5000) : lo.natAbs.log2 + ((2 : Int) ^ L).natAbs.log2 < 1000000 := by
  have h1 := h.lo0
  have h2 := h.sz1
  have h3 := h.le
  have h4 := h.wh
  have hp := p5000 hL
  have h5 : (2 : Int) ^ 5000 < 2 ^ 5001 := by decide +kernel
  exact lgm (a := 4601) (b := 5001) (by omega) (by omega) (by omega) (by omega) (by omega) (by omega) (by omega)
theorem f_mul {lo sz wh : Int} (h : Pt lo sz wh) {L : Nat} (hL : L ≤ 5000) : (fst lo wh L + 1).natAbs.log2 + wh.natAbs.log2 < 1000000 := by
  have h1 := h.lo0
  have h2 := h.sz1
  have h3 := h.le
  have h4 := h.wh
  have hp := p5000 hL
  have hf := fst_rng h L
  have h5 : (2 : Int) ^ 5000 < 2 ^ 5001 := by decide +kernel
  have h6 : (2 : Int) ^ 5001 < 2 ^ 5002 := by decide +kernel
  exact lgm (a := 5002) (b := 4601) (by omega) (by omega) (by omega) (by omega) h4 (by omega) (by omega)
theorem e_mul {lo sz wh : Int} (h : Pt lo sz wh) {L : Nat} (hL : L ≤ 5000) : (lo + sz).natAbs.log2 + ((2 : Int) ^ L).natAbs.log2 < 1000000 := by
  have h1 := h.lo0
  have h2 := h.sz1
  have h3 := h.le
  have h4 := h.wh
  have hp := p5000 hL
  have h5 : (2 : Int) ^ 5000 < 2 ^ 5001 := by decide +kernel
  exact lgm (a := 4601) (b := 5001) (by omega) (by omega) (by omega) (by omega) (by omega) (by omega) (by omega)
theorem wh_div {lo sz wh : Int} (h : Pt lo sz wh) {i : Int} : sem2 .fdiv (.int i) (.int wh) = some (.int (i / wh)) := by
  have h1 := h.lo0
  have h2 := h.sz1
  have h3 := h.le
  exact s_divW (by omega) (Nat.lt_of_lt_of_le (lg (by omega) h.wh (by omega)) (by omega))
theorem not_gd {lo sz wh : Int} (h : Pt lo sz wh) {L : Nat} (hn : ¬ Gd lo sz wh L) : L < 4602 := by
  have h1 := h.lo0
  have h2 := h.sz1
  have h3 := h.le
  have h4 := h.wh
  rcases Nat.lt_or_ge L 4602 with z | z
  · exact z
  · exact absurd (gd_some (by omega) h2 h4 z) hn
theorem written_ok (n : Nat) (hn : 3 ≤ n) (s1 s2 : List D → D) (h1 : Sq s1) (h2 : Sq s2) (w t : List Int) (hw : Wts w) (ht : Ltr w t) (hl : t.length ≤ 200) :
    ∃ L, Sh (prt w t).1 (prt w t).2 (w.sum ^ t.length) L ∧ L ≤ 4602 ∧ callF P Y n "written" [s1 (w.map .int), s2 (t.map .int)] = .ret (.tup ((bitsR (fst (prt w t).1 (w.sum ^ t.length) L) L).map .int)) [s1 (w.map .int), s2 (t.map .int)] := by
  obtain ⟨n, rfl, hm⟩ := ex_succ hn
  rw [c_written]
  have pt := pt_of hw ht hl
  have hpart := part_ok n (by omega) s1 s2 h1 h2 w t hw ht hl
  generalize (prt w t).1 = lo at *
  generalize (prt w t).2 = sz at *
  generalize w.sum ^ t.length = wh at *
  generalize s1 (w.map .int) = dw at *
  generalize s2 (t.map .int) = dt at *
  have key : WR (runF (callF P Y n) Y f3 [dw, dt]) (fun d o => ∃ L, Sh lo sz wh L ∧ L ≤ 4602 ∧ d = .tup ((bitsR (fst lo wh L) L).map .int) ∧ o = [dw, dt]) (fun _ _ => False) := by
    refine fn_at [.va _, .va _, .un, .un, .un, .un, .un, .un, .un] rfl ?_
    dsimp only [f3]
    repeat fail
    refine WR.ret hpart ?_
    repeat fail
    refine s_whl (α := Nat) (fun L r => ∃ t6 t7, (∀ k, k < L → ¬ Gd lo sz wh k) ∧ r = [.va dw, .va dt, .va (.int lo), .va (.int sz), .va (.int wh), .va (.int L), t6, t7, .un] ∧ free t6 = true ∧ free t7 = true) (fun L => 5000 - L) 0 (by decide) ⟨.un, .un, fun k h => by omega, rfl, rfl, rfl⟩ ?_
    rintro L r ⟨t6, t7, hL, rfl, ht6, ht7⟩
    have hL1 : L ≤ 4602 := by
      rcases Nat.eq_zero_or_pos L with z | z
      · omega
      · have := not_gd pt (hL (L - 1) (by omega)); omega
    have hp := p5000 (L := L) (by omega)
    have pl := pt.lo0
    have ps := pt.sz1
    have pe := pt.le
    repeat fail
    refine WR.ret (raised_ok n (by omega) L (by omega)) ?_
    repeat fail
    refine ⟨ht6, ?_⟩
    dsimp only [put]
    repeat fail
    refine ex2 rfl rfl (s_mulW (lo_mul pt (by omega))) ?_
    repeat fail
    refine ex2 rfl rfl (wh_div pt) ?_
    repeat fail
    rw [show -(-(lo * 2 ^ L) / wh) = fst lo wh L from ceil_eq (by omega)]
    refine ⟨ht7, ?_⟩
    dsimp only [put]
    repeat fail
    refine ex2 rfl rfl (s_mulW (f_mul pt (by omega))) ?_
    repeat fail
    refine ex2 rfl rfl (s_mulW (e_mul pt (by omega))) ?_
    repeat fail
    refine ifD (fun hg => ?_) (fun hg => ?_)
    · have hg : Gd lo sz wh L := hg
      have hf := fst_rng pt L
      repeat fail
      refine lc_all rfl _ rfl .int (fun p : Int => fst lo wh L / 2 ^ ((L : Int) - 1 - p).toNat % 2) (le_SZ (by rw [irange_len]; omega)) (fun p hp' => ⟨_, rfl, rfl, ?_⟩) ?_
      · obtain ⟨p1, p2⟩ := mem_irange.mp hp'
        obtain ⟨m, hm'⟩ : ∃ m : Nat, (L : Int) - 1 - p = m := ⟨((L : Int) - 1 - p).toNat, by omega⟩
        rw [hm', Int.toNat_natCast]
        have hmp := p5000 (L := m) (by omega)
        have h5 : (2 : Int) ^ 5000 < 2 ^ 5001 := by decide +kernel
        repeat fail
        rw [hm']
        refine WR.ret (raised_ok n (by omega) m (by omega)) ?_
        repeat fail
        refine ex2 rfl rfl (s_divW (by omega) (Nat.lt_of_lt_of_le (lg (k := 5001) (by omega) (by omega) (by omega)) (by omega))) ?_
        repeat fail
        rfl
      · rw [← bitsR_map]
        repeat fail
        exact ⟨L, ⟨hg, hL⟩, hL1, rfl, rfl⟩
    · have hg : ¬ Gd lo sz wh L := hg
      have := not_gd pt hg
      repeat fail
      refine ⟨L + 1, by omega, _, _, fun k hk => ?_, rfl, rfl, rfl⟩
      by_cases e : k = L
      · subst e; exact hg
      · exact hL k (by omega)
  obtain ⟨d, o, z, L, a, b, rfl, rfl⟩ := key.sure
  exact ⟨L, a, b, z⟩
end Pk30

set_option linter.all false
set_option maxRecDepth 100000
set_option maxHeartbeats 0
namespace Pk30
open CW
-- step<
local macro_rules | `(tactic| fail "o") => `(tactic| first
  | ((with_reducible refine le_SZ ?_); first | exact Nat.le_of_ble_eq_true rfl | omega | (simp only [List.length_map, List.length_cons, List.length_nil, List.length_append, List.length_range, List.length_take, List.length_drop, List.length_dropLast, List.length_reverse] at *; omega))
  | ((with_reducible refine lt_SZ ?_); first | exact Nat.le_of_ble_eq_true rfl | omega | (simp only [List.length_map, List.length_cons, List.length_nil, List.length_append, List.length_range, List.length_take, List.length_drop, List.length_dropLast, List.length_reverse] at *; omega)))
local macro_rules | `(tactic| fail "s") => `(tactic| first
  | with_reducible exact s_add
  | with_reducible exact s_sub
  | with_reducible exact s_lt
  | with_reducible exact s_le
  | with_reducible exact s_gt
  | with_reducible exact s_ge
  | with_reducible exact s_eq
  | with_reducible exact s_ne
  | ((with_reducible apply s_mod); omega)
  | ((with_reducible apply s_div); omega; omega)
  | ((with_reducible apply s_mulR); first | exact small_of (by omega) (by omega) | exact small_of (by decide) (by decide))
  | ((with_reducible apply s_mulL); exact small_of (by omega) (by omega))
  | with_reducible exact s_eqs
  | with_reducible exact s_nes
  | with_reducible exact s_eqb
  | with_reducible exact s_neb
  | with_reducible exact s_isb
  | with_reducible exact s_nisb
  | with_reducible exact s_inI
  | with_reducible exact s_nin2
  | with_reducible exact s_in2
  | with_reducible exact s_b2i
  | with_reducible exact s_i2i
  | with_reducible exact s_max2
  | with_reducible exact s_min2
  | with_reducible exact s_lenm
  | with_reducible exact s_lenTm
  | with_reducible exact s_len
  | with_reducible exact s_lenT
  | with_reducible exact s_sumI
  | with_reducible exact s_sumT
  | with_reducible exact s_all
  | with_reducible exact s_any
  | with_reducible exact s_eqN
  | with_reducible exact s_neN
  | with_reducible exact s_eqL
  | with_reducible exact s_neL
  | with_reducible exact s_eqU
  | with_reducible exact s_neU
  | ((with_reducible apply s_band); omega; omega)
  | ((with_reducible apply s_bxor); omega; omega)
  | ((with_reducible apply s_ixm); omega; omega)
  | ((with_reducible apply s_ixTm); omega; omega)
  | ((with_reducible apply s_catm); fail "o")
  | ((with_reducible apply s_catU); fail "o")
  | ((with_reducible apply s_cat1); fail "o")
  | ((with_reducible apply s_catU1); fail "o")
  | ((with_reducible apply s_cat2); fail "o")
  | ((with_reducible apply s_catU2); fail "o")
  | ((with_reducible apply s_catm'); fail "o")
  | ((with_reducible apply s_cat1'); fail "o")
  | ((with_reducible apply s_cat); fail "o")
  | ((with_reducible apply s_catT); fail "o")
  | ((with_reducible apply s_cat'); fail "o")
  | ((with_reducible apply s_rep); omega; omega; fail "o")
  | ((with_reducible apply s_repT); (intro h; cases h); omega; omega; exact Nat.le_of_ble_eq_true rfl)
  | exact s_ix (by decide) rfl
  | exact s_ixT (by decide) rfl
  | rfl
  | ((with_reducible apply s_lenS); assumption)
  | ((with_reducible apply s_sumS); assumption)
  | ((with_reducible apply s_listS); assumption)
  | ((with_reducible apply s_tupleS); assumption)
  | ((with_reducible apply s_ixS); assumption; omega; omega)
  | ((with_reducible apply s_catS); assumption; fail "o"))
local macro_rules | `(tactic| fail) => `(tactic| first
  | ((with_reducible refine kE ?_); first
    | ((with_reducible refine gVar ?_); refine w_var rfl ?_) | with_reducible refine w_op2 ?_ | with_reducible refine w_int ?_ | with_reducible refine w_op1 ?_ | with_reducible refine w_cst ?_ | with_reducible refine w_call ?_ | with_reducible refine w_str ?_ | with_reducible refine w_cons ?_ | with_reducible refine w_fld ?_ | with_reducible refine w_tup ?_ | with_reducible refine w_bl ?_ | with_reducible refine w_non ?_ | with_reducible refine w_bop ?_ | with_reducible refine w_b1 ?_ | with_reducible refine w_b2 ?_ | with_reducible refine w_ite ?_ | with_reducible refine w_lst ?_ | with_reducible refine w_nil ?_ | with_reducible refine w_chain ?_ | with_reducible refine w_meth ?_ | with_reducible refine w_sl ?_ | with_reducible refine w_onone ?_ | with_reducible refine w_osome ?_ | with_reducible refine w_isi ?_ | with_reducible refine w_make ?_ | with_reducible refine w_lrng ?_ | with_reducible refine w_eqo ?_ | with_reducible refine w_lm ?_ | with_reducible refine w_lc ?_ | ((with_reducible refine gFrz ?_); (first | refine w_frz rfl ?_ | refine w_frzv rfl ?_)) | ((with_reducible refine gPop ?_); refine w_pop rfl ?_) | ((with_reducible refine gPopAt ?_); refine w_popAt rfl ?_) | ((with_reducible refine gMethR ?_); refine w_methR rfl rfl ?_))
  | ((with_reducible refine kP ?_); first
    | ((with_reducible refine gPk ?_); refine pk_var rfl ?_) | with_reducible refine pk_e ?_)
  | ((with_reducible refine kC ?_); first
    | ((with_reducible refine And.intro ?_ ?_); (first | with_reducible rfl | ((with_reducible refine q_okR ?_ ?_ ?_ ?_); omega; omega; omega; omega) | fail "o" | ((with_reducible refine eqG ?_); rfl))) | ((with_reducible refine ifT ?_ ?_); (first | with_reducible rfl | with_reducible exact bnt | exact decide_eq_true (by omega) | exact ndT (by omega) | exact decide_eq_true (by decide))) | ((with_reducible refine anT ?_ ?_); (first | with_reducible rfl | with_reducible exact bnt | exact decide_eq_true (by omega) | exact ndT (by omega) | exact decide_eq_true (by decide))) | ((with_reducible refine orT ?_ ?_); (first | with_reducible rfl | with_reducible exact bnt | exact decide_eq_true (by omega) | exact ndT (by omega) | exact decide_eq_true (by decide))) | ((with_reducible refine ifF ?_ ?_); (first | with_reducible rfl | with_reducible exact bnf | exact decide_eq_false (by omega) | exact ndF (by omega) | exact decide_eq_false (by decide))) | ((with_reducible refine anF ?_ ?_); (first | with_reducible rfl | with_reducible exact bnf | exact decide_eq_false (by omega) | exact ndF (by omega) | exact decide_eq_false (by decide))) | ((with_reducible refine orF ?_ ?_); (first | with_reducible rfl | with_reducible exact bnf | exact decide_eq_false (by omega) | exact ndF (by omega) | exact decide_eq_false (by decide))))
  | ((with_reducible refine kX ?_); first
    | ((with_reducible apply ex2); rfl; rfl; fail "s") | ((with_reducible apply ex1); rfl; fail "s") | ((with_reducible apply ex2b); rfl; rfl; fail "s") | ((with_reducible apply exF); rfl; rfl; rfl) | ((with_reducible apply exA); rfl; rfl) | ((with_reducible apply exR); rfl) | ((with_reducible apply exR); exact seqOf_S (by assumption)) | ((with_reducible apply exN); rfl; rfl) | ((with_reducible apply exT); rfl; rfl) | ((with_reducible apply exI); rfl; rfl) | ((with_reducible apply exRR); rfl; rfl) | ((with_reducible apply exX); rfl; rfl; (first | ((with_reducible apply setL_map); omega; omega) | rfl)) | ((with_reducible apply exS); rfl; (first | ((with_reducible apply sl_from); omega) | ((with_reducible apply sl_to); omega) | ((with_reducible apply sl_mid); omega; omega) | with_reducible exact sl_last | ((with_reducible apply sl_fromL); omega) | ((with_reducible apply sl_toL); omega) | ((with_reducible apply sl_midL); omega; omega) | with_reducible exact sl_lastL | ((with_reducible apply sl_fromS); assumption; omega) | ((with_reducible apply sl_toS); assumption; omega) | ((with_reducible apply sl_midS); assumption; omega; omega) | rfl)) | ((with_reducible apply exM); rfl; rfl) | ((with_reducible apply exMo); rfl; rfl) | ((with_reducible apply exSF); rfl; rfl; exact Nat.le_of_ble_eq_true rfl; rfl) | ((with_reducible apply exP); rfl; fail "o"))
  | with_reducible refine s_cons ?_
  | ((with_reducible refine kS ?_); first
    | with_reducible refine s_set ?_ | with_reducible refine s_ifs ?_ | with_reducible refine s_ret ?_ | with_reducible refine s_setN ?_ | with_reducible refine s_for ?_ | with_reducible refine s_exp ?_ | with_reducible refine s_unp ?_ | with_reducible refine s_rse ?_ | with_reducible refine s_par ?_ | with_reducible refine s_setix ?_ | with_reducible refine s_swap ?_ | with_reducible refine s_setf ?_ | with_reducible refine s_ret0 ?_ | with_reducible refine s_pass ?_ | with_reducible refine s_brk ?_ | with_reducible refine s_cnt ?_ | ((with_reducible refine gApp ?_); refine s_app rfl ?_) | ((with_reducible refine gExt ?_); refine s_ext rfl ?_) | ((with_reducible refine gIns0 ?_); refine s_ins0 rfl ?_) | ((with_reducible refine gRvs ?_); refine s_rvs rfl ?_) | ((with_reducible refine gRetNv ?_); refine s_retNv rfl ?_) | ((with_reducible refine gRetN ?_); refine s_retN (by intro i e; cases e) ?_))
  | with_reducible refine s_nil ?_
  | ((with_reducible refine kT ?_); first
    | with_reducible refine t_cmp ?_ | with_reducible refine t_bop ?_ | with_reducible refine t_not ?_ | with_reducible refine t_tr ?_ | with_reducible refine t_chain ?_ | with_reducible refine t_cmpN ?_ | with_reducible refine t_eqo ?_)
  | ((with_reducible refine kH ?_); first
    | ((with_reducible refine h_hit ?_ ?_); rfl) | ((with_reducible refine h_miss ?_ ?_); rfl))
  | with_reducible refine s_try ?_
  | with_reducible refine w_cons ?_
  | with_reducible refine w_nil ?_
  | with_reducible refine t_one ?_
  | with_reducible refine t_cons ?_
  | with_reducible refine t_nil ?_
  | with_reducible refine w_b1 ?_
  | with_reducible refine w_b2 ?_
  | with_reducible refine w_onone ?_
  | with_reducible refine w_osome ?_
  | with_reducible refine wa_v ?_
  | with_reducible refine wa_nil ?_
  | ((with_reducible refine gAr ?_); refine wa_r rfl ?_)
  | ((with_reducible refine gAt ?_); refine wa_t (by intro i e; cases e) ?_)
  | ((with_reducible refine kI ?_); first
    | with_reducible refine i_seqL ?_ | with_reducible refine i_enum ?_ | with_reducible refine i_zip ?_ | with_reducible refine i_rev ?_ | with_reducible refine i_rng3 ?_ | with_reducible refine j_rng1 ?_ | with_reducible refine j_rng2 ?_ | ((with_reducible refine gLive ?_); (first | refine i_liveV rfl rfl ?_ | refine i_liveO rfl ?_))))
local macro_rules | `(tactic| fail "d") => `(tactic| first
  | fail | with_reducible refine ifD (fun h => ?_) (fun h => ?_) | with_reducible refine ifN (fun h => ?_) (fun h => ?_) | with_reducible refine anD (fun h => ?_) (fun h => ?_) | with_reducible refine anN (fun h => ?_) (fun h => ?_) | with_reducible refine orD (fun h => ?_) (fun h => ?_) | with_reducible refine orN (fun h => ?_) (fun h => ?_))
-- >step
theorem shortest_ok (n : Nat) (hn : 3 ≤ n) (s1 s2 : List D → D) (h1 : Sq s1) (h2 : Sq s2) (w t : List Int) (hw : Wts w) (ht : Ltr w t) (hl : t.length ≤ 200) {L0 : Nat} (hs : Sh (prt w t).1 (prt w t).2 (w.sum ^ t.length) L0) :
    callF P Y n "_law_shortest" [s1 (w.map .int), s2 (t.map .int)] = .ret (.tup ((bitsR (fst (prt w t).1 (w.sum ^ t.length) L0) L0).map .int)) [s1 (w.map .int), s2 (t.map .int)] := by
  obtain ⟨n, rfl, hm⟩ := ex_succ hn
  rw [c__law_shortest]
  have pt := pt_of hw ht hl
  have hpart := lpart_ok n (by omega) s1 s2 h1 h2 w t hw ht hl
  generalize (prt w t).1 = lo at *
  generalize (prt w t).2 = sz at *
  generalize w.sum ^ t.length = wh at *
  generalize s1 (w.map .int) = dw at *
  generalize s2 (t.map .int) = dt at *
  have pl := pt.lo0
  have ps := pt.sz1
  have pe := pt.le
  refine WR.eq (fn_at [.va _, .va _, .un, .un, .un, .un, .un, .un, .un, .un] rfl ?_)
  dsimp only [f16]
  repeat fail
  refine WR.ret hpart ?_
  repeat fail
  refine fl_pre rfl (fun pr r => ∃ t6 t7, (∀ k, k < pr.length → ¬ Gd lo sz wh k) ∧ r = [.va dw, .va dt, .va (.int lo), .va (.int sz), .va (.int wh), .va (.int (2 ^ pr.length)), t6, t7, .un, .un] ∧ free t6 = true ∧ free t7 = true) ⟨.un, .un, fun k h => absurd h (Nat.not_lt_zero _), rfl, rfl, rfl⟩ ?_ ?_
  · rintro pr k post r e ⟨t6, t7, hL, rfl, ht6, ht7⟩
    obtain ⟨k1, k2⟩ := irange_split e
    have hk : k = (pr.length : Int) := by omega
    have hL1 : pr.length ≤ 5000 := by omega
    have hp := p5000 hL1
    refine ⟨[.va dw, .va dt, .va (.int lo), .va (.int sz), .va (.int wh), .va (.int (2 ^ pr.length)), .va (.int k), t7, .un, .un], by simp [setTg, CW.get, ht6, put], ?_⟩
    repeat fail
    refine ex2 rfl rfl (s_mulW (lo_mul pt (by omega))) ?_
    repeat fail
    refine ex2 rfl rfl (wh_div pt) ?_
    rw [show (lo * 2 ^ pr.length + wh - 1) / wh = fst lo wh pr.length from rfl]
    refine ⟨ht7, ?_⟩
    dsimp only [put]
    repeat fail
    refine ex2 rfl rfl (s_mulW (f_mul pt (by omega))) ?_
    repeat fail
    refine ex2 rfl rfl (s_mulW (e_mul pt (by omega))) ?_
    repeat fail
    refine ifD (fun hg => ?_) (fun hg => ?_)
    · have hg : Gd lo sz wh pr.length := hg
      have hLe : pr.length = L0 := Sh.uniq ⟨hg, hL⟩ hs
      subst hLe
      repeat fail
      refine fl_pre rfl (fun p2 r => ∃ t9, r = [.va dw, .va dt, .va (.int lo), .va (.int sz), .va (.int wh), .va (.int (2 ^ pr.length)), .va (.int k), .va (.int (fst lo wh pr.length / 2 ^ p2.length)), .va (.lst ((bitsR (fst lo wh pr.length) p2.length).map .int)), t9] ∧ free t9 = true) ⟨.un, by rw [List.length_nil, Int.pow_zero, Int.ediv_one]; rfl, rfl⟩ ?_ ?_
      · rintro p2 k' post' r e' ⟨t9, rfl, ht9⟩
        obtain ⟨k1', k2'⟩ := irange_split e'
        refine ⟨[.va dw, .va dt, .va (.int lo), .va (.int sz), .va (.int wh), .va (.int (2 ^ pr.length)), .va (.int k), .va (.int (fst lo wh pr.length / 2 ^ p2.length)), .va (.lst ((bitsR (fst lo wh pr.length) p2.length).map .int)), .va (.int k')], by simp [setTg, CW.get, ht9, put], ?_⟩
        have hbl := bitsR_len p2.length (fst lo wh pr.length)
        repeat fail
        refine ⟨.va (.int k'), ?_, rfl⟩
        rw [bitsR_cons, List.length_append, List.length_singleton, Int.pow_succ, ← Int.ediv_ediv_of_nonneg (Int.pow_nonneg (by omega))]
        rfl
      · rintro r ⟨t9, rfl, ht9⟩
        rw [irange_len, show (k - 0).toNat = pr.length by omega]
        repeat fail
        rfl
    · have hg : ¬ Gd lo sz wh pr.length := hg
      repeat fail
      refine ⟨.va (.int k), .va (.int (fst lo wh pr.length)), fun j hj => ?_, ?_, rfl, rfl⟩
      · rw [List.length_append, List.length_singleton] at hj
        by_cases e : j = pr.length
        · subst e; exact hg
        · exact hL j (by omega)
      · rw [List.length_append, List.length_singleton, Int.pow_succ, Int.mul_comm]
        rfl
  · rintro r ⟨t6, t7, hL, rfl, ht6, ht7⟩
    rw [irange_len] at hL
    have := not_gd pt (hL 4999 (by omega))
    omega
theorem within_ok (n : Nat) (hn : 3 ≤ n) (s1 s2 s3 : List D → D) (h1 : Sq s1) (h2 : Sq s2) (h3 : Sq s3) (w t : List Int) (hw : Wts w) (ht : Ltr w t) (hl : t.length ≤ 200) {L0 : Nat} (hs : Sh (prt w t).1 (prt w t).2 (w.sum ^ t.length) L0) (hL0 : L0 ≤ 4602) :
    callF P Y n "_law_within" [s1 (w.map .int), s2 (t.map .int), s3 ((bitsR (fst (prt w t).1 (w.sum ^ t.length) L0) L0).map .int)] = .ret (.bl true) [s1 (w.map .int), s2 (t.map .int), s3 ((bitsR (fst (prt w t).1 (w.sum ^ t.length) L0) L0).map .int)] := by
  obtain ⟨n, rfl, hm⟩ := ex_succ hn
  rw [c__law_within]
  have pt := pt_of hw ht hl
  have hpart := lpart_ok n (by omega) s1 s2 h1 h2 w t hw ht hl
  obtain ⟨x0, x1, _⟩ := sh_in hw ht hs [] (by simp)
  have g := hs.gd
  unfold Gd at g
  generalize (prt w t).1 = lo at *
  generalize (prt w t).2 = sz at *
  generalize w.sum ^ t.length = wh at *
  generalize s1 (w.map .int) = dw at *
  generalize s2 (t.map .int) = dt at *
  have pl := pt.lo0
  have ps := pt.sz1
  have pe := pt.le
  have pw := pt.wh
  have hp := p5000 (L := L0) (by omega)
  have hb := fst_bd (lo := lo) (wh := wh) (by omega) L0
  have hbl := bitsR_len L0 (fst lo wh L0)
  have hnum := num_bits L0 (fst lo wh L0) x0 x1
  have h01 := bitsR_01 L0 (fst lo wh L0)
  have h5 : (2 : Int) ^ 5000 < 2 ^ 5001 := by decide +kernel
  generalize bitsR (fst lo wh L0) L0 = bs at *
  refine WR.eq (fn_at [.va _, .va _, .va _, .un, .un, .un, .un, .un, .un] rfl ?_)
  dsimp only [f15]
  repeat fail
  refine WR.ret hpart ?_
  repeat fail
  refine fl_pre rfl (fun pr r => ∃ t7, r = [.va dw, .va dt, .va (s3 (bs.map .int)), .va (.int lo), .va (.int sz), .va (.int wh), .va (.int (num pr)), t7, .un] ∧ free t7 = true) ⟨.un, rfl, rfl⟩ ?_ ?_
  · rintro pr k post r e ⟨t7, rfl, ht7⟩
    refine ⟨[.va dw, .va dt, .va (s3 (bs.map .int)), .va (.int lo), .va (.int sz), .va (.int wh), .va (.int (num pr)), .va (.int k), .un], by simp [setTg, CW.get, ht7, put], ?_⟩
    repeat fail
    exact ⟨.va (.int k), by rw [num_snoc]; rfl, rfl⟩
  · rintro r ⟨t7, rfl, ht7⟩
    repeat fail
    rw [hbl]
    refine WR.ret (lpower_ok n (by omega) 2 L0 (by omega) (by omega) (by omega)) ?_
    repeat fail
    rw [hnum]
    refine ex2 rfl rfl (s_mulW (lo_mul pt (by omega))) ?_
    repeat fail
    refine ex2 rfl rfl (s_mulW (lgm (a := 5001) (b := 4601) x0 (by omega) (by omega) (by omega) pw (by omega) (by omega))) ?_
    repeat fail
    refine ex2 rfl rfl (s_mulW (f_mul pt (by omega))) ?_
    repeat fail
    refine ex2 rfl rfl (s_mulW (e_mul pt (by omega))) ?_
    repeat fail
    rw [decide_eq_true g]
    exact ⟨rfl, rfl⟩
end Pk30

set_option linter.all false
set_option maxRecDepth 100000
set_option maxHeartbeats 0
namespace Pk30
open CW
-- step<
local macro_rules | `(tactic| fail "o") => `(tactic| first
  | ((with_reducible refine le_SZ ?_); first | exact Nat.le_of_ble_eq_true rfl | omega | (simp only [List.length_map, List.length_cons, List.length_nil, List.length_append, List.length_range, List.length_take, List.length_drop, List.length_dropLast, List.length_reverse] at *; omega))
  | ((with_reducible refine lt_SZ ?_); first | exact Nat.le_of_ble_eq_true rfl | omega | (simp only [List.length_map, List.length_cons, List.length_nil, List.length_append, List.length_range, List.length_take, List.length_drop, List.length_dropLast, List.length_reverse] at *; omega)))
local macro_rules | `(tactic| fail "s") => `(tactic| first
  | with_reducible exact s_add
  | with_reducible exact s_sub
  | with_reducible exact s_lt
  | with_reducible exact s_le
  | with_reducible exact s_gt
  | with_reducible exact s_ge
  | with_reducible exact s_eq
  | with_reducible exact s_ne
  | ((with_reducible apply s_mod); omega)
  | ((with_reducible apply s_div); omega; omega)
  | ((with_reducible apply s_mulR); first | exact small_of (by omega) (by omega) | exact small_of (by decide) (by decide))
  | ((with_reducible apply s_mulL); exact small_of (by omega) (by omega))
  | with_reducible exact s_eqs
  | with_reducible exact s_nes
  | with_reducible exact s_eqb
  | with_reducible exact s_neb
  | with_reducible exact s_isb
  | with_reducible exact s_nisb
  | with_reducible exact s_inI
  | with_reducible exact s_nin2
  | with_reducible exact s_in2
  | with_reducible exact s_b2i
  | with_reducible exact s_i2i
  | with_reducible exact s_max2
  | with_reducible exact s_min2
  | with_reducible exact s_lenm
  | with_reducible exact s_lenTm
  | with_reducible exact s_len
  | with_reducible exact s_lenT
  | with_reducible exact s_sumI
  | with_reducible exact s_sumT
  | with_reducible exact s_all
  | with_reducible exact s_any
  | with_reducible exact s_eqN
  | with_reducible exact s_neN
  | with_reducible exact s_eqL
  | with_reducible exact s_neL
  | with_reducible exact s_eqU
  | with_reducible exact s_neU
  | ((with_reducible apply s_band); omega; omega)
  | ((with_reducible apply s_bxor); omega; omega)
  | ((with_reducible apply s_ixm); omega; omega)
  | ((with_reducible apply s_ixTm); omega; omega)
  | ((with_reducible apply s_catm); fail "o")
  | ((with_reducible apply s_catU); fail "o")
  | ((with_reducible apply s_cat1); fail "o")
  | ((with_reducible apply s_catU1); fail "o")
  | ((with_reducible apply s_cat2); fail "o")
  | ((with_reducible apply s_catU2); fail "o")
  | ((with_reducible apply s_catm'); fail "o")
  | ((with_reducible apply s_cat1'); fail "o")
  | ((with_reducible apply s_cat); fail "o")
  | ((with_reducible apply s_catT); fail "o")
  | ((with_reducible apply s_cat'); fail "o")
  | ((with_reducible apply s_rep); omega; omega; fail "o")
  | ((with_reducible apply s_repT); (intro h; cases h); omega; omega; exact Nat.le_of_ble_eq_true rfl)
  | exact s_ix (by decide) rfl
  | exact s_ixT (by decide) rfl
  | rfl
  | ((with_reducible apply s_lenS); assumption)
  | ((with_reducible apply s_sumS); assumption)
  | ((with_reducible apply s_listS); assumption)
  | ((with_reducible apply s_tupleS); assumption)
  | ((with_reducible apply s_ixS); assumption; omega; omega)
  | ((with_reducible apply s_catS); assumption; fail "o"))
local macro_rules | `(tactic| fail) => `(tactic| first
  | ((with_reducible refine kE ?_); first
    | ((with_reducible refine gVar ?_); refine w_var rfl ?_) | with_reducible refine w_op2 ?_ | with_reducible refine w_int ?_ | with_reducible refine w_op1 ?_ | with_reducible refine w_cst ?_ | with_reducible refine w_call ?_ | with_reducible refine w_str ?_ | with_reducible refine w_cons ?_ | with_reducible refine w_fld ?_ | with_reducible refine w_tup ?_ | with_reducible refine w_bl ?_ | with_reducible refine w_non ?_ | with_reducible refine w_bop ?_ | with_reducible refine w_b1 ?_ | with_reducible refine w_b2 ?_ | with_reducible refine w_ite ?_ | with_reducible refine w_lst ?_ | with_reducible refine w_nil ?_ | with_reducible refine w_chain ?_ | with_reducible refine w_meth ?_ | with_reducible refine w_sl ?_ | with_reducible refine w_onone ?_ | with_reducible refine w_osome ?_ | with_reducible refine w_isi ?_ | with_reducible refine w_make ?_ | with_reducible refine w_lrng ?_ | with_reducible refine w_eqo ?_ | with_reducible refine w_lm ?_ | with_reducible refine w_lc ?_ | ((with_reducible refine gFrz ?_); (first | refine w_frz rfl ?_ | refine w_frzv rfl ?_)) | ((with_reducible refine gPop ?_); refine w_pop rfl ?_) | ((with_reducible refine gPopAt ?_); refine w_popAt rfl ?_) | ((with_reducible refine gMethR ?_); refine w_methR rfl rfl ?_))
  | ((with_reducible refine kP ?_); first
    | ((with_reducible refine gPk ?_); refine pk_var rfl ?_) | with_reducible refine pk_e ?_)
  | ((with_reducible refine kC ?_); first
    | ((with_reducible refine And.intro ?_ ?_); (first | with_reducible rfl | ((with_reducible refine q_okR ?_ ?_ ?_ ?_); omega; omega; omega; omega) | fail "o" | ((with_reducible refine eqG ?_); rfl))) | ((with_reducible refine ifT ?_ ?_); (first | with_reducible rfl | with_reducible exact bnt | exact decide_eq_true (by omega) | exact ndT (by omega) | exact decide_eq_true (by decide))) | ((with_reducible refine anT ?_ ?_); (first | with_reducible rfl | with_reducible exact bnt | exact decide_eq_true (by omega) | exact ndT (by omega) | exact decide_eq_true (by decide))) | ((with_reducible refine orT ?_ ?_); (first | with_reducible rfl | with_reducible exact bnt | exact decide_eq_true (by omega) | exact ndT (by omega) | exact decide_eq_true (by decide))) | ((with_reducible refine ifF ?_ ?_); (first | with_reducible rfl | with_reducible exact bnf | exact decide_eq_false (by omega) | exact ndF (by omega) | exact decide_eq_false (by decide))) | ((with_reducible refine anF ?_ ?_); (first | with_reducible rfl | with_reducible exact bnf | exact decide_eq_false (by omega) | exact ndF (by omega) | exact decide_eq_false (by decide))) | ((with_reducible refine orF ?_ ?_); (first | with_reducible rfl | with_reducible exact bnf | exact decide_eq_false (by omega) | exact ndF (by omega) | exact decide_eq_false (by decide))))
  | ((with_reducible refine kX ?_); first
    | ((with_reducible apply ex2); rfl; rfl; fail "s") | ((with_reducible apply ex1); rfl; fail "s") | ((with_reducible apply ex2b); rfl; rfl; fail "s") | ((with_reducible apply exF); rfl; rfl; rfl) | ((with_reducible apply exA); rfl; rfl) | ((with_reducible apply exR); rfl) | ((with_reducible apply exR); exact seqOf_S (by assumption)) | ((with_reducible apply exN); rfl; rfl) | ((with_reducible apply exT); rfl; rfl) | ((with_reducible apply exI); rfl; rfl) | ((with_reducible apply exRR); rfl; rfl) | ((with_reducible apply exX); rfl; rfl; (first | ((with_reducible apply setL_map); omega; omega) | rfl)) | ((with_reducible apply exS); rfl; (first | ((with_reducible apply sl_from); omega) | ((with_reducible apply sl_to); omega) | ((with_reducible apply sl_mid); omega; omega) | with_reducible exact sl_last | ((with_reducible apply sl_fromL); omega) | ((with_reducible apply sl_toL); omega) | ((with_reducible apply sl_midL); omega; omega) | with_reducible exact sl_lastL | ((with_reducible apply sl_fromS); assumption; omega) | ((with_reducible apply sl_toS); assumption; omega) | ((with_reducible apply sl_midS); assumption; omega; omega) | rfl)) | ((with_reducible apply exM); rfl; rfl) | ((with_reducible apply exMo); rfl; rfl) | ((with_reducible apply exSF); rfl; rfl; exact Nat.le_of_ble_eq_true rfl; rfl) | ((with_reducible apply exP); rfl; fail "o"))
  | with_reducible refine s_cons ?_
  | ((with_reducible refine kS ?_); first
    | with_reducible refine s_set ?_ | with_reducible refine s_ifs ?_ | with_reducible refine s_ret ?_ | with_reducible refine s_setN ?_ | with_reducible refine s_for ?_ | with_reducible refine s_exp ?_ | with_reducible refine s_unp ?_ | with_reducible refine s_rse ?_ | with_reducible refine s_par ?_ | with_reducible refine s_setix ?_ | with_reducible refine s_swap ?_ | with_reducible refine s_setf ?_ | with_reducible refine s_ret0 ?_ | with_reducible refine s_pass ?_ | with_reducible refine s_brk ?_ | with_reducible refine s_cnt ?_ | ((with_reducible refine gApp ?_); refine s_app rfl ?_) | ((with_reducible refine gExt ?_); refine s_ext rfl ?_) | ((with_reducible refine gIns0 ?_); refine s_ins0 rfl ?_) | ((with_reducible refine gRvs ?_); refine s_rvs rfl ?_) | ((with_reducible refine gRetNv ?_); refine s_retNv rfl ?_) | ((with_reducible refine gRetN ?_); refine s_retN (by intro i e; cases e) ?_))
  | with_reducible refine s_nil ?_
  | ((with_reducible refine kT ?_); first
    | with_reducible refine t_cmp ?_ | with_reducible refine t_bop ?_ | with_reducible refine t_not ?_ | with_reducible refine t_tr ?_ | with_reducible refine t_chain ?_ | with_reducible refine t_cmpN ?_ | with_reducible refine t_eqo ?_)
  | ((with_reducible refine kH ?_); first
    | ((with_reducible refine h_hit ?_ ?_); rfl) | ((with_reducible refine h_miss ?_ ?_); rfl))
  | with_reducible refine s_try ?_
  | with_reducible refine w_cons ?_
  | with_reducible refine w_nil ?_
  | with_reducible refine t_one ?_
  | with_reducible refine t_cons ?_
  | with_reducible refine t_nil ?_
  | with_reducible refine w_b1 ?_
  | with_reducible refine w_b2 ?_
  | with_reducible refine w_onone ?_
  | with_reducible refine w_osome ?_
  | with_reducible refine wa_v ?_
  | with_reducible refine wa_nil ?_
  | ((with_reducible refine gAr ?_); refine wa_r rfl ?_)
  | ((with_reducible refine gAt ?_); refine wa_t (by intro i e; cases e) ?_)
  | ((with_reducible refine kI ?_); first
    | with_reducible refine i_seqL ?_ | with_reducible refine i_enum ?_ | with_reducible refine i_zip ?_ | with_reducible refine i_rev ?_ | with_reducible refine i_rng3 ?_ | with_reducible refine j_rng1 ?_ | with_reducible refine j_rng2 ?_ | ((with_reducible refine gLive ?_); (first | refine i_liveV rfl rfl ?_ | refine i_liveO rfl ?_))))
local macro_rules | `(tactic| fail "d") => `(tactic| first
  | fail | with_reducible refine ifD (fun h => ?_) (fun h => ?_) | with_reducible refine ifN (fun h => ?_) (fun h => ?_) | with_reducible refine anD (fun h => ?_) (fun h => ?_) | with_reducible refine anN (fun h => ?_) (fun h => ?_) | with_reducible refine orD (fun h => ?_) (fun h => ?_) | with_reducible refine orN (fun h => ?_) (fun h => ?_))
-- >step
theorem inP_init {w t : List Int} {a N S : Int} (hw : Wts w) (ht : Ltr w (t ++ [a])) (hS : 0 < S) (q : InP w (t ++ [a]) N S) : InP w t N S := by
  obtain ⟨a1, a2⟩ := ht a (by simp)
  have ht' : Ltr w t := fun x m => ht x (List.mem_append_left _ m)
  obtain ⟨b1, b2, b3⟩ := prt_bd hw t ht'
  have p0 := pre_nonneg hw a1 (by omega)
  have p1 := pre_succ w a1 a2
  have p2 := pre_top hw (a := a + 1) (by omega) (by omega)
  have hT := hw.sum
  obtain ⟨q1, q2⟩ := q
  rw [prt_snoc, List.length_append, List.length_singleton, Int.pow_succ] at q1 q2
  unfold stp at q1 q2
  dsimp only at q1 q2
  unfold InP
  generalize w.sum ^ t.length = T at *
  generalize (prt w t).1 = lo at *
  generalize (prt w t).2 = sz at *
  generalize w[a.toNat]! = x at *
  generalize pre w a = p at *
  generalize w.sum = W at *
  have e1 : 0 ≤ sz * p * S := Int.mul_nonneg (Int.mul_nonneg (by omega) p0) (by omega)
  have e2 : sz * (p + x) ≤ sz * W := Int.mul_le_mul_of_nonneg_left (by omega) (by omega)
  have e3 : sz * (p + x) * S ≤ sz * W * S := Int.mul_le_mul_of_nonneg_right e2 (by omega)
  refine ⟨Int.le_of_mul_le_mul_right (a := W) ?_ (by omega), Int.lt_of_mul_lt_mul_right (a := W) ?_ (by omega)⟩ <;> grind
theorem inP_take {w : List Int} (hw : Wts w) {N S : Int} (hS : 0 < S) : ∀ (k : Nat) (t : List Int), Ltr w t → InP w t N S → k ≤ t.length → InP w (t.take (t.length - k)) N S
  | 0, t, _, q, _ => by rw [Nat.sub_zero, List.take_length]; exact q
  | k + 1, t, ht, q, hk => by
    have i := inP_take hw hS k t ht q (by omega)
    have e : t.take (t.length - k) = t.take (t.length - (k + 1)) ++ [t[t.length - (k + 1)]!] := by
      rw [show t.length - k = (t.length - (k + 1)) + 1 by omega, List.take_succ_eq_append_getElem (by omega), getElem!_pos t _ (by omega)]
    rw [e] at i
    exact inP_init hw (by rw [← e]; exact fun x m => ht x (List.mem_of_mem_take m)) hS i
theorem sz_mono {w : List Int} (hw : Wts w) (t u : List Int) (hu : Ltr w u) (ht : Ltr w t) : (prt w t).2 ≤ (prt w (t ++ u)).2 := by
  have e : prt w (t ++ u) = u.foldl (stp w) (prt w t) := by unfold prt; rw [List.foldl_append]
  rw [e, fold_front]
  have b1 := (prt_bd hw u hu).2.1
  have b2 := (prt_bd hw t ht).2.1
  have := Int.mul_le_mul_of_nonneg_left b1 (c := (prt w t).2) (by omega)
  dsimp only
  omega
/-- all beginnings of a text that is read are short enough -/
theorem sh_bound {w t : List Int} (hw : Wts w) (ht : Ltr w t) (hl : t.length ≤ 200) {L : Nat} (h : Sh (prt w t).1 (prt w t).2 (w.sum ^ t.length) L) (m : List Int) (hm : ∀ b ∈ m, b = 0 ∨ b = 1) (hml : m.length ≤ 5)
    (fd : List Int) (hf : Ltr w fd) (hfl : fd.length ≤ t.length) (q : InP w fd (num (bitsR (fst (prt w t).1 (w.sum ^ t.length) L) L ++ m)) (2 ^ (bitsR (fst (prt w t).1 (w.sum ^ t.length) L) L ++ m).length)) :
    2 ^ (bitsR (fst (prt w t).1 (w.sum ^ t.length) L) L ++ m).length * (prt w fd).2 < 2 ^ 8000 := by
  rw [List.length_append, bitsR_len] at q ⊢
  obtain ⟨x0, x1, x2⟩ := sh_in hw ht h m hm
  have hS : (0 : Int) < 2 ^ (L + m.length) := by have := pow_pos' (T := 2) (by omega) (L + m.length); omega
  have q2 := inP_take hw hS (t.length - fd.length) t ht x2 (by omega)
  have e := inP_uniq hw _ _ _ _ hS hf (fun x m => ht x (List.mem_of_mem_take m)) (by rw [List.length_take]; omega) q q2
  have hle : (prt w fd).2 ≤ (prt w t).2 := by
    have := sz_mono hw (t.take (t.length - (t.length - fd.length))) (t.drop (t.length - (t.length - fd.length))) (fun x m => ht x (List.mem_of_mem_drop m)) (fun x m => ht x (List.mem_of_mem_take m))
    rw [List.take_append_drop, ← e] at this
    exact this
  have pt := pt_of hw ht hl
  have ps := pt.sz1
  have pe := pt.le
  have pl := pt.lo0
  have pw := pt.wh
  have f1 := (prt_bd hw fd hf).2.1
  -- the size of the shortest
  have hsz : 2 ^ L * (prt w t).2 < 4 * w.sum ^ t.length + 4 * w.sum ^ t.length := by
    rcases Nat.eq_zero_or_pos L with z | z
    · subst z
      rw [Int.pow_zero]; omega
    · have hn := h.lst (L - 1) (by omega)
      have hb := fst_bd (lo := (prt w t).1) (wh := w.sum ^ t.length) (by omega) (L - 1)
      unfold Gd at hn
      have e2 : (2 : Int) ^ L = 2 ^ (L - 1) * 2 := by rw [← Int.pow_succ]; congr 1; omega
      rw [e2]
      generalize (2 : Int) ^ (L - 1) = A at *
      generalize w.sum ^ t.length = T at *
      generalize (prt w t).1 = lo at *
      generalize (prt w t).2 = sz at *
      generalize fst lo T (L - 1) = f at *
      have := Int.not_le.mp hn
      have : (f + 1) * T = f * T + T := by grind
      have : (lo + sz) * A = lo * A + sz * A := by grind
      have : A * 2 * sz = 2 * (sz * A) := by grind
      omega
  have hp : (2 : Int) ^ m.length ≤ 2 ^ 5 := pow_le_right (by omega) hml
  have hp0 : 1 ≤ (2 : Int) ^ m.length := pow_pos' (by omega) _
  have hA : 1 ≤ (2 : Int) ^ L := pow_pos' (by omega) L
  have g1 : 2 ^ L * (prt w fd).2 ≤ 2 ^ L * (prt w t).2 := Int.mul_le_mul_of_nonneg_left hle (by omega)
  have g2 : 2 ^ L * (prt w fd).2 * 2 ^ m.length ≤ 2 ^ L * (prt w fd).2 * 2 ^ 5 := Int.mul_le_mul_of_nonneg_left hp (Int.mul_nonneg (by omega) (by omega))
  have c1 : (2 : Int) ^ 5 = 32 := by decide
  have c2 : (2 : Int) ^ 4601 * 8 * 32 < 2 ^ 8000 := by decide +kernel
  rw [Int.pow_add]
  have g3 : 2 ^ L * 2 ^ m.length * (prt w fd).2 = 2 ^ L * (prt w fd).2 * 2 ^ m.length := by grind
  rw [g3]
  rw [c1] at g2
  generalize (2 : Int) ^ 4601 = z1 at *
  generalize (2 : Int) ^ 8000 = z2 at *
  omega
theorem read_ok (n : Nat) (hn : 2 ≤ n) (s1 s3 : List D → D) (h1 : Sq s1) (h3 : Sq s3) (w word : List Int) (hw : Wts w) (count : Nat) (hc : count ≤ 200) (h01 : ∀ b ∈ word, b = 0 ∨ b = 1) (hwl : word.length ≤ 5000)
    (hb : ∀ fd, Ltr w fd → fd.length ≤ count → InP w fd (num word) (2 ^ word.length) → 2 ^ word.length * (prt w fd).2 < 2 ^ 8000) :
    ∃ fd, fd.length = count ∧ Ltr w fd ∧ InP w fd (num word) (2 ^ word.length) ∧ callF P Y n "read_part" [s1 (w.map .int), .int count, s3 (word.map .int)] = .ret (.tup (fd.map .int)) [s1 (w.map .int), .int count, s3 (word.map .int)] := by
  obtain ⟨n, rfl, hm⟩ := ex_succ hn
  rw [c_read_part]
  have hwl' := hw.len
  have hsum := hw.sum
  have hnb := num_bd word h01
  have hp := p5000 (L := word.length) hwl
  have key : WR (runF (callF P Y n) Y f4 [s1 (w.map .int), .int count, s3 (word.map .int)]) (fun d o => ∃ fd, fd.length = count ∧ Ltr w fd ∧ InP w fd (num word) (2 ^ word.length) ∧ d = .tup (fd.map .int) ∧ o = [s1 (w.map .int), .int count, s3 (word.map .int)]) (fun _ _ => False) := by
    refine fn_at [.va _, .va _, .va _, .un, .un, .un, .un, .un, .un, .un, .un] rfl ?_
    dsimp only [f4]
    repeat fail
    refine WR.ret (checked_ok n (by omega) s1 h1 w (by omega) hw.wok) ?_
    repeat fail
    refine lc_all rfl _ rfl .bl (fun b : Int => decide (b = 0 ∨ b = 1)) (le_SZ (by omega)) (fun x hx => ⟨_, rfl, rfl, ?_⟩) ?_
    · repeat fail
      rfl
    repeat fail
    refine ifF (by rw [List.all_eq_true.mpr (fun x m => decide_eq_true (h01 x m))]; rfl) ?_
    repeat fail
    refine fl_pre rfl (fun pr r => ∃ t5, r = [.va (.tup (w.map .int)), .va (.int count), .va (s3 (word.map .int)), .va (.int w.sum), .va (.int (num pr)), t5, .un, .un, .un, .un, .un] ∧ free t5 = true) ⟨.un, rfl, rfl⟩ ?_ ?_
    · rintro pr k post r e ⟨t5, rfl, ht5⟩
      refine ⟨[.va (.tup (w.map .int)), .va (.int count), .va (s3 (word.map .int)), .va (.int w.sum), .va (.int (num pr)), .va (.int k), .un, .un, .un, .un, .un], by simp [setTg, CW.get, ht5, put], ?_⟩
      repeat fail
      exact ⟨.va (.int k), by rw [num_snoc]; rfl, rfl⟩
    rintro r ⟨t5, rfl, ht5⟩
    repeat fail
    refine WR.ret (raised_ok n (by omega) word.length (by omega)) ?_
    repeat fail
    refine fl_pre rfl (fun pr r => ∃ (fd : List Int) (nn ss : Int) (t8 t9 t10 : Sl), fd.length = pr.length ∧ Ltr w fd ∧ nn = num word * w.sum ^ fd.length - (prt w fd).1 * 2 ^ word.length ∧ ss = 2 ^ word.length * (prt w fd).2 ∧ 0 ≤ nn ∧ nn < ss ∧
      r = [.va (.tup (w.map .int)), .va (.int count), .va (s3 (word.map .int)), .va (.int w.sum), .va (.int nn), t5, .va (.int ss), .ow false (.lst (fd.map .int)), t8, t9, t10] ∧ free t8 = true ∧ free t9 = true ∧ free t10 = true) ?_ ?_ ?_
    · refine ⟨[], num word, 2 ^ word.length, .un, .un, .un, rfl, fun x m => (by cases m), ?_, ?_, hnb.1, hnb.2, rfl, rfl, rfl, rfl⟩
      · show _ = num word * w.sum ^ 0 - 0 * _
        rw [Int.pow_zero]; omega
      · show _ = 2 ^ word.length * 1
        omega
    · rintro pr k post r e ⟨fd, nn, ss, t8, t9, t10, hfl, hL, en, es, n0, n1, rfl, ht8, ht9, ht10⟩
      obtain ⟨k1, k2⟩ := irange_split e
      refine ⟨[.va (.tup (w.map .int)), .va (.int count), .va (s3 (word.map .int)), .va (.int w.sum), .va (.int nn), t5, .va (.int ss), .ow false (.lst (fd.map .int)), .va (.int k), t9, t10], by simp [setTg, CW.get, ht8, put], ?_⟩
      have hin : InP w fd (num word) (2 ^ word.length) := by
        unfold InP
        constructor <;> grind
      have hs8 := hb fd hL (by omega) hin
      rw [← es] at hs8
      have pl0 : 0 ≤ nn * w.sum / ss := Int.ediv_nonneg (Int.mul_nonneg n0 (by omega)) (by omega)
      have pl1 : nn * w.sum / ss < w.sum := by
        refine (Int.ediv_lt_iff_lt_mul (by omega)).mpr ?_
        rw [Int.mul_comm w.sum]
        exact Int.mul_lt_mul_of_pos_right n1 (by omega)
      repeat fail
      refine ex2 rfl rfl (s_divW (by omega) (Nat.lt_of_lt_of_le (lg (k := 8000) (by omega) hs8 (by omega)) (by omega))) ?_
      refine ⟨ht9, ?_⟩
      dsimp only [put]
      repeat fail
      refine ⟨ht10, ?_⟩
      dsimp only [put]
      repeat fail
      refine s_whl (α := Nat) (fun a r => (a : Int) < w.length ∧ pre w a ≤ nn * w.sum / ss ∧ r = [.va (.tup (w.map .int)), .va (.int count), .va (s3 (word.map .int)), .va (.int w.sum), .va (.int nn), t5, .va (.int ss), .ow false (.lst (fd.map .int)), .va (.int k), .va (.int (nn * w.sum / ss)), .va (.int a)]) (fun a => 5 - a) 0 (by decide) ⟨by have := List.length_pos_iff.mpr hw.ne; omega, by rw [show ((0 : Nat) : Int) = 0 from rfl, pre_zero]; exact pl0, rfl⟩ ?_
      rintro a r ⟨ha, hpa, rfl⟩
      have e1 : (w.take ((a : Int) + 1).toNat).sum = pre w ((a : Int) + 1) := rfl
      have e2 : (w.take (a : Int).toNat).sum = pre w a := rfl
      repeat fail
      rw [e1]
      refine ifD (fun hg => ?_) (fun hg => ?_)
      · have hg : pre w ((a : Int) + 1) ≤ nn * w.sum / ss := hg
        have ha2 : (a : Int) + 1 < w.length := by
          rcases Int.lt_or_le ((a : Int) + 1) w.length with z | z
          · exact z
          · have : (a : Int) + 1 = w.length := by omega
            rw [this, pre_all] at hg
            omega
        repeat fail
        exact ⟨a + 1, by omega, by omega, hg, rfl⟩
      · have hg : nn * w.sum / ss < pre w ((a : Int) + 1) := by omega
        have hps := pre_succ w (a := a) (by omega) ha
        have hp0 := pre_nonneg hw (a := a) (by omega) (by omega)
        have hp1 := pre_top hw (a := a) (by omega) (by omega)
        have hwa := hw.at (a := a) (by omega) ha
        have q1 : pre w a * ss ≤ nn * w.sum := (Int.le_ediv_iff_mul_le (by omega)).mp hpa
        have q2 : nn * w.sum < pre w ((a : Int) + 1) * ss := (Int.ediv_lt_iff_lt_mul (by omega)).mp hg
        have hfd : fd.length ≤ 200 := by omega
        rw [← e2] at hp0 hp1
        repeat fail
        rw [e2]
        obtain ⟨r1, r2⟩ := read_step (a := a) en es
        refine ⟨fd ++ [(a : Int)], nn * w.sum - pre w a * ss, ss * w[(a : Int).toNat]!, .va (.int k), .va (.int (nn * w.sum / ss)), .va (.int a), by simp [hfl], ?_, r1, r2, by omega, ?_, ?_, rfl, rfl, rfl⟩
        · intro x m
          rcases List.mem_append.mp m with m | m
          · exact hL x m
          · rw [List.mem_singleton.mp m]; omega
        · rw [hps] at q2
          have : (pre w a + w[(a : Int).toNat]!) * ss = pre w a * ss + ss * w[(a : Int).toNat]! := by grind
          omega
        · rw [List.map_append]; rfl
    · rintro r ⟨fd, nn, ss, t8, t9, t10, hfl, hL, en, es, n0, n1, rfl, ht8, ht9, ht10⟩
      rw [irange_len] at hfl
      repeat fail
      refine ⟨fd, by omega, hL, ?_, rfl, rfl⟩
      unfold InP
      constructor <;> grind
  obtain ⟨d, o, z, fd, a, b, c, rfl, rfl⟩ := key.sure
  exact ⟨fd, a, b, c, z⟩
end Pk30

set_option linter.all false
set_option maxRecDepth 100000
set_option maxHeartbeats 0
namespace Pk30
open CW
-- step<
local macro_rules | `(tactic| fail "o") => `(tactic| first
  | ((with_reducible refine le_SZ ?_); first | exact Nat.le_of_ble_eq_true rfl | omega | (simp only [List.length_map, List.length_cons, List.length_nil, List.length_append, List.length_range, List.length_take, List.length_drop, List.length_dropLast, List.length_reverse] at *; omega))
  | ((with_reducible refine lt_SZ ?_); first | exact Nat.le_of_ble_eq_true rfl | omega | (simp only [List.length_map, List.length_cons, List.length_nil, List.length_append, List.length_range, List.length_take, List.length_drop, List.length_dropLast, List.length_reverse] at *; omega)))
local macro_rules | `(tactic| fail "s") => `(tactic| first
  | with_reducible exact s_add
  | with_reducible exact s_sub
  | with_reducible exact s_lt
  | with_reducible exact s_le
  | with_reducible exact s_gt
  | with_reducible exact s_ge
  | with_reducible exact s_eq
  | with_reducible exact s_ne
  | ((with_reducible apply s_mod); omega)
  | ((with_reducible apply s_div); omega; omega)
  | ((with_reducible apply s_mulR); first | exact small_of (by omega) (by omega) | exact small_of (by decide) (by decide))
  | ((with_reducible apply s_mulL); exact small_of (by omega) (by omega))
  | with_reducible exact s_eqs
  | with_reducible exact s_nes
  | with_reducible exact s_eqb
  | with_reducible exact s_neb
  | with_reducible exact s_isb
  | with_reducible exact s_nisb
  | with_reducible exact s_inI
  | with_reducible exact s_nin2
  | with_reducible exact s_in2
  | with_reducible exact s_b2i
  | with_reducible exact s_i2i
  | with_reducible exact s_max2
  | with_reducible exact s_min2
  | with_reducible exact s_lenm
  | with_reducible exact s_lenTm
  | with_reducible exact s_len
  | with_reducible exact s_lenT
  | with_reducible exact s_sumI
  | with_reducible exact s_sumT
  | with_reducible exact s_all
  | with_reducible exact s_any
  | with_reducible exact s_eqN
  | with_reducible exact s_neN
  | with_reducible exact s_eqL
  | with_reducible exact s_neL
  | with_reducible exact s_eqU
  | with_reducible exact s_neU
  | ((with_reducible apply s_band); omega; omega)
  | ((with_reducible apply s_bxor); omega; omega)
  | ((with_reducible apply s_ixm); omega; omega)
  | ((with_reducible apply s_ixTm); omega; omega)
  | ((with_reducible apply s_catm); fail "o")
  | ((with_reducible apply s_catU); fail "o")
  | ((with_reducible apply s_cat1); fail "o")
  | ((with_reducible apply s_catU1); fail "o")
  | ((with_reducible apply s_cat2); fail "o")
  | ((with_reducible apply s_catU2); fail "o")
  | ((with_reducible apply s_catm'); fail "o")
  | ((with_reducible apply s_cat1'); fail "o")
  | ((with_reducible apply s_cat); fail "o")
  | ((with_reducible apply s_catT); fail "o")
  | ((with_reducible apply s_cat'); fail "o")
  | ((with_reducible apply s_rep); omega; omega; fail "o")
  | ((with_reducible apply s_repT); (intro h; cases h); omega; omega; exact Nat.le_of_ble_eq_true rfl)
  | exact s_ix (by decide) rfl
  | exact s_ixT (by decide) rfl
  | rfl
  | ((with_reducible apply s_lenS); assumption)
  | ((with_reducible apply s_sumS); assumption)
  | ((with_reducible apply s_listS); assumption)
  | ((with_reducible apply s_tupleS); assumption)
  | ((with_reducible apply s_ixS); assumption; omega; omega)
  | ((with_reducible apply s_catS); assumption; fail "o"))
local macro_rules | `(tactic| fail) => `(tactic| first
  | ((with_reducible refine kE ?_); first
    | ((with_reducible refine gVar ?_); refine w_var rfl ?_) | with_reducible refine w_op2 ?_ | with_reducible refine w_int ?_ | with_reducible refine w_op1 ?_ | with_reducible refine w_cst ?_ | with_reducible refine w_call ?_ | with_reducible refine w_str ?_ | with_reducible refine w_cons ?_ | with_reducible refine w_fld ?_ | with_reducible refine w_tup ?_ | with_reducible refine w_bl ?_ | with_reducible refine w_non ?_ | with_reducible refine w_bop ?_ | with_reducible refine w_b1 ?_ | with_reducible refine w_b2 ?_ | with_reducible refine w_ite ?_ | with_reducible refine w_lst ?_ | with_reducible refine w_nil ?_ | with_reducible refine w_chain ?_ | with_reducible refine w_meth ?_ | with_reducible refine w_sl ?_ | with_reducible refine w_onone ?_ | with_reducible refine w_osome ?_ | with_reducible refine w_isi ?_ | with_reducible refine w_make ?_ | with_reducible refine w_lrng ?_ | with_reducible refine w_eqo ?_ | with_reducible refine w_lm ?_ | with_reducible refine w_lc ?_ | ((with_reducible refine gFrz ?_); (first | refine w_frz rfl ?_ | refine w_frzv rfl ?_)) | ((with_reducible refine gPop ?_); refine w_pop rfl ?_) | ((with_reducible refine gPopAt ?_); refine w_popAt rfl ?_) | ((with_reducible refine gMethR ?_); refine w_methR rfl rfl ?_))
  | ((with_reducible refine kP ?_); first
    | ((with_reducible refine gPk ?_); refine pk_var rfl ?_) | with_reducible refine pk_e ?_)
  | ((with_reducible refine kC ?_); first
    | ((with_reducible refine And.intro ?_ ?_); (first | with_reducible rfl | ((with_reducible refine q_okR ?_ ?_ ?_ ?_); omega; omega; omega; omega) | fail "o" | ((with_reducible refine eqG ?_); rfl))) | ((with_reducible refine ifT ?_ ?_); (first | with_reducible rfl | with_reducible exact bnt | exact decide_eq_true (by omega) | exact ndT (by omega) | exact decide_eq_true (by decide))) | ((with_reducible refine anT ?_ ?_); (first | with_reducible rfl | with_reducible exact bnt | exact decide_eq_true (by omega) | exact ndT (by omega) | exact decide_eq_true (by decide))) | ((with_reducible refine orT ?_ ?_); (first | with_reducible rfl | with_reducible exact bnt | exact decide_eq_true (by omega) | exact ndT (by omega) | exact decide_eq_true (by decide))) | ((with_reducible refine ifF ?_ ?_); (first | with_reducible rfl | with_reducible exact bnf | exact decide_eq_false (by omega) | exact ndF (by omega) | exact decide_eq_false (by decide))) | ((with_reducible refine anF ?_ ?_); (first | with_reducible rfl | with_reducible exact bnf | exact decide_eq_false (by omega) | exact ndF (by omega) | exact decide_eq_false (by decide))) | ((with_reducible refine orF ?_ ?_); (first | with_reducible rfl | with_reducible exact bnf | exact decide_eq_false (by omega) | exact ndF (by omega) | exact decide_eq_false (by decide))))
  | ((with_reducible refine kX ?_); first
    | ((with_reducible apply ex2); rfl; rfl; fail "s") | ((with_reducible apply ex1); rfl; fail "s") | ((with_reducible apply ex2b); rfl; rfl; fail "s") | ((with_reducible apply exF); rfl; rfl; rfl) | ((with_reducible apply exA); rfl; rfl) | ((with_reducible apply exR); rfl) | ((with_reducible apply exR); exact seqOf_S (by assumption)) | ((with_reducible apply exN); rfl; rfl) | ((with_reducible apply exT); rfl; rfl) | ((with_reducible apply exI); rfl; rfl) | ((with_reducible apply exRR); rfl; rfl) | ((with_reducible apply exX); rfl; rfl; (first | ((with_reducible apply setL_map); omega; omega) | rfl)) | ((with_reducible apply exS); rfl; (first | ((with_reducible apply sl_from); omega) | ((with_reducible apply sl_to); omega) | ((with_reducible apply sl_mid); omega; omega) | with_reducible exact sl_last | ((with_reducible apply sl_fromL); omega) | ((with_reducible apply sl_toL); omega) | ((with_reducible apply sl_midL); omega; omega) | with_reducible exact sl_lastL | ((with_reducible apply sl_fromS); assumption; omega) | ((with_reducible apply sl_toS); assumption; omega) | ((with_reducible apply sl_midS); assumption; omega; omega) | rfl)) | ((with_reducible apply exM); rfl; rfl) | ((with_reducible apply exMo); rfl; rfl) | ((with_reducible apply exSF); rfl; rfl; exact Nat.le_of_ble_eq_true rfl; rfl) | ((with_reducible apply exP); rfl; fail "o"))
  | with_reducible refine s_cons ?_
  | ((with_reducible refine kS ?_); first
    | with_reducible refine s_set ?_ | with_reducible refine s_ifs ?_ | with_reducible refine s_ret ?_ | with_reducible refine s_setN ?_ | with_reducible refine s_for ?_ | with_reducible refine s_exp ?_ | with_reducible refine s_unp ?_ | with_reducible refine s_rse ?_ | with_reducible refine s_par ?_ | with_reducible refine s_setix ?_ | with_reducible refine s_swap ?_ | with_reducible refine s_setf ?_ | with_reducible refine s_ret0 ?_ | with_reducible refine s_pass ?_ | with_reducible refine s_brk ?_ | with_reducible refine s_cnt ?_ | ((with_reducible refine gApp ?_); refine s_app rfl ?_) | ((with_reducible refine gExt ?_); refine s_ext rfl ?_) | ((with_reducible refine gIns0 ?_); refine s_ins0 rfl ?_) | ((with_reducible refine gRvs ?_); refine s_rvs rfl ?_) | ((with_reducible refine gRetNv ?_); refine s_retNv rfl ?_) | ((with_reducible refine gRetN ?_); refine s_retN (by intro i e; cases e) ?_))
  | with_reducible refine s_nil ?_
  | ((with_reducible refine kT ?_); first
    | with_reducible refine t_cmp ?_ | with_reducible refine t_bop ?_ | with_reducible refine t_not ?_ | with_reducible refine t_tr ?_ | with_reducible refine t_chain ?_ | with_reducible refine t_cmpN ?_ | with_reducible refine t_eqo ?_)
  | ((with_reducible refine kH ?_); first
    | ((with_reducible refine h_hit ?_ ?_); rfl) | ((with_reducible refine h_miss ?_ ?_); rfl))
  | with_reducible refine s_try ?_
  | with_reducible refine w_cons ?_
  | with_reducible refine w_nil ?_
  | with_reducible refine t_one ?_
  | with_reducible refine t_cons ?_
  | with_reducible refine t_nil ?_
  | with_reducible refine w_b1 ?_
  | with_reducible refine w_b2 ?_
  | with_reducible refine w_onone ?_
  | with_reducible refine w_osome ?_
  | with_reducible refine wa_v ?_
  | with_reducible refine wa_nil ?_
  | ((with_reducible refine gAr ?_); refine wa_r rfl ?_)
  | ((with_reducible refine gAt ?_); refine wa_t (by intro i e; cases e) ?_)
  | ((with_reducible refine kI ?_); first
    | with_reducible refine i_seqL ?_ | with_reducible refine i_enum ?_ | with_reducible refine i_zip ?_ | with_reducible refine i_rev ?_ | with_reducible refine i_rng3 ?_ | with_reducible refine j_rng1 ?_ | with_reducible refine j_rng2 ?_ | ((with_reducible refine gLive ?_); (first | refine i_liveV rfl rfl ?_ | refine i_liveO rfl ?_))))
local macro_rules | `(tactic| fail "d") => `(tactic| first
  | fail | with_reducible refine ifD (fun h => ?_) (fun h => ?_) | with_reducible refine ifN (fun h => ?_) (fun h => ?_) | with_reducible refine anD (fun h => ?_) (fun h => ?_) | with_reducible refine anN (fun h => ?_) (fun h => ?_) | with_reducible refine orD (fun h => ?_) (fun h => ?_) | with_reducible refine orN (fun h => ?_) (fun h => ?_))
-- >step
def rngB (m : Nat) (v : Int) : Bool := decide (0 ≤ v) && decide (v < m)
def Lt (m : Nat) (t : List Int) : Prop := ∀ a ∈ t, 0 ≤ a ∧ a < (m : Int)
theorem lt_all {m : Nat} {t : List Int} (h : Lt m t) : t.all (rngB m) = true := List.all_eq_true.mpr fun x q => by
  have := h x q
  unfold rngB; simp; omega
theorem lt_not {m : Nat} {t : List Int} (h : ¬ Lt m t) : t.all (rngB m) = false := by
  cases z : t.all (rngB m) with
  | false => rfl
  | true =>
    refine absurd (fun x q => ?_) h
    have := List.all_eq_true.mp z x q
    unfold rngB at this
    simpa using this
theorem shares_ok (n : Nat) (hn : 1 ≤ n) (s : List D → D) (hs : Sq s) (t : List Int) (m : Nat) (hm' : m ≤ 1000) (hl : t.length ≤ 1000) (ht : Lt m t) : callF P Y n "shares_of" [s (t.map .int), .int m] = .ret (.tup ((cnt m t).map .int)) [s (t.map .int), .int m] := by
  obtain ⟨n, rfl, hm⟩ := ex_succ hn
  rw [c_shares_of]
  refine WR.eq (fn_at [.va _, .va _, .un, .un] rfl ?_)
  dsimp only [f5]
  repeat fail
  refine lc_all rfl _ rfl .bl (rngB m) (le_SZ (by omega)) (fun x hx => ⟨_, rfl, rfl, ?_⟩) ?_
  · repeat fail
    refine ⟨fun h => ?_, fun h => ?_⟩
    · repeat fail
      unfold rngB
      rw [h]
      exact ⟨rfl, rfl⟩
    · unfold rngB
      rw [h]
      exact ⟨rfl, rfl⟩
  repeat fail
  refine ifF (by rw [lt_all ht]; rfl) ?_
  repeat fail
  refine lc_all rfl _ rfl .int (fun i : Int => (t.count i : Int)) (le_SZ (by rw [irange_len]; omega)) (fun i hi => ⟨_, rfl, rfl, ?_⟩) ?_
  · repeat fail
    refine lc_map rfl _ rfl (fun x : Int => decide (x = i)) .int id (le_SZ (by omega)) (fun x hx => ⟨_, rfl, rfl, ?_, fun e => ?_⟩) ?_
    · repeat fail
      rfl
    · repeat fail
      rfl
    · repeat fail
      refine ⟨?_, rfl⟩
      rw [List.map_id, List.count_eq_length_filter]
      congr 3
  repeat fail
  rfl
theorem shares_bad (n : Nat) (hn : 1 ≤ n) (s : List D → D) (hs : Sq s) (t : List Int) (m : Nat) (hl : t.length ≤ 1000) (ht : ¬ Lt m t) : callF P Y n "shares_of" [s (t.map .int), .int m] = .exc ⟨"BadRow", .str "letter"⟩ [s (t.map .int), .int m] := by
  obtain ⟨n, rfl, hm⟩ := ex_succ hn
  rw [c_shares_of]
  refine WR.eqx (fn_at [.va _, .va _, .un, .un] rfl ?_)
  dsimp only [f5]
  repeat fail
  refine lc_all rfl _ rfl .bl (rngB m) (le_SZ (by omega)) (fun x hx => ⟨_, rfl, rfl, ?_⟩) ?_
  · repeat fail
    refine ⟨fun h => ?_, fun h => ?_⟩
    · repeat fail
      unfold rngB
      rw [h]
      exact ⟨rfl, rfl⟩
    · unfold rngB
      rw [h]
      exact ⟨rfl, rfl⟩
  repeat fail
  refine ifT (by rw [lt_not ht]; rfl) ?_
  repeat fail
  rfl
theorem mem_le_sum : ∀ {c : List Int}, Nn c → ∀ x ∈ c, x ≤ c.sum
  | [], _, _, m => by cases m
  | y :: c, h, x, m => by
    have hn : Nn c := fun z q => h z (List.mem_cons_of_mem _ q)
    have h1 := h y List.mem_cons_self
    have h2 := hn.sum
    rw [List.sum_cons]
    rcases List.mem_cons.mp m with rfl | m
    · omega
    · have := mem_le_sum hn x m; omega
theorem orders_ok (n : Nat) (hn : 1 ≤ n) (c : List Int) (hc : Nn c) (hs : c.sum ≤ 1000) : callF P Y n "orders" [.lst (c.map .int)] = .ret (.int (M c)) [.lst (c.map .int)] := by
  obtain ⟨n, rfl, hm⟩ := ex_succ hn
  rw [c_orders]
  refine WR.eq (fn_at [.ow true _, .un, .un, .un, .un] rfl ?_)
  dsimp only [f7]
  repeat fail
  refine fl_lk rfl (fun pr r => ∃ t3 t4, r = [.lk true (.lst (c.map .int)), .va (.int (M pr)), .va (.int pr.sum), t3, t4] ∧ free t3 = true ∧ free t4 = true) ⟨.un, .un, rfl, rfl, rfl⟩ ?_ ?_
  · rintro pr x post r e ⟨t3, t4, rfl, ht3, ht4⟩
    have hpr : Nn pr := fun y m => hc y (by rw [e]; exact List.mem_append_left _ m)
    have hx : 0 ≤ x := hc x (by rw [e]; simp)
    have hpo : Nn post := fun y m => hc y (by rw [e]; simp [m])
    have p0 := hpr.sum
    have p1 := hpo.sum
    have ec : c.sum = pr.sum + (x + post.sum) := by rw [e, List.sum_append, List.sum_cons]
    obtain ⟨d, hd⟩ : ∃ d : Nat, pr.sum = d := ⟨pr.sum.toNat, by omega⟩
    refine ⟨[.lk true (.lst (c.map .int)), .va (.int (M pr)), .va (.int pr.sum), .va (.int x), t4], by simp [setTg, CW.get, ht3, put], ?_⟩
    repeat fail
    refine fl_pre rfl (fun p2 r => ∃ t4, r = [.lk true (.lst (c.map .int)), .va (.int ((M pr * B d p2.length : Nat) : Int)), .va (.int ((d + p2.length : Nat) : Int)), .va (.int x), t4] ∧ free t4 = true) ⟨t4, by rw [List.length_nil, B_zero, Nat.mul_one, hd]; rfl, ht4⟩ ?_ ?_
    · rintro p2 k post' r e' ⟨t4, rfl, ht4⟩
      obtain ⟨k1, k2⟩ := irange_split e'
      refine ⟨[.lk true (.lst (c.map .int)), .va (.int ((M pr * B d p2.length : Nat) : Int)), .va (.int ((d + p2.length : Nat) : Int)), .va (.int x), .va (.int k)], by simp [setTg, CW.get, ht4, put], ?_⟩
      repeat fail
      refine ⟨.va (.int k), ?_, rfl⟩
      have hb := B_step d p2.length
      have e2 : ((M pr * B d p2.length : Nat) : Int) * (((d + p2.length : Nat) : Int) + 1) / k = ((M pr * B d (p2.length + 1) : Nat) : Int) := by
        have e3 : M pr * B d p2.length * (d + p2.length + 1) = M pr * B d (p2.length + 1) * (p2.length + 1) := by rw [Nat.mul_assoc, Nat.mul_assoc, hb]
        rw [show (((d + p2.length : Nat) : Int) + 1) = ((d + p2.length + 1 : Nat) : Int) by omega, ← Int.natCast_mul, e3, Int.natCast_mul, show k = ((p2.length + 1 : Nat) : Int) by omega, Int.mul_ediv_cancel _ (by omega)]
      rw [e2, List.length_append, List.length_singleton, show (((d + p2.length : Nat) : Int) + 1) = ((d + (p2.length + 1) : Nat) : Int) by omega]
      rfl
    · rintro r ⟨t4, rfl, ht4⟩
      repeat fail
      refine ⟨.va (.int x), t4, ?_, rfl, ht4⟩
      rw [irange_len, M_snoc hpr hx, show (x + 1 - 1).toNat = x.toNat by omega, show pr.sum.toNat = d by omega, List.sum_append]
      rw [show ((d + x.toNat : Nat) : Int) = pr.sum + [x].sum by simp; omega]
  · rintro r ⟨t3, t4, rfl, ht3, ht4⟩
    repeat fail
    rfl
theorem fact_ok (n : Nat) (hn : 1 ≤ n) (x : Nat) (hx : x ≤ 1000) : callF P Y n "_law_factorial" [.int x] = .ret (.int (fc x)) [.int x] := by
  obtain ⟨n, rfl, hm⟩ := ex_succ hn
  rw [c__law_factorial]
  refine WR.eq (fn_at [.va _, .un, .un] rfl ?_)
  dsimp only [f17]
  repeat fail
  refine fl_pre rfl (fun p2 r => ∃ t2, r = [.va (.int x), .va (.int (fc (p2.length + 1))), t2] ∧ free t2 = true) ⟨.un, rfl, rfl⟩ ?_ ?_
  · rintro p2 k post' r e' ⟨t2, rfl, ht2⟩
    obtain ⟨k1, k2⟩ := irange_split e'
    refine ⟨[.va (.int x), .va (.int (fc (p2.length + 1))), .va (.int k)], by simp [setTg, CW.get, ht2, put], ?_⟩
    repeat fail
    refine ⟨.va (.int k), ?_, rfl⟩
    have : (fc (p2.length + 1) : Int) * k = (fc (p2.length + 1 + 1) : Int) := by
      rw [show fc (p2.length + 1 + 1) = (p2.length + 1 + 1) * fc (p2.length + 1) from rfl, Nat.mul_comm, Int.natCast_mul, show k = ((p2.length + 1 + 1 : Nat) : Int) by omega]
    rw [this, List.length_append, List.length_singleton]
    rfl
  · rintro r ⟨t2, rfl, ht2⟩
    repeat fail
    rw [irange_len]
    have : fc (((x : Int) + 1 - 2).toNat + 1) = fc x := by
      by_cases z : x = 0
      · subst z; rfl
      · congr 1; omega
    rw [this]
    exact ⟨rfl, rfl⟩
theorem fc_le : ∀ x, x ≤ 64 → fc x ≤ 64 ^ x
  | 0, _ => Nat.le_refl _
  | x + 1, h => by
    have i := fc_le x (by omega)
    show (x + 1) * fc x ≤ 64 ^ (x + 1)
    rw [Nat.pow_succ, Nat.mul_comm (64 ^ x)]
    exact Nat.mul_le_mul h i
theorem fc_lg {x : Nat} (h : x ≤ 64) : ((fc x : Nat) : Int).natAbs.log2 < 9000 := by
  rw [Int.natAbs_natCast]
  have h0 := fc_pos x
  rw [Nat.log2_lt (by omega)]
  have h1 := fc_le x h
  have h2 : 64 ^ x ≤ 64 ^ 64 := Nat.pow_le_pow_right (by omega) h
  have h3 : 64 ^ 64 < 2 ^ 9000 := by decide +kernel
  omega
theorem lorders_ok (n : Nat) (hn : 2 ≤ n) (s : List D → D) (hs : Sq s) (c : List Int) (hc : Nn c) (h64 : c.sum ≤ 64) : callF P Y n "_law_orders" [s (c.map .int)] = .ret (.int (M c)) [s (c.map .int)] := by
  obtain ⟨n, rfl, hm⟩ := ex_succ hn
  rw [c__law_orders]
  have h0 := hc.sum
  refine WR.eq (fn_at [.va _, .un, .un] rfl ?_)
  dsimp only [f18]
  repeat fail
  obtain ⟨d, hd⟩ : ∃ d : Nat, c.sum = d := ⟨c.sum.toNat, by omega⟩
  rw [hd]
  refine WR.ret (fact_ok n (by omega) d (by omega)) ?_
  repeat fail
  refine fl_pre rfl (fun p r => ∃ t2, (∀ q, c = p ++ q → CW.get r 1 = .va (.int ((M c * PF q : Nat) : Int))) ∧ (∃ v, r = [.va (s (c.map .int)), .va v, t2]) ∧ free t2 = true) ⟨.un, fun q e => ?_, ⟨_, rfl⟩, rfl⟩ ?_ ?_
  · rw [← show c = q from e, M_ok hc, hd]; rfl
  · rintro p x post r e ⟨t2, h1, ⟨v, rfl⟩, ht2⟩
    have h1 := h1 _ e
    simp only [CW.get] at h1
    cases h1
    have hx : 0 ≤ x := hc x (by rw [e]; simp)
    have hx2 : x ≤ c.sum := mem_le_sum hc x (by rw [e]; simp)
    refine ⟨[.va (s (c.map .int)), .va (.int ((M c * PF (x :: post) : Nat) : Int)), .va (.int x)], by simp [setTg, CW.get, ht2, put], ?_⟩
    obtain ⟨y, hy⟩ : ∃ y : Nat, x = y := ⟨x.toNat, by omega⟩
    repeat fail
    rw [hy]
    refine WR.ret (fact_ok n (by omega) y (by omega)) ?_
    have hf := fc_pos y
    repeat fail
    refine ex2 rfl rfl (s_divW (by omega) (fc_lg (by omega))) ?_
    repeat fail
    have e2 : ((M c * PF ((y : Int) :: post) : Nat) : Int) / (fc y : Int) = ((M c * PF post : Nat) : Int) := by
      show ((M c * (fc (y : Int).toNat * PF post) : Nat) : Int) / _ = _
      rw [Int.toNat_natCast, show M c * (fc y * PF post) = M c * PF post * fc y by grind, Int.natCast_mul, Int.mul_ediv_cancel _ (by omega)]
    rw [e2]
    refine ⟨.va (.int y), fun q eq => ?_, ⟨_, rfl⟩, rfl⟩
    rw [e, List.append_assoc, hy] at eq
    have := List.append_cancel_left eq
    cases this
    rfl
  · rintro r ⟨t2, h1, ⟨v, rfl⟩, ht2⟩
    have h1 := h1 [] (by simp)
    simp only [CW.get] at h1
    cases h1
    repeat fail
    show _ = _ ∧ _
    refine ⟨?_, rfl⟩
    show D.int ((M c * 1 : Nat) : Int) = _
    rw [Nat.mul_one]
end Pk30

set_option linter.all false
set_option maxRecDepth 100000
set_option maxHeartbeats 0
namespace Pk30
open CW
-- step<
local macro_rules | `(tactic| fail "o") => `(tactic| first
  | ((with_reducible refine le_SZ ?_); first | exact Nat.le_of_ble_eq_true rfl | omega | (simp only [List.length_map, List.length_cons, List.length_nil, List.length_append, List.length_range, List.length_take, List.length_drop, List.length_dropLast, List.length_reverse] at *; omega))
  | ((with_reducible refine lt_SZ ?_); first | exact Nat.le_of_ble_eq_true rfl | omega | (simp only [List.length_map, List.length_cons, List.length_nil, List.length_append, List.length_range, List.length_take, List.length_drop, List.length_dropLast, List.length_reverse] at *; omega)))
local macro_rules | `(tactic| fail "s") => `(tactic| first
  | with_reducible exact s_add
  | with_reducible exact s_sub
  | with_reducible exact s_lt
  | with_reducible exact s_le
  | with_reducible exact s_gt
  | with_reducible exact s_ge
  | with_reducible exact s_eq
  | with_reducible exact s_ne
  | ((with_reducible apply s_mod); omega)
  | ((with_reducible apply s_div); omega; omega)
  | ((with_reducible apply s_mulR); first | exact small_of (by omega) (by omega) | exact small_of (by decide) (by decide))
  | ((with_reducible apply s_mulL); exact small_of (by omega) (by omega))
  | with_reducible exact s_eqs
  | with_reducible exact s_nes
  | with_reducible exact s_eqb
  | with_reducible exact s_neb
  | with_reducible exact s_isb
  | with_reducible exact s_nisb
  | with_reducible exact s_inI
  | with_reducible exact s_nin2
  | with_reducible exact s_in2
  | with_reducible exact s_b2i
  | with_reducible exact s_i2i
  | with_reducible exact s_max2
  | with_reducible exact s_min2
  | with_reducible exact s_lenm
  | with_reducible exact s_lenTm
  | with_reducible exact s_len
  | with_reducible exact s_lenT
  | with_reducible exact s_sumI
  | with_reducible exact s_sumT
  | with_reducible exact s_all
  | with_reducible exact s_any
  | with_reducible exact s_eqN
  | with_reducible exact s_neN
  | with_reducible exact s_eqL
  | with_reducible exact s_neL
  | with_reducible exact s_eqU
  | with_reducible exact s_neU
  | ((with_reducible apply s_band); omega; omega)
  | ((with_reducible apply s_bxor); omega; omega)
  | ((with_reducible apply s_ixm); omega; omega)
  | ((with_reducible apply s_ixTm); omega; omega)
  | ((with_reducible apply s_catm); fail "o")
  | ((with_reducible apply s_catU); fail "o")
  | ((with_reducible apply s_cat1); fail "o")
  | ((with_reducible apply s_catU1); fail "o")
  | ((with_reducible apply s_cat2); fail "o")
  | ((with_reducible apply s_catU2); fail "o")
  | ((with_reducible apply s_catm'); fail "o")
  | ((with_reducible apply s_cat1'); fail "o")
  | ((with_reducible apply s_cat); fail "o")
  | ((with_reducible apply s_catT); fail "o")
  | ((with_reducible apply s_cat'); fail "o")
  | ((with_reducible apply s_rep); omega; omega; fail "o")
  | ((with_reducible apply s_repT); (intro h; cases h); omega; omega; exact Nat.le_of_ble_eq_true rfl)
  | exact s_ix (by decide) rfl
  | exact s_ixT (by decide) rfl
  | rfl
  | ((with_reducible apply s_lenS); assumption)
  | ((with_reducible apply s_sumS); assumption)
  | ((with_reducible apply s_listS); assumption)
  | ((with_reducible apply s_tupleS); assumption)
  | ((with_reducible apply s_ixS); assumption; omega; omega)
  | ((with_reducible apply s_catS); assumption; fail "o"))
local macro_rules | `(tactic| fail) => `(tactic| first
  | ((with_reducible refine kE ?_); first
    | ((with_reducible refine gVar ?_); refine w_var rfl ?_) | with_reducible refine w_op2 ?_ | with_reducible refine w_int ?_ | with_reducible refine w_op1 ?_ | with_reducible refine w_cst ?_ | with_reducible refine w_call ?_ | with_reducible refine w_str ?_ | with_reducible refine w_cons ?_ | with_reducible refine w_fld ?_ | with_reducible refine w_tup ?_ | with_reducible refine w_bl ?_ | with_reducible refine w_non ?_ | with_reducible refine w_bop ?_ | with_reducible refine w_b1 ?_ | with_reducible refine w_b2 ?_ | with_reducible refine w_ite ?_ | with_reducible refine w_lst ?_ | with_reducible refine w_nil ?_ | with_reducible refine w_chain ?_ | with_reducible refine w_meth ?_ | with_reducible refine w_sl ?_ | with_reducible refine w_onone ?_ | with_reducible refine w_osome ?_ | with_reducible refine w_isi ?_ | with_reducible refine w_make ?_ | with_reducible refine w_lrng ?_ | with_reducible refine w_eqo ?_ | with_reducible refine w_lm ?_ | with_reducible refine w_lc ?_ | ((with_reducible refine gFrz ?_); (first | refine w_frz rfl ?_ | refine w_frzv rfl ?_)) | ((with_reducible refine gPop ?_); refine w_pop rfl ?_) | ((with_reducible refine gPopAt ?_); refine w_popAt rfl ?_) | ((with_reducible refine gMethR ?_); refine w_methR rfl rfl ?_))
  | ((with_reducible refine kP ?_); first
    | ((with_reducible refine gPk ?_); refine pk_var rfl ?_) | with_reducible refine pk_e ?_)
  | ((with_reducible refine kC ?_); first
    | ((with_reducible refine And.intro ?_ ?_); (first | with_reducible rfl | ((with_reducible refine q_okR ?_ ?_ ?_ ?_); omega; omega; omega; omega) | fail "o" | ((with_reducible refine eqG ?_); rfl))) | ((with_reducible refine ifT ?_ ?_); (first | with_reducible rfl | with_reducible exact bnt | exact decide_eq_true (by omega) | exact ndT (by omega) | exact decide_eq_true (by decide))) | ((with_reducible refine anT ?_ ?_); (first | with_reducible rfl | with_reducible exact bnt | exact decide_eq_true (by omega) | exact ndT (by omega) | exact decide_eq_true (by decide))) | ((with_reducible refine orT ?_ ?_); (first | with_reducible rfl | with_reducible exact bnt | exact decide_eq_true (by omega) | exact ndT (by omega) | exact decide_eq_true (by decide))) | ((with_reducible refine ifF ?_ ?_); (first | with_reducible rfl | with_reducible exact bnf | exact decide_eq_false (by omega) | exact ndF (by omega) | exact decide_eq_false (by decide))) | ((with_reducible refine anF ?_ ?_); (first | with_reducible rfl | with_reducible exact bnf | exact decide_eq_false (by omega) | exact ndF (by omega) | exact decide_eq_false (by decide))) | ((with_reducible refine orF ?_ ?_); (first | with_reducible rfl | with_reducible exact bnf | exact decide_eq_false (by omega) | exact ndF (by omega) | exact decide_eq_false (by decide))))
  | ((with_reducible refine kX ?_); first
    | ((with_reducible apply ex2); rfl; rfl; fail "s") | ((with_reducible apply ex1); rfl; fail "s") | ((with_reducible apply ex2b); rfl; rfl; fail "s") | ((with_reducible apply exF); rfl; rfl; rfl) | ((with_reducible apply exA); rfl; rfl) | ((with_reducible apply exR); rfl) | ((with_reducible apply exR); exact seqOf_S (by assumption)) | ((with_reducible apply exN); rfl; rfl) | ((with_reducible apply exT); rfl; rfl) | ((with_reducible apply exI); rfl; rfl) | ((with_reducible apply exRR); rfl; rfl) | ((with_reducible apply exX); rfl; rfl; (first | ((with_reducible apply setL_map); omega; omega) | rfl)) | ((with_reducible apply exS); rfl; (first | ((with_reducible apply sl_from); omega) | ((with_reducible apply sl_to); omega) | ((with_reducible apply sl_mid); omega; omega) | with_reducible exact sl_last | ((with_reducible apply sl_fromL); omega) | ((with_reducible apply sl_toL); omega) | ((with_reducible apply sl_midL); omega; omega) | with_reducible exact sl_lastL | ((with_reducible apply sl_fromS); assumption; omega) | ((with_reducible apply sl_toS); assumption; omega) | ((with_reducible apply sl_midS); assumption; omega; omega) | rfl)) | ((with_reducible apply exM); rfl; rfl) | ((with_reducible apply exMo); rfl; rfl) | ((with_reducible apply exSF); rfl; rfl; exact Nat.le_of_ble_eq_true rfl; rfl) | ((with_reducible apply exP); rfl; fail "o"))
  | with_reducible refine s_cons ?_
  | ((with_reducible refine kS ?_); first
    | with_reducible refine s_set ?_ | with_reducible refine s_ifs ?_ | with_reducible refine s_ret ?_ | with_reducible refine s_setN ?_ | with_reducible refine s_for ?_ | with_reducible refine s_exp ?_ | with_reducible refine s_unp ?_ | with_reducible refine s_rse ?_ | with_reducible refine s_par ?_ | with_reducible refine s_setix ?_ | with_reducible refine s_swap ?_ | with_reducible refine s_setf ?_ | with_reducible refine s_ret0 ?_ | with_reducible refine s_pass ?_ | with_reducible refine s_brk ?_ | with_reducible refine s_cnt ?_ | ((with_reducible refine gApp ?_); refine s_app rfl ?_) | ((with_reducible refine gExt ?_); refine s_ext rfl ?_) | ((with_reducible refine gIns0 ?_); refine s_ins0 rfl ?_) | ((with_reducible refine gRvs ?_); refine s_rvs rfl ?_) | ((with_reducible refine gRetNv ?_); refine s_retNv rfl ?_) | ((with_reducible refine gRetN ?_); refine s_retN (by intro i e; cases e) ?_))
  | with_reducible refine s_nil ?_
  | ((with_reducible refine kT ?_); first
    | with_reducible refine t_cmp ?_ | with_reducible refine t_bop ?_ | with_reducible refine t_not ?_ | with_reducible refine t_tr ?_ | with_reducible refine t_chain ?_ | with_reducible refine t_cmpN ?_ | with_reducible refine t_eqo ?_)
  | ((with_reducible refine kH ?_); first
    | ((with_reducible refine h_hit ?_ ?_); rfl) | ((with_reducible refine h_miss ?_ ?_); rfl))
  | with_reducible refine s_try ?_
  | with_reducible refine w_cons ?_
  | with_reducible refine w_nil ?_
  | with_reducible refine t_one ?_
  | with_reducible refine t_cons ?_
  | with_reducible refine t_nil ?_
  | with_reducible refine w_b1 ?_
  | with_reducible refine w_b2 ?_
  | with_reducible refine w_onone ?_
  | with_reducible refine w_osome ?_
  | with_reducible refine wa_v ?_
  | with_reducible refine wa_nil ?_
  | ((with_reducible refine gAr ?_); refine wa_r rfl ?_)
  | ((with_reducible refine gAt ?_); refine wa_t (by intro i e; cases e) ?_)
  | ((with_reducible refine kI ?_); first
    | with_reducible refine i_seqL ?_ | with_reducible refine i_enum ?_ | with_reducible refine i_zip ?_ | with_reducible refine i_rev ?_ | with_reducible refine i_rng3 ?_ | with_reducible refine j_rng1 ?_ | with_reducible refine j_rng2 ?_ | ((with_reducible refine gLive ?_); (first | refine i_liveV rfl rfl ?_ | refine i_liveO rfl ?_))))
local macro_rules | `(tactic| fail "d") => `(tactic| first
  | fail | with_reducible refine ifD (fun h => ?_) (fun h => ?_) | with_reducible refine ifN (fun h => ?_) (fun h => ?_) | with_reducible refine anD (fun h => ?_) (fun h => ?_) | with_reducible refine anN (fun h => ?_) (fun h => ?_) | with_reducible refine orD (fun h => ?_) (fun h => ?_) | with_reducible refine orN (fun h => ?_) (fun h => ?_))
-- >step
theorem get0 {c : List Int} (hc : Nn c) {i : Nat} (h : i < c.length) : 0 ≤ c[i]! := by
  rw [getElem!_pos c i h]; exact hc _ (List.getElem_mem h)
theorem dec_get_self {c : List Int} {i : Nat} (h : i < c.length) : (dec c i)[i]! = c[i]! - 1 := by
  rw [dec_get h, if_pos rfl]
theorem dec_back {c : List Int} {i : Nat} (h : i < c.length) : (dec c i).set i ((dec c i)[i]! + 1) = c := by
  rw [dec_get_self h]
  unfold dec
  rw [List.set_set, show c[i]! - 1 + 1 = c[i]! by omega, getElem!_pos c i h, List.set_getElem_self]
theorem Sm_step_pos {c : List Int} {i : Nat} (h : 0 < c[i]!) : Sm c (i + 1) = Sm c i + M (dec c i) := by
  show Sm c i + trm c i = _
  unfold trm; rw [if_pos h]
theorem Sm_step_zero {c : List Int} {i : Nat} (h : ¬ 0 < c[i]!) : Sm c (i + 1) = Sm c i := by
  show Sm c i + trm c i = _
  unfold trm; rw [if_neg h]; rfl
theorem place_ok (n : Nat) (hn : 2 ≤ n) (s : List D → D) (hs : Sq s) (t : List Int) (m : Nat) (hm' : m ≤ 1000) (hl : t.length ≤ 1000) (ht : Lt m t) : callF P Y n "place_of" [s (t.map .int), .int m] = .ret (.int (R (cnt m t) t)) [s (t.map .int), .int m] := by
  obtain ⟨n, rfl, hm⟩ := ex_succ hn
  rw [c_place_of]
  refine WR.eq (fn_at [.va _, .va _, .un, .un, .un, .un] rfl ?_)
  dsimp only [f6]
  repeat fail
  refine WR.ret (shares_ok n (by omega) s hs t m hm' hl ht) ?_
  repeat fail
  have hft := cnt_ft ht
  have hcs : (cnt m t).sum = t.length := ft_len hft
  refine fl_pre rfl (fun pr r => ∃ (c : List Int) (ah : Nat) (t4 t5 : Sl), (∀ post, t = pr ++ post → Ft c post ∧ ah + R c post = R (cnt m t) t) ∧ Nn c ∧ c.length = m ∧ c.sum ≤ 1000 ∧ r = [.va (s (t.map .int)), .va (.int m), .ow false (.lst (c.map .int)), .va (.int ah), t4, t5] ∧ free t4 = true ∧ free t5 = true) ?_ ?_ ?_
  · exact ⟨cnt m t, 0, .un, .un, fun post e => by rw [← show t = post from e]; exact ⟨hft, Nat.zero_add _⟩, cnt_nn m t, cnt_len m t, by omega, rfl, rfl, rfl⟩
  · rintro pr a post r e ⟨c, ah, t4, t5, hI, hc, hcl, hcs', rfl, ht4, ht5⟩
    obtain ⟨hf, hR⟩ := hI _ e
    obtain ⟨a1, a2, a3, hf'⟩ := hf
    refine ⟨[.va (s (t.map .int)), .va (.int m), .ow false (.lst (c.map .int)), .va (.int ah), .va (.int a), t5], by simp [setTg, CW.get, ht4, put], ?_⟩
    repeat fail
    refine fl_pre rfl (fun p2 r => ∃ t5, r = [.va (s (t.map .int)), .va (.int m), .ow false (.lst (c.map .int)), .va (.int ((ah + Sm c p2.length : Nat) : Int)), .va (.int a), t5] ∧ free t5 = true) ⟨t5, rfl, ht5⟩ ?_ ?_
    · rintro p2 x post' r e' ⟨t5, rfl, ht5⟩
      obtain ⟨k1, k2⟩ := irange_split e'
      have hxn : x.toNat = p2.length := by omega
      have hxl : x.toNat < c.length := by omega
      refine ⟨[.va (s (t.map .int)), .va (.int m), .ow false (.lst (c.map .int)), .va (.int ((ah + Sm c p2.length : Nat) : Int)), .va (.int a), .va (.int x)], by simp [setTg, CW.get, ht5, put], ?_⟩
      repeat fail
      refine ifD (fun hg => ?_) (fun hg => ?_)
      · have e1 : c.set x.toNat (c[x.toNat]! - 1) = dec c x.toNat := rfl
        repeat fail
        rw [e1]
        refine WR.ret (orders_ok n (by omega) (dec c x.toNat) (dec_nn hc hg) (by rw [dec_sum hxl]; omega)) ?_
        have hdl := dec_len c x.toNat
        repeat fail
        rw [dec_back hxl]
        refine ⟨.va (.int x), ?_, rfl⟩
        rw [List.length_append, List.length_singleton, Sm_step_pos (by rw [← hxn]; exact hg), ← hxn, show ((ah + Sm c x.toNat : Nat) : Int) + (M (dec c x.toNat) : Int) = ((ah + (Sm c x.toNat + M (dec c x.toNat)) : Nat) : Int) by omega]
        rfl
      · repeat fail
        refine ⟨.va (.int x), ?_, rfl⟩
        rw [List.length_append, List.length_singleton, Sm_step_zero (by rw [← hxn]; exact hg)]
    · rintro r ⟨t5, rfl, ht5⟩
      rw [irange_len]
      have e1 : c.set a.toNat (c[a.toNat]! - 1) = dec c a.toNat := rfl
      repeat fail
      rw [e1]
      refine ⟨dec c a.toNat, ah + Sm c a.toNat, .va (.int a), t5, fun q eq => ?_, dec_nn hc a3, by rw [dec_len]; exact hcl, by rw [dec_sum (by omega)]; omega, by rw [show (a - 0).toNat = a.toNat by omega]; rfl, rfl, ht5⟩
      rw [e, List.append_assoc] at eq
      have eq := List.append_cancel_left eq
      simp only [List.singleton_append, List.cons.injEq, true_and] at eq
      rw [← eq]
      refine ⟨hf', ?_⟩
      have : R c (a :: post) = Sm c a.toNat + R (dec c a.toNat) post := rfl
      omega
  · rintro r ⟨c, ah, t4, t5, hI, hc, hcl, hcs', rfl, ht4, ht5⟩
    obtain ⟨hf, hR⟩ := hI [] (by simp)
    have : R c [] = 0 := rfl
    rw [← hR, this]
    repeat fail
    rfl
theorem place_bad (n : Nat) (hn : 2 ≤ n) (s : List D → D) (hs : Sq s) (t : List Int) (m : Nat) (hl : t.length ≤ 1000) (ht : ¬ Lt m t) : callF P Y n "place_of" [s (t.map .int), .int m] = .exc ⟨"BadRow", .str "letter"⟩ [s (t.map .int), .int m] := by
  obtain ⟨n, rfl, hm⟩ := ex_succ hn
  rw [c_place_of]
  refine WR.eqx (fn_at [.va _, .va _, .un, .un, .un, .un] rfl ?_)
  dsimp only [f6]
  repeat fail
  refine WR.exc (shares_bad n (by omega) s hs t m hl ht) ?_
  repeat fail
  rfl
theorem text_ok (n : Nat) (hn : 2 ≤ n) (s : List D → D) (hs : Sq s) (c0 : List Int) (k0 : Nat) (hc0 : Nn c0) (hs0 : c0.sum ≤ 1000) (hl0 : c0.length ≤ 1000) (hk0 : k0 < M c0) :
    ∃ t, Ft c0 t ∧ R c0 t = k0 ∧ callF P Y n "text_at" [s (c0.map .int), .int k0] = .ret (.tup (t.map .int)) [s (c0.map .int), .int k0] := by
  obtain ⟨n, rfl, hm⟩ := ex_succ hn
  rw [c_text_at]
  have key : WR (runF (callF P Y n) Y f8 [s (c0.map .int), .int k0]) (fun d o => ∃ t, Ft c0 t ∧ R c0 t = k0 ∧ d = .tup (t.map .int) ∧ o = [s (c0.map .int), .int k0]) (fun _ _ => False) := by
    refine fn_at [.va _, .va _, .un, .un, .un, .un, .un] rfl ?_
    dsimp only [f8]
    repeat fail
    refine lc_allK rfl _ rfl rfl .bl (fun v : Int => decide (0 ≤ v)) (le_SZ (by omega)) (fun x hx => ⟨_, rfl, rfl, ?_⟩) ?_
    · repeat fail
      rfl
    repeat fail
    refine ifF (by rw [List.all_eq_true.mpr (fun x m => decide_eq_true (hc0 x m))]; rfl) ?_
    repeat fail
    refine WR.ret (orders_ok n (by omega) c0 hc0 hs0) ?_
    repeat fail
    refine s_whl (α := List Int × List Int × Nat) (fun a r => ∃ t1 t4 t5 : Sl, Nn a.1 ∧ a.1.length = c0.length ∧ a.1.sum ≤ 1000 ∧ a.2.1.length ≤ 1000 - a.1.sum.toNat ∧ a.2.2 < M a.1 ∧ (∀ t', Ft a.1 t' → R a.1 t' = a.2.2 → Ft c0 (a.2.1 ++ t') ∧ R c0 (a.2.1 ++ t') = k0) ∧
      r = [.va (s (c0.map .int)), .va (.int a.2.2), .ow false (.lst (a.1.map .int)), .ow false (.lst (a.2.1.map .int)), t4, t5, .un] ∧ free t4 = true ∧ free t5 = true) (fun a => a.1.sum.toNat) (c0, [], k0) (by have : WF = 1000000000 := rfl; dsimp only; omega) ⟨.un, .un, .un, hc0, rfl, hs0, Nat.zero_le _, hk0, fun t' h1 h2 => ⟨h1, h2⟩, rfl, rfl, rfl⟩ ?_
    rintro ⟨c, fd, k⟩ r ⟨t1, t4, t5, hc, hcl, hcs, hfl, hk, hI, rfl, ht4, ht5⟩
    dsimp only at hc hcl hcs hfl hk hI ⊢
    have h0 := hc.sum
    repeat fail
    refine ifD (fun hg => ?_) (fun hg => ?_)
    · repeat fail
      refine fl_pre rfl (fun p2 r => ∃ t4 t5, Sm c p2.length ≤ k ∧ r = [.va (s (c0.map .int)), .va (.int ((k - Sm c p2.length : Nat) : Int)), .ow false (.lst (c.map .int)), .ow false (.lst (fd.map .int)), t4, t5, .un] ∧ free t4 = true ∧ free t5 = true) ⟨t4, t5, Nat.zero_le _, rfl, ht4, ht5⟩ ?_ ?_
      · rintro p2 x post' r e' ⟨t4, t5, hS, rfl, ht4, ht5⟩
        obtain ⟨k1, k2⟩ := irange_split e'
        have hxn : x.toNat = p2.length := by omega
        have hxl : x.toNat < c.length := by omega
        refine ⟨[.va (s (c0.map .int)), .va (.int ((k - Sm c p2.length : Nat) : Int)), .ow false (.lst (c.map .int)), .ow false (.lst (fd.map .int)), .va (.int x), t5, .un], by simp [setTg, CW.get, ht4, put], ?_⟩
        repeat fail
        refine ifD (fun hp => ?_) (fun hp => ?_)
        · have e1 : c.set x.toNat (c[x.toNat]! - 1) = dec c x.toNat := rfl
          have hSm : Sm c (x.toNat + 1) = Sm c x.toNat + M (dec c x.toNat) := Sm_step_pos hp
          repeat fail
          rw [e1]
          refine WR.ret (orders_ok n (by omega) (dec c x.toNat) (dec_nn hc hp) (by rw [dec_sum hxl]; omega)) ?_
          have hdl := dec_len c x.toNat
          repeat fail
          refine ⟨ht5, ?_⟩
          dsimp only [put]
          repeat fail
          refine ifD (fun hz => ?_) (fun hz => ?_)
          · repeat fail
            refine ⟨(dec c x.toNat, fd ++ [x], k - Sm c p2.length), ?_, t1, .va (.int x), .va (.int (M (dec c x.toNat))), dec_nn hc hp, by rw [dec_len]; exact hcl, ?_, ?_, by dsimp only; omega, ?_, ?_, rfl, rfl⟩
            · dsimp only
              rw [dec_sum hxl]; omega
            · dsimp only
              rw [dec_sum hxl]; omega
            · dsimp only
              rw [dec_sum hxl, List.length_append, List.length_singleton]; omega
            · intro t' h1 h2
              dsimp only at h1 h2 ⊢
              have := hI (x :: t') ⟨by omega, by omega, hp, h1⟩ (by show Sm c x.toNat + R (dec c x.toNat) t' = k; rw [h2, hxn]; omega)
              rw [List.append_assoc]
              exact this
            · dsimp only
              rw [List.map_append]; rfl
          · repeat fail
            rw [dec_back hxl]
            refine ⟨.va (.int x), .va (.int (M (dec c x.toNat))), ?_, ?_, rfl, rfl⟩
            · rw [List.length_append, List.length_singleton, ← hxn, hSm]; rw [hxn] at *; omega
            · rw [List.length_append, List.length_singleton, ← hxn, hSm, show ((k - Sm c x.toNat : Nat) : Int) - (M (dec c x.toNat) : Int) = ((k - (Sm c x.toNat + M (dec c x.toNat)) : Nat) : Int) by rw [hxn] at *; omega]
              rfl
        · repeat fail
          have hz := Sm_step_zero (c := c) (i := p2.length) (by rw [← hxn]; exact hp)
          refine ⟨.va (.int x), t5, ?_, ?_, rfl, ht5⟩
          · rw [List.length_append, List.length_singleton, hz]; exact hS
          · rw [List.length_append, List.length_singleton, hz]
      · rintro r ⟨t4, t5, hS, rfl, ht4, ht5⟩
        rw [irange_len, show (((c.length : Nat) : Int) - 0).toNat = c.length by omega, Sm_len hc hg] at hS
        omega
    · repeat fail
      have hz : ∀ x ∈ c, x = 0 := all0_sum hc (by omega)
      rw [M_all0 hz] at hk
      obtain ⟨q1, q2⟩ := hI [] hz (by show 0 = k; omega)
      rw [List.append_nil] at q1 q2
      exact ⟨fd, q1, q2, rfl, rfl⟩
  obtain ⟨d, o, z, t, h1, h2, rfl, rfl⟩ := key.sure
  exact ⟨t, h1, h2, z⟩
theorem text_badR (n : Nat) (hn : 2 ≤ n) (s : List D → D) (hs : Sq s) (c : List Int) (d : D) (hl : c.length ≤ 1000) (hc : ¬ Nn c) :
    callF P Y n "text_at" [s (c.map .int), d] = .exc ⟨"BadRow", .str "counts"⟩ [s (c.map .int), d] := by
  obtain ⟨n, rfl, hm⟩ := ex_succ hn
  rw [c_text_at]
  refine WR.eqx (fn_at [.va _, .va _, .un, .un, .un, .un, .un] rfl ?_)
  dsimp only [f8]
  repeat fail
  refine lc_allK rfl _ rfl rfl .bl (fun v : Int => decide (0 ≤ v)) (le_SZ (by omega)) (fun x hx => ⟨_, rfl, rfl, ?_⟩) ?_
  · repeat fail
    rfl
  repeat fail
  refine ifT ?_ ?_
  · have : c.all (fun v => decide (0 ≤ v)) = false := by
      cases z : c.all (fun v => decide (0 ≤ v)) with
      | false => rfl
      | true => exact absurd (fun x m => by simpa using List.all_eq_true.mp z x m) hc
    rw [this]; rfl
  repeat fail
  rfl
theorem text_badN (n : Nat) (hn : 2 ≤ n) (s : List D → D) (hs : Sq s) (c : List Int) (k : Int) (hl : c.length ≤ 1000) (hc : Nn c) (hs0 : c.sum ≤ 1000) (hk : k < 0 ∨ (M c : Int) ≤ k) :
    callF P Y n "text_at" [s (c.map .int), .int k] = .exc ⟨"BadNumber", .str "index"⟩ [s (c.map .int), .int k] := by
  obtain ⟨n, rfl, hm⟩ := ex_succ hn
  rw [c_text_at]
  refine WR.eqx (fn_at [.va _, .va _, .un, .un, .un, .un, .un] rfl ?_)
  dsimp only [f8]
  repeat fail
  refine lc_allK rfl _ rfl rfl .bl (fun v : Int => decide (0 ≤ v)) (le_SZ (by omega)) (fun x hx => ⟨_, rfl, rfl, ?_⟩) ?_
  · repeat fail
    rfl
  repeat fail
  refine ifF (by rw [List.all_eq_true.mpr (fun x m => decide_eq_true (hc x m))]; rfl) ?_
  repeat fail
  refine ifD (fun hp => ?_) (fun hp => ?_)
  · repeat fail
    refine WR.ret (orders_ok n (by omega) c hc hs0) ?_
    repeat fail
    rfl
  · repeat fail
    rfl
end Pk30

set_option linter.all false
set_option maxRecDepth 100000
set_option maxHeartbeats 0
namespace Pk30
open CW
-- step<
local macro_rules | `(tactic| fail "o") => `(tactic| first
  | ((with_reducible refine le_SZ ?_); first | exact Nat.le_of_ble_eq_true rfl | omega | (simp only [List.length_map, List.length_cons, List.length_nil, List.length_append, List.length_range, List.length_take, List.length_drop, List.length_dropLast, List.length_reverse] at *; omega))
  | ((with_reducible refine lt_SZ ?_); first | exact Nat.le_of_ble_eq_true rfl | omega | (simp only [List.length_map, List.length_cons, List.length_nil, List.length_append, List.length_range, List.length_take, List.length_drop, List.length_dropLast, List.length_reverse] at *; omega)))
local macro_rules | `(tactic| fail "s") => `(tactic| first
  | with_reducible exact s_add
  | with_reducible exact s_sub
  | with_reducible exact s_lt
  | with_reducible exact s_le
  | with_reducible exact s_gt
  | with_reducible exact s_ge
  | with_reducible exact s_eq
  | with_reducible exact s_ne
  | ((with_reducible apply s_mod); omega)
  | ((with_reducible apply s_div); omega; omega)
  | ((with_reducible apply s_mulR); first | exact small_of (by omega) (by omega) | exact small_of (by decide) (by decide))
  | ((with_reducible apply s_mulL); exact small_of (by omega) (by omega))
  | with_reducible exact s_eqs
  | with_reducible exact s_nes
  | with_reducible exact s_eqb
  | with_reducible exact s_neb
  | with_reducible exact s_isb
  | with_reducible exact s_nisb
  | with_reducible exact s_inI
  | with_reducible exact s_nin2
  | with_reducible exact s_in2
  | with_reducible exact s_b2i
  | with_reducible exact s_i2i
  | with_reducible exact s_max2
  | with_reducible exact s_min2
  | with_reducible exact s_lenm
  | with_reducible exact s_lenTm
  | with_reducible exact s_len
  | with_reducible exact s_lenT
  | with_reducible exact s_sumI
  | with_reducible exact s_sumT
  | with_reducible exact s_all
  | with_reducible exact s_any
  | with_reducible exact s_eqN
  | with_reducible exact s_neN
  | with_reducible exact s_eqL
  | with_reducible exact s_neL
  | with_reducible exact s_eqU
  | with_reducible exact s_neU
  | ((with_reducible apply s_band); omega; omega)
  | ((with_reducible apply s_bxor); omega; omega)
  | ((with_reducible apply s_ixm); omega; omega)
  | ((with_reducible apply s_ixTm); omega; omega)
  | ((with_reducible apply s_catm); fail "o")
  | ((with_reducible apply s_catU); fail "o")
  | ((with_reducible apply s_cat1); fail "o")
  | ((with_reducible apply s_catU1); fail "o")
  | ((with_reducible apply s_cat2); fail "o")
  | ((with_reducible apply s_catU2); fail "o")
  | ((with_reducible apply s_catm'); fail "o")
  | ((with_reducible apply s_cat1'); fail "o")
  | ((with_reducible apply s_cat); fail "o")
  | ((with_reducible apply s_catT); fail "o")
  | ((with_reducible apply s_cat'); fail "o")
  | ((with_reducible apply s_rep); omega; omega; fail "o")
  | ((with_reducible apply s_repT); (intro h; cases h); omega; omega; exact Nat.le_of_ble_eq_true rfl)
  | exact s_ix (by decide) rfl
  | exact s_ixT (by decide) rfl
  | rfl
  | ((with_reducible apply s_lenS); assumption)
  | ((with_reducible apply s_sumS); assumption)
  | ((with_reducible apply s_listS); assumption)
  | ((with_reducible apply s_tupleS); assumption)
  | ((with_reducible apply s_ixS); assumption; omega; omega)
  | ((with_reducible apply s_catS); assumption; fail "o"))
local macro_rules | `(tactic| fail) => `(tactic| first
  | ((with_reducible refine kE ?_); first
    | ((with_reducible refine gVar ?_); refine w_var rfl ?_) | with_reducible refine w_op2 ?_ | with_reducible refine w_int ?_ | with_reducible refine w_op1 ?_ | with_reducible refine w_cst ?_ | with_reducible refine w_call ?_ | with_reducible refine w_str ?_ | with_reducible refine w_cons ?_ | with_reducible refine w_fld ?_ | with_reducible refine w_tup ?_ | with_reducible refine w_bl ?_ | with_reducible refine w_non ?_ | with_reducible refine w_bop ?_ | with_reducible refine w_b1 ?_ | with_reducible refine w_b2 ?_ | with_reducible refine w_ite ?_ | with_reducible refine w_lst ?_ | with_reducible refine w_nil ?_ | with_reducible refine w_chain ?_ | with_reducible refine w_meth ?_ | with_reducible refine w_sl ?_ | with_reducible refine w_onone ?_ | with_reducible refine w_osome ?_ | with_reducible refine w_isi ?_ | with_reducible refine w_make ?_ | with_reducible refine w_lrng ?_ | with_reducible refine w_eqo ?_ | with_reducible refine w_lm ?_ | with_reducible refine w_lc ?_ | ((with_reducible refine gFrz ?_); (first | refine w_frz rfl ?_ | refine w_frzv rfl ?_)) | ((with_reducible refine gPop ?_); refine w_pop rfl ?_) | ((with_reducible refine gPopAt ?_); refine w_popAt rfl ?_) | ((with_reducible refine gMethR ?_); refine w_methR rfl rfl ?_))
  | ((with_reducible refine kP ?_); first
    | ((with_reducible refine gPk ?_); refine pk_var rfl ?_) | with_reducible refine pk_e ?_)
  | ((with_reducible refine kC ?_); first
    | ((with_reducible refine And.intro ?_ ?_); (first | with_reducible rfl | ((with_reducible refine q_okR ?_ ?_ ?_ ?_); omega; omega; omega; omega) | fail "o" | ((with_reducible refine eqG ?_); rfl))) | ((with_reducible refine ifT ?_ ?_); (first | with_reducible rfl | with_reducible exact bnt | exact decide_eq_true (by omega) | exact ndT (by omega) | exact decide_eq_true (by decide))) | ((with_reducible refine anT ?_ ?_); (first | with_reducible rfl | with_reducible exact bnt | exact decide_eq_true (by omega) | exact ndT (by omega) | exact decide_eq_true (by decide))) | ((with_reducible refine orT ?_ ?_); (first | with_reducible rfl | with_reducible exact bnt | exact decide_eq_true (by omega) | exact ndT (by omega) | exact decide_eq_true (by decide))) | ((with_reducible refine ifF ?_ ?_); (first | with_reducible rfl | with_reducible exact bnf | exact decide_eq_false (by omega) | exact ndF (by omega) | exact decide_eq_false (by decide))) | ((with_reducible refine anF ?_ ?_); (first | with_reducible rfl | with_reducible exact bnf | exact decide_eq_false (by omega) | exact ndF (by omega) | exact decide_eq_false (by decide))) | ((with_reducible refine orF ?_ ?_); (first | with_reducible rfl | with_reducible exact bnf | exact decide_eq_false (by omega) | exact ndF (by omega) | exact decide_eq_false (by decide))))
  | ((with_reducible refine kX ?_); first
    | ((with_reducible apply ex2); rfl; rfl; fail "s") | ((with_reducible apply ex1); rfl; fail "s") | ((with_reducible apply ex2b); rfl; rfl; fail "s") | ((with_reducible apply exF); rfl; rfl; rfl) | ((with_reducible apply exA); rfl; rfl) | ((with_reducible apply exR); rfl) | ((with_reducible apply exR); exact seqOf_S (by assumption)) | ((with_reducible apply exN); rfl; rfl) | ((with_reducible apply exT); rfl; rfl) | ((with_reducible apply exI); rfl; rfl) | ((with_reducible apply exRR); rfl; rfl) | ((with_reducible apply exX); rfl; rfl; (first | ((with_reducible apply setL_map); omega; omega) | rfl)) | ((with_reducible apply exS); rfl; (first | ((with_reducible apply sl_from); omega) | ((with_reducible apply sl_to); omega) | ((with_reducible apply sl_mid); omega; omega) | with_reducible exact sl_last | ((with_reducible apply sl_fromL); omega) | ((with_reducible apply sl_toL); omega) | ((with_reducible apply sl_midL); omega; omega) | with_reducible exact sl_lastL | ((with_reducible apply sl_fromS); assumption; omega) | ((with_reducible apply sl_toS); assumption; omega) | ((with_reducible apply sl_midS); assumption; omega; omega) | rfl)) | ((with_reducible apply exM); rfl; rfl) | ((with_reducible apply exMo); rfl; rfl) | ((with_reducible apply exSF); rfl; rfl; exact Nat.le_of_ble_eq_true rfl; rfl) | ((with_reducible apply exP); rfl; fail "o"))
  | with_reducible refine s_cons ?_
  | ((with_reducible refine kS ?_); first
    | with_reducible refine s_set ?_ | with_reducible refine s_ifs ?_ | with_reducible refine s_ret ?_ | with_reducible refine s_setN ?_ | with_reducible refine s_for ?_ | with_reducible refine s_exp ?_ | with_reducible refine s_unp ?_ | with_reducible refine s_rse ?_ | with_reducible refine s_par ?_ | with_reducible refine s_setix ?_ | with_reducible refine s_swap ?_ | with_reducible refine s_setf ?_ | with_reducible refine s_ret0 ?_ | with_reducible refine s_pass ?_ | with_reducible refine s_brk ?_ | with_reducible refine s_cnt ?_ | ((with_reducible refine gApp ?_); refine s_app rfl ?_) | ((with_reducible refine gExt ?_); refine s_ext rfl ?_) | ((with_reducible refine gIns0 ?_); refine s_ins0 rfl ?_) | ((with_reducible refine gRvs ?_); refine s_rvs rfl ?_) | ((with_reducible refine gRetNv ?_); refine s_retNv rfl ?_) | ((with_reducible refine gRetN ?_); refine s_retN (by intro i e; cases e) ?_))
  | with_reducible refine s_nil ?_
  | ((with_reducible refine kT ?_); first
    | with_reducible refine t_cmp ?_ | with_reducible refine t_bop ?_ | with_reducible refine t_not ?_ | with_reducible refine t_tr ?_ | with_reducible refine t_chain ?_ | with_reducible refine t_cmpN ?_ | with_reducible refine t_eqo ?_)
  | ((with_reducible refine kH ?_); first
    | ((with_reducible refine h_hit ?_ ?_); rfl) | ((with_reducible refine h_miss ?_ ?_); rfl))
  | with_reducible refine s_try ?_
  | with_reducible refine w_cons ?_
  | with_reducible refine w_nil ?_
  | with_reducible refine t_one ?_
  | with_reducible refine t_cons ?_
  | with_reducible refine t_nil ?_
  | with_reducible refine w_b1 ?_
  | with_reducible refine w_b2 ?_
  | with_reducible refine w_onone ?_
  | with_reducible refine w_osome ?_
  | with_reducible refine wa_v ?_
  | with_reducible refine wa_nil ?_
  | ((with_reducible refine gAr ?_); refine wa_r rfl ?_)
  | ((with_reducible refine gAt ?_); refine wa_t (by intro i e; cases e) ?_)
  | ((with_reducible refine kI ?_); first
    | with_reducible refine i_seqL ?_ | with_reducible refine i_enum ?_ | with_reducible refine i_zip ?_ | with_reducible refine i_rev ?_ | with_reducible refine i_rng3 ?_ | with_reducible refine j_rng1 ?_ | with_reducible refine j_rng2 ?_ | ((with_reducible refine gLive ?_); (first | refine i_liveV rfl rfl ?_ | refine i_liveO rfl ?_))))
local macro_rules | `(tactic| fail "d") => `(tactic| first
  | fail | with_reducible refine ifD (fun h => ?_) (fun h => ?_) | with_reducible refine ifN (fun h => ?_) (fun h => ?_) | with_reducible refine anD (fun h => ?_) (fun h => ?_) | with_reducible refine anN (fun h => ?_) (fun h => ?_) | with_reducible refine orD (fun h => ?_) (fun h => ?_) | with_reducible refine orN (fun h => ?_) (fun h => ?_))
-- >step
def eTL (x : TL) : D := .tup [.tup (x.1.map .int), .tup (x.2.map .int)]
theorem exK_len (x : TL) (k : Nat) : (exK x k).length ≤ k := by
  unfold exK
  rw [List.length_map]
  refine Nat.le_trans (List.length_filter_le _ _) ?_
  rw [irange_len]; omega
theorem lay_snd : ∀ (n : Nat) (f : List TL) (m : Nat), (∀ x ∈ f, x.2.length = m) → ∀ y ∈ lay n f, y.2.length = m
  | 0, f, m, h, y, hy => h y hy
  | n + 1, f, m, h, y, hy => by
    refine lay_snd n _ m (fun x hx => ?_) y hy
    obtain ⟨z, hz, q⟩ := List.mem_flatMap.mp hx
    unfold exts exK at q
    obtain ⟨l, _, rfl⟩ := List.mem_map.mp q
    show (dec _ _).length = m
    rw [dec_len]; exact h z hz
theorem lay_one_len : ∀ (n : Nat) (f : List TL) (m : Nat), (∀ x ∈ f, x.1.length = m) → ∀ y ∈ lay n f, y.1.length = m + n
  | 0, f, m, h, y, hy => h y hy
  | n + 1, f, m, h, y, hy => by
    rw [lay_one_len n _ (m + 1) (fun x hx => ?_) y hy]
    · omega
    obtain ⟨z, hz, q⟩ := List.mem_flatMap.mp hx
    unfold exts exK at q
    obtain ⟨l, _, rfl⟩ := List.mem_map.mp q
    show (z.1 ++ [l]).length = m + 1
    rw [List.length_append, h z hz]; rfl
theorem flat_len {m : Nat} : ∀ (f : List TL), (∀ x ∈ f, x.2.length = m) → (f.flatMap exts).length ≤ f.length * m
  | [], _ => by simp
  | x :: f, h => by
    have i := flat_len f fun y q => h y (List.mem_cons_of_mem _ q)
    have e := exK_len x x.2.length
    rw [h x List.mem_cons_self] at e
    rw [List.flatMap_cons, List.length_append, List.length_cons, Nat.add_mul]
    unfold exts at i ⊢
    rw [h x List.mem_cons_self]
    omega
theorem lay_len_le {m : Nat} : ∀ (n : Nat) (f : List TL), (∀ x ∈ f, x.2.length = m) → (lay n f).length ≤ f.length * m ^ n
  | 0, f, _ => by simp [lay]
  | n + 1, f, h => by
    have i := lay_len_le n f h
    rw [lay_succ]
    refine Nat.le_trans (flat_len _ (lay_snd n f m h)) ?_
    rw [Nat.pow_succ, ← Nat.mul_assoc]
    exact Nat.mul_le_mul_right m i
theorem lay_4 {n : Nat} {c : List Int} (hc : c.length ≤ 4) (hn : n ≤ 7) : (lay n [(([] : List Int), c)]).length ≤ 16384 := by
  have := lay_len_le (m := c.length) n [(([] : List Int), c)] (by simp)
  have h2 : c.length ^ n ≤ 4 ^ n := Nat.pow_le_pow_left hc n
  have h3 : 4 ^ n ≤ 4 ^ 7 := Nat.pow_le_pow_right (by omega) hn
  have h4 : (4 : Nat) ^ 7 = 16384 := by decide
  simp only [List.length_cons, List.length_nil] at this
  omega
theorem set_eq {c : List Int} {i : Nat} (h : i < c.length) (v : Int) : c.take i ++ [v] ++ c.drop (i + 1) = c.set i v := by
  rw [List.set_eq_take_append_cons_drop, if_pos h]; simp
theorem texts_ok (n : Nat) (hn : 1 ≤ n) (s : List D → D) (hs : Sq s) (c : List Int) (hc : Nn c) (h7 : c.sum ≤ 7) (h4 : c.length ≤ 4) :
    callF P Y n "_law_texts" [s (c.map .int)] = .ret (.lst (((lay c.sum.toNat [([], c)]).map Prod.fst).map fun t => .tup (t.map .int))) [s (c.map .int)] := by
  obtain ⟨n, rfl, hm⟩ := ex_succ hn
  rw [c__law_texts]
  have h0 := hc.sum
  refine WR.eq (fn_at [.va _, .un, .un, .un, .un, .un, .un] rfl ?_)
  dsimp only [f19]
  repeat fail
  refine fl_pre rfl (fun pr r => ∃ t2 t3 t4 t5 t6, r = [.va (s (c.map .int)), .va (.lst ((lay pr.length [([], c)]).map eTL)), t2, t3, t4, t5, t6] ∧ free t2 = true ∧ free t3 = true ∧ free t4 = true ∧ free t5 = true ∧ free t6 = true) ⟨.un, .un, .un, .un, .un, rfl, rfl, rfl, rfl, rfl, rfl⟩ ?_ ?_
  · rintro pr a post r e ⟨t2, t3, t4, t5, t6, rfl, ht2, ht3, ht4, ht5, ht6⟩
    obtain ⟨k1, k2⟩ := irange_split e
    have hlay := lay_4 (n := pr.length) (c := c) h4 (by omega)
    have hsnd := lay_snd pr.length [([], c)] c.length (by simp)
    have hfst := lay_one_len pr.length [([], c)] 0 (by simp)
    have hsucc := lay_succ pr.length [([], c)]
    generalize hL : lay pr.length [([], c)] = L at *
    refine ⟨[.va (s (c.map .int)), .va (.lst (L.map eTL)), .va (.int a), t3, t4, t5, t6], by simp [setTg, CW.get, ht2, put], ?_⟩
    repeat fail
    refine ⟨ht3, ?_⟩
    dsimp only [put]
    repeat fail
    refine fl_pre rfl (fun p2 r => ∃ t4 t5 t6, r = [.va (s (c.map .int)), .va (.lst (L.map eTL)), .va (.int a), .ow false (.lst ((p2.flatMap exts).map eTL)), t4, t5, t6] ∧ free t4 = true ∧ free t5 = true ∧ free t6 = true) ⟨t4, t5, t6, rfl, ht4, ht5, ht6⟩ ?_ ?_
    · rintro p2 ⟨x, y⟩ po2 r e2 ⟨t4, t5, t6, rfl, ht4, ht5, ht6⟩
      have hp2 : (p2.flatMap exts).length ≤ p2.length * c.length := flat_len p2 fun z q => hsnd z (by rw [e2]; exact List.mem_append_left _ q)
      have hy : y.length = c.length := hsnd (x, y) (by rw [e2]; simp)
      have hx7 : x.length = 0 + pr.length := hfst (x, y) (by rw [e2]; simp)
      have hpl : p2.length ≤ 16384 := by
        have : L.length = p2.length + (po2.length + 1) := by rw [e2]; simp
        omega
      have hb : (p2.flatMap exts).length ≤ 16384 * 4 := Nat.le_trans hp2 (Nat.mul_le_mul hpl h4)
      refine ⟨[.va (s (c.map .int)), .va (.lst (L.map eTL)), .va (.int a), .ow false (.lst ((p2.flatMap exts).map eTL)), .va (.tup (x.map .int)), .va (.tup (y.map .int)), t6], by simp [setTg, CW.get, ht4, ht5, put, eTL], ?_⟩
      repeat fail
      refine fl_pre rfl (fun p3 r => ∃ t6, r = [.va (s (c.map .int)), .va (.lst (L.map eTL)), .va (.int a), .ow false (.lst ((p2.flatMap exts ++ exK (x, y) p3.length).map eTL)), .va (.tup (x.map .int)), .va (.tup (y.map .int)), t6] ∧ free t6 = true) ⟨t6, by rw [show exK (x, y) ([] : List Int).length = [] from rfl, List.append_nil], ht6⟩ ?_ ?_
      · rintro p3 z po3 r e3 ⟨t6, rfl, ht6⟩
        obtain ⟨z1, z2⟩ := irange_split e3
        refine ⟨[.va (s (c.map .int)), .va (.lst (L.map eTL)), .va (.int a), .ow false (.lst ((p2.flatMap exts ++ exK (x, y) p3.length).map eTL)), .va (.tup (x.map .int)), .va (.tup (y.map .int)), .va (.int z)], by simp [setTg, CW.get, ht6, put], ?_⟩
        have hk := exK_len (x, y) p3.length
        have hzn : z.toNat = p3.length := by omega
        have hex := exK_succ (x, y) p3.length
        rw [← hzn] at hex
        dsimp only at hex
        have hsz : (p2.flatMap exts ++ exK (x, y) p3.length).length < 1000000 := by rw [List.length_append]; omega
        repeat fail
        refine ifD (fun hg => ?_) (fun hg => ?_)
        · rw [if_pos hg] at hex
          have hse := set_eq (c := y) (i := z.toNat) (by omega) (y[z.toNat]! - 1)
          repeat fail
          refine ⟨.va (.int z), ?_, rfl⟩
          rw [show (z + 1).toNat = z.toNat + 1 by omega, hse, List.length_append, List.length_singleton, ← hzn, hex, ← List.append_assoc, List.map_append (l₁ := p2.flatMap exts ++ exK (x, y) z.toNat), show ((z.toNat : Nat) : Int) = z by omega]
          rfl
        · rw [if_neg hg, List.append_nil] at hex
          repeat fail
          refine ⟨.va (.int z), ?_, rfl⟩
          rw [List.length_append, List.length_singleton, ← hzn, hex]
      · rintro r ⟨t6, rfl, ht6⟩
        rw [irange_len, show (((y.length : Nat) : Int) - 0).toNat = y.length by omega]
        repeat fail
        refine ⟨.va (.tup (x.map .int)), .va (.tup (y.map .int)), t6, ?_, rfl, rfl, ht6⟩
        rw [List.flatMap_append, List.flatMap_cons, List.flatMap_nil, List.append_nil]
        rfl
    · rintro r ⟨t4, t5, t6, rfl, ht4, ht5, ht6⟩
      repeat fail
      refine ⟨.va (.int a), .va (.lst ((L.flatMap exts).map eTL)), t4, t5, t6, ?_, rfl, rfl, ht4, ht5, ht6⟩
      rw [List.length_append, List.length_singleton, hsucc]
      rfl
  · rintro r ⟨t2, t3, t4, t5, t6, rfl, ht2, ht3, ht4, ht5, ht6⟩
    have hlay := lay_4 (n := c.sum.toNat) (c := c) h4 (by omega)
    rw [irange_len, show (c.sum - 0).toNat = c.sum.toNat by omega]
    repeat fail
    refine lc_all rfl [.va (s (c.map .int)), .va (.lst ((lay c.sum.toNat [([], c)]).map eTL)), t2, t3, .un, .un, t6] rfl (fun t : List Int => .tup (t.map .int)) Prod.fst (le_SZ (by omega)) (fun x hx => ⟨_, rfl, rfl, ?_⟩) ?_
    · repeat fail
      rfl
    repeat fail
    rfl
theorem findIdx_map {α β : Type} (f : α → β) (p : β → Bool) : ∀ l : List α, (l.map f).findIdx? p = l.findIdx? fun x => p (f x)
  | [] => rfl
  | x :: l => by
    rw [List.map_cons, List.findIdx?_cons, List.findIdx?_cons, findIdx_map f p l]
theorem index_ok (c t : List Int) (hc : Nn c) (hf : Ft c t) : semLm .index (.lst (((lay c.sum.toNat [([], c)]).map Prod.fst).map fun t => .tup (t.map .int))) (.tup (t.map .int)) = some (.int (R c t)) := by
  have e := enc_tup (n := 39) (enc_int (n := 39))
  have h1 : dOk 40 (.tup (t.map .int)) = true := e.ok t
  have h2 := dsOk_map (n := 40) e ((lay c.sum.toNat [([], c)]).map Prod.fst)
  have hl := ft_len hf
  have hi := lay_idx t [] c hc hf
  show (if _ then _ else _) = _
  rw [h1, h2]
  have : (((lay c.sum.toNat [([], c)]).map Prod.fst).map fun t => D.tup (t.map .int)).findIdx? (fun z => deq z (.tup (t.map .int))) = some (R c t) := by
    rw [findIdx_map, findIdx_map, ← hi, hl, Int.toNat_natCast]
    congr 1
    funext x
    have q := e.eq x.1 t
    by_cases z : x.1 = t
    · rw [decide_eq_true (by simpa using z)]
      exact q.mpr z
    · rw [decide_eq_false (by simpa using z)]
      exact Bool.eq_false_iff.mpr fun w => z (q.mp w)
  rw [this]
  rfl
end Pk30

set_option linter.all false
set_option maxRecDepth 100000
set_option maxHeartbeats 0
namespace Pk30
open CW
-- step<
local macro_rules | `(tactic| fail "o") => `(tactic| first
  | ((with_reducible refine le_SZ ?_); first | exact Nat.le_of_ble_eq_true rfl | omega | (simp only [List.length_map, List.length_cons, List.length_nil, List.length_append, List.length_range, List.length_take, List.length_drop, List.length_dropLast, List.length_reverse] at *; omega))
  | ((with_reducible refine lt_SZ ?_); first | exact Nat.le_of_ble_eq_true rfl | omega | (simp only [List.length_map, List.length_cons, List.length_nil, List.length_append, List.length_range, List.length_take, List.length_drop, List.length_dropLast, List.length_reverse] at *; omega)))
local macro_rules | `(tactic| fail "s") => `(tactic| first
  | with_reducible exact s_add
  | with_reducible exact s_sub
  | with_reducible exact s_lt
  | with_reducible exact s_le
  | with_reducible exact s_gt
  | with_reducible exact s_ge
  | with_reducible exact s_eq
  | with_reducible exact s_ne
  | ((with_reducible apply s_mod); omega)
  | ((with_reducible apply s_div); omega; omega)
  | ((with_reducible apply s_mulR); first | exact small_of (by omega) (by omega) | exact small_of (by decide) (by decide))
  | ((with_reducible apply s_mulL); exact small_of (by omega) (by omega))
  | with_reducible exact s_eqs
  | with_reducible exact s_nes
  | with_reducible exact s_eqb
  | with_reducible exact s_neb
  | with_reducible exact s_isb
  | with_reducible exact s_nisb
  | with_reducible exact s_inI
  | with_reducible exact s_nin2
  | with_reducible exact s_in2
  | with_reducible exact s_b2i
  | with_reducible exact s_i2i
  | with_reducible exact s_max2
  | with_reducible exact s_min2
  | with_reducible exact s_lenm
  | with_reducible exact s_lenTm
  | with_reducible exact s_len
  | with_reducible exact s_lenT
  | with_reducible exact s_sumI
  | with_reducible exact s_sumT
  | with_reducible exact s_all
  | with_reducible exact s_any
  | with_reducible exact s_eqN
  | with_reducible exact s_neN
  | with_reducible exact s_eqL
  | with_reducible exact s_neL
  | with_reducible exact s_eqU
  | with_reducible exact s_neU
  | ((with_reducible apply s_band); omega; omega)
  | ((with_reducible apply s_bxor); omega; omega)
  | ((with_reducible apply s_ixm); omega; omega)
  | ((with_reducible apply s_ixTm); omega; omega)
  | ((with_reducible apply s_catm); fail "o")
  | ((with_reducible apply s_catU); fail "o")
  | ((with_reducible apply s_cat1); fail "o")
  | ((with_reducible apply s_catU1); fail "o")
  | ((with_reducible apply s_cat2); fail "o")
  | ((with_reducible apply s_catU2); fail "o")
  | ((with_reducible apply s_catm'); fail "o")
  | ((with_reducible apply s_cat1'); fail "o")
  | ((with_reducible apply s_cat); fail "o")
  | ((with_reducible apply s_catT); fail "o")
  | ((with_reducible apply s_cat'); fail "o")
  | ((with_reducible apply s_rep); omega; omega; fail "o")
  | ((with_reducible apply s_repT); (intro h; cases h); omega; omega; exact Nat.le_of_ble_eq_true rfl)
  | exact s_ix (by decide) rfl
  | exact s_ixT (by decide) rfl
  | rfl
  | ((with_reducible apply s_lenS); assumption)
  | ((with_reducible apply s_sumS); assumption)
  | ((with_reducible apply s_listS); assumption)
  | ((with_reducible apply s_tupleS); assumption)
  | ((with_reducible apply s_ixS); assumption; omega; omega)
  | ((with_reducible apply s_catS); assumption; fail "o"))
local macro_rules | `(tactic| fail) => `(tactic| first
  | ((with_reducible refine kE ?_); first
    | ((with_reducible refine gVar ?_); refine w_var rfl ?_) | with_reducible refine w_op2 ?_ | with_reducible refine w_int ?_ | with_reducible refine w_op1 ?_ | with_reducible refine w_cst ?_ | with_reducible refine w_call ?_ | with_reducible refine w_str ?_ | with_reducible refine w_cons ?_ | with_reducible refine w_fld ?_ | with_reducible refine w_tup ?_ | with_reducible refine w_bl ?_ | with_reducible refine w_non ?_ | with_reducible refine w_bop ?_ | with_reducible refine w_b1 ?_ | with_reducible refine w_b2 ?_ | with_reducible refine w_ite ?_ | with_reducible refine w_lst ?_ | with_reducible refine w_nil ?_ | with_reducible refine w_chain ?_ | with_reducible refine w_meth ?_ | with_reducible refine w_sl ?_ | with_reducible refine w_onone ?_ | with_reducible refine w_osome ?_ | with_reducible refine w_isi ?_ | with_reducible refine w_make ?_ | with_reducible refine w_lrng ?_ | with_reducible refine w_eqo ?_ | with_reducible refine w_lm ?_ | with_reducible refine w_lc ?_ | ((with_reducible refine gFrz ?_); (first | refine w_frz rfl ?_ | refine w_frzv rfl ?_)) | ((with_reducible refine gPop ?_); refine w_pop rfl ?_) | ((with_reducible refine gPopAt ?_); refine w_popAt rfl ?_) | ((with_reducible refine gMethR ?_); refine w_methR rfl rfl ?_))
  | ((with_reducible refine kP ?_); first
    | ((with_reducible refine gPk ?_); refine pk_var rfl ?_) | with_reducible refine pk_e ?_)
  | ((with_reducible refine kC ?_); first
    | ((with_reducible refine And.intro ?_ ?_); (first | with_reducible rfl | ((with_reducible refine q_okR ?_ ?_ ?_ ?_); omega; omega; omega; omega) | fail "o" | ((with_reducible refine eqG ?_); rfl))) | ((with_reducible refine ifT ?_ ?_); (first | with_reducible rfl | with_reducible exact bnt | exact decide_eq_true (by omega) | exact ndT (by omega) | exact decide_eq_true (by decide))) | ((with_reducible refine anT ?_ ?_); (first | with_reducible rfl | with_reducible exact bnt | exact decide_eq_true (by omega) | exact ndT (by omega) | exact decide_eq_true (by decide))) | ((with_reducible refine orT ?_ ?_); (first | with_reducible rfl | with_reducible exact bnt | exact decide_eq_true (by omega) | exact ndT (by omega) | exact decide_eq_true (by decide))) | ((with_reducible refine ifF ?_ ?_); (first | with_reducible rfl | with_reducible exact bnf | exact decide_eq_false (by omega) | exact ndF (by omega) | exact decide_eq_false (by decide))) | ((with_reducible refine anF ?_ ?_); (first | with_reducible rfl | with_reducible exact bnf | exact decide_eq_false (by omega) | exact ndF (by omega) | exact decide_eq_false (by decide))) | ((with_reducible refine orF ?_ ?_); (first | with_reducible rfl | with_reducible exact bnf | exact decide_eq_false (by omega) | exact ndF (by omega) | exact decide_eq_false (by decide))))
  | ((with_reducible refine kX ?_); first
    | ((with_reducible apply ex2); rfl; rfl; fail "s") | ((with_reducible apply ex1); rfl; fail "s") | ((with_reducible apply ex2b); rfl; rfl; fail "s") | ((with_reducible apply exF); rfl; rfl; rfl) | ((with_reducible apply exA); rfl; rfl) | ((with_reducible apply exR); rfl) | ((with_reducible apply exR); exact seqOf_S (by assumption)) | ((with_reducible apply exN); rfl; rfl) | ((with_reducible apply exT); rfl; rfl) | ((with_reducible apply exI); rfl; rfl) | ((with_reducible apply exRR); rfl; rfl) | ((with_reducible apply exX); rfl; rfl; (first | ((with_reducible apply setL_map); omega; omega) | rfl)) | ((with_reducible apply exS); rfl; (first | ((with_reducible apply sl_from); omega) | ((with_reducible apply sl_to); omega) | ((with_reducible apply sl_mid); omega; omega) | with_reducible exact sl_last | ((with_reducible apply sl_fromL); omega) | ((with_reducible apply sl_toL); omega) | ((with_reducible apply sl_midL); omega; omega) | with_reducible exact sl_lastL | ((with_reducible apply sl_fromS); assumption; omega) | ((with_reducible apply sl_toS); assumption; omega) | ((with_reducible apply sl_midS); assumption; omega; omega) | rfl)) | ((with_reducible apply exM); rfl; rfl) | ((with_reducible apply exMo); rfl; rfl) | ((with_reducible apply exSF); rfl; rfl; exact Nat.le_of_ble_eq_true rfl; rfl) | ((with_reducible apply exP); rfl; fail "o"))
  | with_reducible refine s_cons ?_
  | ((with_reducible refine kS ?_); first
    | with_reducible refine s_set ?_ | with_reducible refine s_ifs ?_ | with_reducible refine s_ret ?_ | with_reducible refine s_setN ?_ | with_reducible refine s_for ?_ | with_reducible refine s_exp ?_ | with_reducible refine s_unp ?_ | with_reducible refine s_rse ?_ | with_reducible refine s_par ?_ | with_reducible refine s_setix ?_ | with_reducible refine s_swap ?_ | with_reducible refine s_setf ?_ | with_reducible refine s_ret0 ?_ | with_reducible refine s_pass ?_ | with_reducible refine s_brk ?_ | with_reducible refine s_cnt ?_ | ((with_reducible refine gApp ?_); refine s_app rfl ?_) | ((with_reducible refine gExt ?_); refine s_ext rfl ?_) | ((with_reducible refine gIns0 ?_); refine s_ins0 rfl ?_) | ((with_reducible refine gRvs ?_); refine s_rvs rfl ?_) | ((with_reducible refine gRetNv ?_); refine s_retNv rfl ?_) | ((with_reducible refine gRetN ?_); refine s_retN (by intro i e; cases e) ?_))
  | with_reducible refine s_nil ?_
  | ((with_reducible refine kT ?_); first
    | with_reducible refine t_cmp ?_ | with_reducible refine t_bop ?_ | with_reducible refine t_not ?_ | with_reducible refine t_tr ?_ | with_reducible refine t_chain ?_ | with_reducible refine t_cmpN ?_ | with_reducible refine t_eqo ?_)
  | ((with_reducible refine kH ?_); first
    | ((with_reducible refine h_hit ?_ ?_); rfl) | ((with_reducible refine h_miss ?_ ?_); rfl))
  | with_reducible refine s_try ?_
  | with_reducible refine w_cons ?_
  | with_reducible refine w_nil ?_
  | with_reducible refine t_one ?_
  | with_reducible refine t_cons ?_
  | with_reducible refine t_nil ?_
  | with_reducible refine w_b1 ?_
  | with_reducible refine w_b2 ?_
  | with_reducible refine w_onone ?_
  | with_reducible refine w_osome ?_
  | with_reducible refine wa_v ?_
  | with_reducible refine wa_nil ?_
  | ((with_reducible refine gAr ?_); refine wa_r rfl ?_)
  | ((with_reducible refine gAt ?_); refine wa_t (by intro i e; cases e) ?_)
  | ((with_reducible refine kI ?_); first
    | with_reducible refine i_seqL ?_ | with_reducible refine i_enum ?_ | with_reducible refine i_zip ?_ | with_reducible refine i_rev ?_ | with_reducible refine i_rng3 ?_ | with_reducible refine j_rng1 ?_ | with_reducible refine j_rng2 ?_ | ((with_reducible refine gLive ?_); (first | refine i_liveV rfl rfl ?_ | refine i_liveO rfl ?_))))
local macro_rules | `(tactic| fail "b") => `(tactic| first
  | ((with_reducible refine kE ?_); first
    | ((with_reducible refine gVar ?_); refine w_var rfl ?_) | with_reducible refine w_op2 ?_ | with_reducible refine w_int ?_ | with_reducible refine w_op1 ?_ | with_reducible refine w_cst ?_ | with_reducible refine w_call ?_ | with_reducible refine w_str ?_ | with_reducible refine w_cons ?_ | with_reducible refine w_fld ?_ | with_reducible refine w_tup ?_ | with_reducible refine w_bl ?_ | with_reducible refine w_non ?_ | with_reducible refine w_bop ?_ | with_reducible refine w_b1 ?_ | with_reducible refine w_b2 ?_ | with_reducible refine w_ite ?_ | with_reducible refine w_lst ?_ | with_reducible refine w_nil ?_ | with_reducible refine w_chain ?_ | with_reducible refine w_meth ?_ | with_reducible refine w_sl ?_ | with_reducible refine w_onone ?_ | with_reducible refine w_osome ?_ | with_reducible refine w_isi ?_ | with_reducible refine w_make ?_ | with_reducible refine w_lrng ?_ | with_reducible refine w_eqo ?_ | with_reducible refine w_lm ?_ | with_reducible refine w_lc ?_ | ((with_reducible refine gFrz ?_); (first | refine w_frz rfl ?_ | refine w_frzv rfl ?_)) | ((with_reducible refine gPop ?_); refine w_pop rfl ?_) | ((with_reducible refine gPopAt ?_); refine w_popAt rfl ?_) | ((with_reducible refine gMethR ?_); refine w_methR rfl rfl ?_))
  | ((with_reducible refine kP ?_); first
    | ((with_reducible refine gPk ?_); refine pk_var rfl ?_) | with_reducible refine pk_e ?_)
  | ((with_reducible refine kC ?_); first
    | ((with_reducible refine And.intro ?_ ?_); (first | with_reducible rfl | ((with_reducible refine q_okR ?_ ?_ ?_ ?_); omega; omega; omega; omega) | fail "o" | ((with_reducible refine eqG ?_); rfl))) | ((with_reducible refine ifT ?_ ?_); (first | with_reducible rfl | with_reducible exact bnt | exact decide_eq_true (by omega) | exact ndT (by omega) | exact decide_eq_true (by decide))) | ((with_reducible refine anT ?_ ?_); (first | with_reducible rfl | with_reducible exact bnt | exact decide_eq_true (by omega) | exact ndT (by omega) | exact decide_eq_true (by decide))) | ((with_reducible refine orT ?_ ?_); (first | with_reducible rfl | with_reducible exact bnt | exact decide_eq_true (by omega) | exact ndT (by omega) | exact decide_eq_true (by decide))) | ((with_reducible refine ifF ?_ ?_); (first | with_reducible rfl | with_reducible exact bnf | exact decide_eq_false (by omega) | exact ndF (by omega) | exact decide_eq_false (by decide))) | ((with_reducible refine anF ?_ ?_); (first | with_reducible rfl | with_reducible exact bnf | exact decide_eq_false (by omega) | exact ndF (by omega) | exact decide_eq_false (by decide))) | ((with_reducible refine orF ?_ ?_); (first | with_reducible rfl | with_reducible exact bnf | exact decide_eq_false (by omega) | exact ndF (by omega) | exact decide_eq_false (by decide))))
  | ((with_reducible refine kX ?_); first
    | ((with_reducible apply ex2); rfl; rfl; fail "s") | ((with_reducible apply ex1); rfl; fail "s") | ((with_reducible apply ex2b); rfl; rfl; fail "s") | ((with_reducible apply exF); rfl; rfl; rfl) | ((with_reducible apply exA); rfl; rfl) | ((with_reducible apply exR); rfl) | ((with_reducible apply exR); exact seqOf_S (by assumption)) | ((with_reducible apply exN); rfl; rfl) | ((with_reducible apply exT); rfl; rfl) | ((with_reducible apply exI); rfl; rfl) | ((with_reducible apply exRR); rfl; rfl) | ((with_reducible apply exX); rfl; rfl; (first | ((with_reducible apply setL_map); omega; omega) | rfl)) | ((with_reducible apply exS); rfl; (first | ((with_reducible apply sl_from); omega) | ((with_reducible apply sl_to); omega) | ((with_reducible apply sl_mid); omega; omega) | with_reducible exact sl_last | ((with_reducible apply sl_fromL); omega) | ((with_reducible apply sl_toL); omega) | ((with_reducible apply sl_midL); omega; omega) | with_reducible exact sl_lastL | ((with_reducible apply sl_fromS); assumption; omega) | ((with_reducible apply sl_toS); assumption; omega) | ((with_reducible apply sl_midS); assumption; omega; omega) | rfl)) | ((with_reducible apply exM); rfl; rfl) | ((with_reducible apply exMo); rfl; rfl) | ((with_reducible apply exSF); rfl; rfl; exact Nat.le_of_ble_eq_true rfl; rfl) | ((with_reducible apply exP); rfl; fail "o"))
  | ((with_reducible refine kS ?_); first
    | with_reducible refine s_set ?_ | with_reducible refine s_ifs ?_ | with_reducible refine s_ret ?_ | with_reducible refine s_setN ?_ | with_reducible refine s_for ?_ | with_reducible refine s_exp ?_ | with_reducible refine s_unp ?_ | with_reducible refine s_rse ?_ | with_reducible refine s_par ?_ | with_reducible refine s_setix ?_ | with_reducible refine s_swap ?_ | with_reducible refine s_setf ?_ | with_reducible refine s_ret0 ?_ | with_reducible refine s_pass ?_ | with_reducible refine s_brk ?_ | with_reducible refine s_cnt ?_ | ((with_reducible refine gApp ?_); refine s_app rfl ?_) | ((with_reducible refine gExt ?_); refine s_ext rfl ?_) | ((with_reducible refine gIns0 ?_); refine s_ins0 rfl ?_) | ((with_reducible refine gRvs ?_); refine s_rvs rfl ?_) | ((with_reducible refine gRetNv ?_); refine s_retNv rfl ?_) | ((with_reducible refine gRetN ?_); refine s_retN (by intro i e; cases e) ?_))
  | with_reducible refine s_nil ?_
  | ((with_reducible refine kT ?_); first
    | with_reducible refine t_cmp ?_ | with_reducible refine t_bop ?_ | with_reducible refine t_not ?_ | with_reducible refine t_tr ?_ | with_reducible refine t_chain ?_ | with_reducible refine t_cmpN ?_ | with_reducible refine t_eqo ?_)
  | ((with_reducible refine kH ?_); first
    | ((with_reducible refine h_hit ?_ ?_); rfl) | ((with_reducible refine h_miss ?_ ?_); rfl))
  | with_reducible refine s_try ?_
  | with_reducible refine w_cons ?_
  | with_reducible refine w_nil ?_
  | with_reducible refine t_one ?_
  | with_reducible refine t_cons ?_
  | with_reducible refine t_nil ?_
  | with_reducible refine w_b1 ?_
  | with_reducible refine w_b2 ?_
  | with_reducible refine w_onone ?_
  | with_reducible refine w_osome ?_
  | with_reducible refine wa_v ?_
  | with_reducible refine wa_nil ?_
  | ((with_reducible refine gAr ?_); refine wa_r rfl ?_)
  | ((with_reducible refine gAt ?_); refine wa_t (by intro i e; cases e) ?_)
  | ((with_reducible refine kI ?_); first
    | with_reducible refine i_seqL ?_ | with_reducible refine i_enum ?_ | with_reducible refine i_zip ?_ | with_reducible refine i_rev ?_ | with_reducible refine i_rng3 ?_ | with_reducible refine j_rng1 ?_ | with_reducible refine j_rng2 ?_ | ((with_reducible refine gLive ?_); (first | refine i_liveV rfl rfl ?_ | refine i_liveO rfl ?_))))
local macro_rules | `(tactic| fail "d") => `(tactic| first
  | fail | with_reducible refine ifD (fun h => ?_) (fun h => ?_) | with_reducible refine ifN (fun h => ?_) (fun h => ?_) | with_reducible refine anD (fun h => ?_) (fun h => ?_) | with_reducible refine anN (fun h => ?_) (fun h => ?_) | with_reducible refine orD (fun h => ?_) (fun h => ?_) | with_reducible refine orN (fun h => ?_) (fun h => ?_))
-- >step
def Rf (x : Exn) (r : String) : Prop := (∃ a, x = ⟨"BadNumber", a⟩ ∧ r = "number") ∨ (∃ a, x = ⟨"BadRow", a⟩ ∧ r = "row") ∨ (∃ a, x = ⟨"TooLarge", a⟩ ∧ r = "large")
theorem rf_n (a : D) : Rf ⟨"BadNumber", a⟩ "number" := .inl ⟨a, rfl, rfl⟩
theorem rf_r (a : D) : Rf ⟨"BadRow", a⟩ "row" := .inr (.inl ⟨a, rfl, rfl⟩)
theorem rf_l (a : D) : Rf ⟨"TooLarge", a⟩ "large" := .inr (.inr ⟨a, rfl, rfl⟩)
theorem refused0 {n m : Nat} (hN : n + 1 = m) (one two three : D) {x : Exn} {r : String} (hx : Rf x r) (e : callF P Y n "part_of" [one, two] = .exc x [one, two]) : callF P Y m "_law_refused" [.int 0, one, two, three] = .ret (.str r) [.int 0, one, two, three] := by
  subst hN
  rw [c__law_refused]
  rcases hx with ⟨a, rfl, rfl⟩ | ⟨a, rfl, rfl⟩ | ⟨a, rfl, rfl⟩
  all_goals
    refine WR.eq (fn_at [.va (.int 0), .va one, .va two, .va three, .un] rfl ?_)
    dsimp only [f20]
    repeat fail
    refine WR.exc e ?_
    repeat fail
    rfl
theorem refused1 {n m : Nat} (hN : n + 1 = m) (one two three : D) {x : Exn} {r : String} (hx : Rf x r) (e : callF P Y n "written" [one, two] = .exc x [one, two]) : callF P Y m "_law_refused" [.int 1, one, two, three] = .ret (.str r) [.int 1, one, two, three] := by
  subst hN
  rw [c__law_refused]
  rcases hx with ⟨a, rfl, rfl⟩ | ⟨a, rfl, rfl⟩ | ⟨a, rfl, rfl⟩
  all_goals
    refine WR.eq (fn_at [.va (.int 1), .va one, .va two, .va three, .un] rfl ?_)
    dsimp only [f20]
    repeat fail
    refine WR.exc e ?_
    repeat fail
    rfl
theorem refused2 {n m : Nat} (hN : n + 1 = m) (one two three : D) {x : Exn} {r : String} (hx : Rf x r) (e : callF P Y n "read_part" [one, two, three] = .exc x [one, two, three]) : callF P Y m "_law_refused" [.int 2, one, two, three] = .ret (.str r) [.int 2, one, two, three] := by
  subst hN
  rw [c__law_refused]
  rcases hx with ⟨a, rfl, rfl⟩ | ⟨a, rfl, rfl⟩ | ⟨a, rfl, rfl⟩
  all_goals
    refine WR.eq (fn_at [.va (.int 2), .va one, .va two, .va three, .un] rfl ?_)
    dsimp only [f20]
    repeat fail
    refine WR.exc e ?_
    repeat fail
    rfl
theorem refused3 {n m : Nat} (hN : n + 1 = m) (one two three : D) {x : Exn} {r : String} (hx : Rf x r) (e : callF P Y n "text_at" [one, two] = .exc x [one, two]) : callF P Y m "_law_refused" [.int 3, one, two, three] = .ret (.str r) [.int 3, one, two, three] := by
  subst hN
  rw [c__law_refused]
  rcases hx with ⟨a, rfl, rfl⟩ | ⟨a, rfl, rfl⟩ | ⟨a, rfl, rfl⟩
  all_goals
    refine WR.eq (fn_at [.va (.int 3), .va one, .va two, .va three, .un] rfl ?_)
    dsimp only [f20]
    repeat fail
    refine WR.exc e ?_
    repeat fail
    rfl
theorem refused4 {n m : Nat} (hN : n + 1 = m) (one two three : D) {x : Exn} {r : String} (hx : Rf x r) (e : callF P Y n "shares_of" [one, two] = .exc x [one, two]) : callF P Y m "_law_refused" [.int 4, one, two, three] = .ret (.str r) [.int 4, one, two, three] := by
  subst hN
  rw [c__law_refused]
  rcases hx with ⟨a, rfl, rfl⟩ | ⟨a, rfl, rfl⟩ | ⟨a, rfl, rfl⟩
  all_goals
    refine WR.eq (fn_at [.va (.int 4), .va one, .va two, .va three, .un] rfl ?_)
    dsimp only [f20]
    repeat fail
    refine WR.exc e ?_
    repeat fail
    rfl
theorem refused5 {n m : Nat} (hN : n + 1 = m) (one two three : D) {x : Exn} {r : String} (hx : Rf x r) (e : callF P Y n "place_of" [one, two] = .exc x [one, two]) : callF P Y m "_law_refused" [.int 5, one, two, three] = .ret (.str r) [.int 5, one, two, three] := by
  subst hN
  rw [c__law_refused]
  rcases hx with ⟨a, rfl, rfl⟩ | ⟨a, rfl, rfl⟩ | ⟨a, rfl, rfl⟩
  all_goals
    refine WR.eq (fn_at [.va (.int 5), .va one, .va two, .va three, .un] rfl ?_)
    dsimp only [f20]
    repeat fail
    refine WR.exc e ?_
    repeat fail
    rfl
theorem written_long (n : Nat) (hn : 3 ≤ n) (s1 s2 : List D → D) (h1 : Sq s1) (h2 : Sq s2) (w t : List Int) (hw : Wts w) (hl : 200 < t.length) (hl2 : t.length ≤ 1000) :
    callF P Y n "written" [s1 (w.map .int), s2 (t.map .int)] = .exc ⟨"TooLarge", .str "text"⟩ [s1 (w.map .int), s2 (t.map .int)] := by
  obtain ⟨n, rfl, hm⟩ := ex_succ hn
  rw [c_written]
  refine WR.eqx (fn_at [.va _, .va _, .un, .un, .un, .un, .un, .un, .un] rfl ?_)
  dsimp only [f3]
  repeat fail
  refine WR.exc (part_long n (by omega) s1 s2 h1 h2 w t hw hl hl2) ?_
  repeat fail
  rfl
theorem written_badL (n : Nat) (hn : 3 ≤ n) (s1 s2 : List D → D) (h1 : Sq s1) (h2 : Sq s2) (w t : List Int) (hw : Wts w) (ht : ¬ Ltr w t) (hl : t.length ≤ 200) :
    callF P Y n "written" [s1 (w.map .int), s2 (t.map .int)] = .exc ⟨"BadRow", .str "letter"⟩ [s1 (w.map .int), s2 (t.map .int)] := by
  obtain ⟨n, rfl, hm⟩ := ex_succ hn
  rw [c_written]
  refine WR.eqx (fn_at [.va _, .va _, .un, .un, .un, .un, .un, .un, .un] rfl ?_)
  dsimp only [f3]
  repeat fail
  refine WR.exc (part_badL n (by omega) s1 s2 h1 h2 w t hw ht hl) ?_
  repeat fail
  rfl
theorem written_badW (n : Nat) (hn : 3 ≤ n) (s1 : List D → D) (h1 : Sq s1) (w : List Int) (d : D) (hw : ¬ WOk w) (hl : w.length ≤ 1000) :
    callF P Y n "written" [s1 (w.map .int), d] = .exc ⟨"BadRow", .str "weights"⟩ [s1 (w.map .int), d] := by
  obtain ⟨n, rfl, hm⟩ := ex_succ hn
  rw [c_written]
  refine WR.eqx (fn_at [.va _, .va _, .un, .un, .un, .un, .un, .un, .un] rfl ?_)
  dsimp only [f3]
  repeat fail
  refine WR.exc (part_badW n (by omega) s1 h1 w d hw hl) ?_
  repeat fail
  rfl
theorem read_badW (n : Nat) (hn : 2 ≤ n) (s1 : List D → D) (h1 : Sq s1) (w : List Int) (d e : D) (hw : ¬ WOk w) (hl : w.length ≤ 1000) :
    callF P Y n "read_part" [s1 (w.map .int), d, e] = .exc ⟨"BadRow", .str "weights"⟩ [s1 (w.map .int), d, e] := by
  obtain ⟨n, rfl, hm⟩ := ex_succ hn
  rw [c_read_part]
  refine WR.eqx (fn_at [.va _, .va _, .va _, .un, .un, .un, .un, .un, .un, .un, .un] rfl ?_)
  dsimp only [f4]
  repeat fail
  refine WR.exc (checked_bad n (by omega) s1 h1 w hl hw) ?_
  repeat fail
  rfl
theorem read_badN (n : Nat) (hn : 2 ≤ n) (s1 : List D → D) (h1 : Sq s1) (w : List Int) (k : Int) (e : D) (hw : Wts w) (hk : k < 0 ∨ 200 < k) :
    callF P Y n "read_part" [s1 (w.map .int), .int k, e] = .exc ⟨"BadNumber", .str "count"⟩ [s1 (w.map .int), .int k, e] := by
  obtain ⟨n, rfl, hm⟩ := ex_succ hn
  rw [c_read_part]
  have hwl := hw.len
  refine WR.eqx (fn_at [.va _, .va _, .va _, .un, .un, .un, .un, .un, .un, .un, .un] rfl ?_)
  dsimp only [f4]
  repeat fail
  refine WR.ret (checked_ok n (by omega) s1 h1 w (by omega) hw.wok) ?_
  repeat fail
  refine ifD (fun hp => ?_) (fun hp => ?_)
  · repeat fail
    rfl
  · repeat fail
    rfl
theorem read_badB (n : Nat) (hn : 2 ≤ n) (s1 : List D → D) (h1 : Sq s1) (w : List Int) (hw : Wts w) :
    callF P Y n "read_part" [s1 (w.map .int), .int 2, .tup [.int 2]] = .exc ⟨"BadRow", .str "word"⟩ [s1 (w.map .int), .int 2, .tup [.int 2]] := by
  obtain ⟨n, rfl, hm⟩ := ex_succ hn
  rw [c_read_part]
  have hwl := hw.len
  refine WR.eqx (fn_at [.va _, .va _, .va _, .un, .un, .un, .un, .un, .un, .un, .un] rfl ?_)
  dsimp only [f4]
  repeat fail
  refine WR.ret (checked_ok n (by omega) s1 h1 w (by omega) hw.wok) ?_
  repeat fail
  refine lc_all (l := [(2 : Int)]) (enc := .int) rfl _ rfl .bl (fun b : Int => decide (b = 0 ∨ b = 1)) (by decide) (fun x hx => ⟨_, rfl, rfl, ?_⟩) ?_
  · repeat fail
    rfl
  repeat fail
  refine ifT (by decide) ?_
  repeat fail
  rfl
theorem same_at (k n : Nat) (d : D) (hn : k + 1 ≤ n) (hd : dSz k d = true) : callF P Y n "_law_same" [d, d] = .ret (.bl true) [d, d] := by
  obtain ⟨j, rfl⟩ : ∃ j, n = j + k + 1 := ⟨n - k - 1, by omega⟩
  exact same_ok rfl k j d hd
theorem dsSz_int (n : Nat) : ∀ l : List Int, dsSz n (l.map .int) = true
  | [] => by simp [dsSz]
  | x :: l => by
    show dsSz n (.int x :: l.map .int) = true
    unfold dsSz
    rw [dsSz_int n l]
    cases n <;> rfl
theorem dSz_tup {l : List Int} (h : l.length ≤ 1000000) : dSz 1 (.tup (l.map .int)) = true := by
  unfold dSz
  rw [dsSz_int, decide_eq_true (by rw [List.length_map]; omega)]; rfl
theorem hpick (n : Nat) (hn : 1 ≤ n) : Pick (callF P Y n) := pick_of rfl n hn
end Pk30

set_option linter.all false
set_option maxRecDepth 100000
set_option maxHeartbeats 0
namespace Pk30
open CW
-- step<
local macro_rules | `(tactic| fail "o") => `(tactic| first
  | ((with_reducible refine le_SZ ?_); first | exact Nat.le_of_ble_eq_true rfl | omega | (simp only [List.length_map, List.length_cons, List.length_nil, List.length_append, List.length_range, List.length_take, List.length_drop, List.length_dropLast, List.length_reverse] at *; omega))
  | ((with_reducible refine lt_SZ ?_); first | exact Nat.le_of_ble_eq_true rfl | omega | (simp only [List.length_map, List.length_cons, List.length_nil, List.length_append, List.length_range, List.length_take, List.length_drop, List.length_dropLast, List.length_reverse] at *; omega)))
local macro_rules | `(tactic| fail "s") => `(tactic| first
  | with_reducible exact s_add
  | with_reducible exact s_sub
  | with_reducible exact s_lt
  | with_reducible exact s_le
  | with_reducible exact s_gt
  | with_reducible exact s_ge
  | with_reducible exact s_eq
  | with_reducible exact s_ne
  | ((with_reducible apply s_mod); omega)
  | ((with_reducible apply s_div); omega; omega)
  | ((with_reducible apply s_mulR); first | exact small_of (by omega) (by omega) | exact small_of (by decide) (by decide))
  | ((with_reducible apply s_mulL); exact small_of (by omega) (by omega))
  | with_reducible exact s_eqs
  | with_reducible exact s_nes
  | with_reducible exact s_eqb
  | with_reducible exact s_neb
  | with_reducible exact s_isb
  | with_reducible exact s_nisb
  | with_reducible exact s_inI
  | with_reducible exact s_nin2
  | with_reducible exact s_in2
  | with_reducible exact s_b2i
  | with_reducible exact s_i2i
  | with_reducible exact s_max2
  | with_reducible exact s_min2
  | with_reducible exact s_lenm
  | with_reducible exact s_lenTm
  | with_reducible exact s_len
  | with_reducible exact s_lenT
  | with_reducible exact s_sumI
  | with_reducible exact s_sumT
  | with_reducible exact s_all
  | with_reducible exact s_any
  | with_reducible exact s_eqN
  | with_reducible exact s_neN
  | with_reducible exact s_eqL
  | with_reducible exact s_neL
  | with_reducible exact s_eqU
  | with_reducible exact s_neU
  | ((with_reducible apply s_band); omega; omega)
  | ((with_reducible apply s_bxor); omega; omega)
  | ((with_reducible apply s_ixm); omega; omega)
  | ((with_reducible apply s_ixTm); omega; omega)
  | ((with_reducible apply s_catm); fail "o")
  | ((with_reducible apply s_catU); fail "o")
  | ((with_reducible apply s_cat1); fail "o")
  | ((with_reducible apply s_catU1); fail "o")
  | ((with_reducible apply s_cat2); fail "o")
  | ((with_reducible apply s_catU2); fail "o")
  | ((with_reducible apply s_catm'); fail "o")
  | ((with_reducible apply s_cat1'); fail "o")
  | ((with_reducible apply s_cat); fail "o")
  | ((with_reducible apply s_catT); fail "o")
  | ((with_reducible apply s_cat'); fail "o")
  | ((with_reducible apply s_rep); omega; omega; fail "o")
  | ((with_reducible apply s_repT); (intro h; cases h); omega; omega; exact Nat.le_of_ble_eq_true rfl)
  | exact s_ix (by decide) rfl
  | exact s_ixT (by decide) rfl
  | rfl
  | ((with_reducible apply s_lenS); assumption)
  | ((with_reducible apply s_sumS); assumption)
  | ((with_reducible apply s_listS); assumption)
  | ((with_reducible apply s_tupleS); assumption)
  | ((with_reducible apply s_ixS); assumption; omega; omega)
  | ((with_reducible apply s_catS); assumption; fail "o"))
local macro_rules | `(tactic| fail) => `(tactic| first
  | ((with_reducible refine kE ?_); first
    | ((with_reducible refine gVar ?_); refine w_var rfl ?_) | with_reducible refine w_op2 ?_ | with_reducible refine w_int ?_ | with_reducible refine w_op1 ?_ | with_reducible refine w_cst ?_ | with_reducible refine w_call ?_ | with_reducible refine w_str ?_ | with_reducible refine w_cons ?_ | with_reducible refine w_fld ?_ | with_reducible refine w_tup ?_ | with_reducible refine w_bl ?_ | with_reducible refine w_non ?_ | with_reducible refine w_bop ?_ | with_reducible refine w_b1 ?_ | with_reducible refine w_b2 ?_ | with_reducible refine w_ite ?_ | with_reducible refine w_lst ?_ | with_reducible refine w_nil ?_ | with_reducible refine w_chain ?_ | with_reducible refine w_meth ?_ | with_reducible refine w_sl ?_ | with_reducible refine w_onone ?_ | with_reducible refine w_osome ?_ | with_reducible refine w_isi ?_ | with_reducible refine w_make ?_ | with_reducible refine w_lrng ?_ | with_reducible refine w_eqo ?_ | with_reducible refine w_lm ?_ | with_reducible refine w_lc ?_ | ((with_reducible refine gFrz ?_); (first | refine w_frz rfl ?_ | refine w_frzv rfl ?_)) | ((with_reducible refine gPop ?_); refine w_pop rfl ?_) | ((with_reducible refine gPopAt ?_); refine w_popAt rfl ?_) | ((with_reducible refine gMethR ?_); refine w_methR rfl rfl ?_))
  | ((with_reducible refine kP ?_); first
    | ((with_reducible refine gPk ?_); refine pk_var rfl ?_) | with_reducible refine pk_e ?_)
  | ((with_reducible refine kC ?_); first
    | ((with_reducible refine And.intro ?_ ?_); (first | with_reducible rfl | ((with_reducible refine q_okR ?_ ?_ ?_ ?_); omega; omega; omega; omega) | fail "o" | ((with_reducible refine eqG ?_); rfl))) | ((with_reducible refine ifT ?_ ?_); (first | with_reducible rfl | with_reducible exact bnt | exact decide_eq_true (by omega) | exact ndT (by omega) | exact decide_eq_true (by decide))) | ((with_reducible refine anT ?_ ?_); (first | with_reducible rfl | with_reducible exact bnt | exact decide_eq_true (by omega) | exact ndT (by omega) | exact decide_eq_true (by decide))) | ((with_reducible refine orT ?_ ?_); (first | with_reducible rfl | with_reducible exact bnt | exact decide_eq_true (by omega) | exact ndT (by omega) | exact decide_eq_true (by decide))) | ((with_reducible refine ifF ?_ ?_); (first | with_reducible rfl | with_reducible exact bnf | exact decide_eq_false (by omega) | exact ndF (by omega) | exact decide_eq_false (by decide))) | ((with_reducible refine anF ?_ ?_); (first | with_reducible rfl | with_reducible exact bnf | exact decide_eq_false (by omega) | exact ndF (by omega) | exact decide_eq_false (by decide))) | ((with_reducible refine orF ?_ ?_); (first | with_reducible rfl | with_reducible exact bnf | exact decide_eq_false (by omega) | exact ndF (by omega) | exact decide_eq_false (by decide))))
  | ((with_reducible refine kX ?_); first
    | ((with_reducible apply ex2); rfl; rfl; fail "s") | ((with_reducible apply ex1); rfl; fail "s") | ((with_reducible apply ex2b); rfl; rfl; fail "s") | ((with_reducible apply exF); rfl; rfl; rfl) | ((with_reducible apply exA); rfl; rfl) | ((with_reducible apply exR); rfl) | ((with_reducible apply exR); exact seqOf_S (by assumption)) | ((with_reducible apply exN); rfl; rfl) | ((with_reducible apply exT); rfl; rfl) | ((with_reducible apply exI); rfl; rfl) | ((with_reducible apply exRR); rfl; rfl) | ((with_reducible apply exX); rfl; rfl; (first | ((with_reducible apply setL_map); omega; omega) | rfl)) | ((with_reducible apply exS); rfl; (first | ((with_reducible apply sl_from); omega) | ((with_reducible apply sl_to); omega) | ((with_reducible apply sl_mid); omega; omega) | with_reducible exact sl_last | ((with_reducible apply sl_fromL); omega) | ((with_reducible apply sl_toL); omega) | ((with_reducible apply sl_midL); omega; omega) | with_reducible exact sl_lastL | ((with_reducible apply sl_fromS); assumption; omega) | ((with_reducible apply sl_toS); assumption; omega) | ((with_reducible apply sl_midS); assumption; omega; omega) | rfl)) | ((with_reducible apply exM); rfl; rfl) | ((with_reducible apply exMo); rfl; rfl) | ((with_reducible apply exSF); rfl; rfl; exact Nat.le_of_ble_eq_true rfl; rfl) | ((with_reducible apply exP); rfl; fail "o"))
  | with_reducible refine s_cons ?_
  | ((with_reducible refine kS ?_); first
    | with_reducible refine s_set ?_ | with_reducible refine s_ifs ?_ | with_reducible refine s_ret ?_ | with_reducible refine s_setN ?_ | with_reducible refine s_for ?_ | with_reducible refine s_exp ?_ | with_reducible refine s_unp ?_ | with_reducible refine s_rse ?_ | with_reducible refine s_par ?_ | with_reducible refine s_setix ?_ | with_reducible refine s_swap ?_ | with_reducible refine s_setf ?_ | with_reducible refine s_ret0 ?_ | with_reducible refine s_pass ?_ | with_reducible refine s_brk ?_ | with_reducible refine s_cnt ?_ | ((with_reducible refine gApp ?_); refine s_app rfl ?_) | ((with_reducible refine gExt ?_); refine s_ext rfl ?_) | ((with_reducible refine gIns0 ?_); refine s_ins0 rfl ?_) | ((with_reducible refine gRvs ?_); refine s_rvs rfl ?_) | ((with_reducible refine gRetNv ?_); refine s_retNv rfl ?_) | ((with_reducible refine gRetN ?_); refine s_retN (by intro i e; cases e) ?_))
  | with_reducible refine s_nil ?_
  | ((with_reducible refine kT ?_); first
    | with_reducible refine t_cmp ?_ | with_reducible refine t_bop ?_ | with_reducible refine t_not ?_ | with_reducible refine t_tr ?_ | with_reducible refine t_chain ?_ | with_reducible refine t_cmpN ?_ | with_reducible refine t_eqo ?_)
  | ((with_reducible refine kH ?_); first
    | ((with_reducible refine h_hit ?_ ?_); rfl) | ((with_reducible refine h_miss ?_ ?_); rfl))
  | with_reducible refine s_try ?_
  | with_reducible refine w_cons ?_
  | with_reducible refine w_nil ?_
  | with_reducible refine t_one ?_
  | with_reducible refine t_cons ?_
  | with_reducible refine t_nil ?_
  | with_reducible refine w_b1 ?_
  | with_reducible refine w_b2 ?_
  | with_reducible refine w_onone ?_
  | with_reducible refine w_osome ?_
  | with_reducible refine wa_v ?_
  | with_reducible refine wa_nil ?_
  | ((with_reducible refine gAr ?_); refine wa_r rfl ?_)
  | ((with_reducible refine gAt ?_); refine wa_t (by intro i e; cases e) ?_)
  | ((with_reducible refine kI ?_); first
    | with_reducible refine i_seqL ?_ | with_reducible refine i_enum ?_ | with_reducible refine i_zip ?_ | with_reducible refine i_rev ?_ | with_reducible refine i_rng3 ?_ | with_reducible refine j_rng1 ?_ | with_reducible refine j_rng2 ?_ | ((with_reducible refine gLive ?_); (first | refine i_liveV rfl rfl ?_ | refine i_liveO rfl ?_))))
local macro_rules | `(tactic| fail "b") => `(tactic| first
  | ((with_reducible refine kE ?_); first
    | ((with_reducible refine gVar ?_); refine w_var rfl ?_) | with_reducible refine w_op2 ?_ | with_reducible refine w_int ?_ | with_reducible refine w_op1 ?_ | with_reducible refine w_cst ?_ | with_reducible refine w_call ?_ | with_reducible refine w_str ?_ | with_reducible refine w_cons ?_ | with_reducible refine w_fld ?_ | with_reducible refine w_tup ?_ | with_reducible refine w_bl ?_ | with_reducible refine w_non ?_ | with_reducible refine w_bop ?_ | with_reducible refine w_b1 ?_ | with_reducible refine w_b2 ?_ | with_reducible refine w_ite ?_ | with_reducible refine w_lst ?_ | with_reducible refine w_nil ?_ | with_reducible refine w_chain ?_ | with_reducible refine w_meth ?_ | with_reducible refine w_sl ?_ | with_reducible refine w_onone ?_ | with_reducible refine w_osome ?_ | with_reducible refine w_isi ?_ | with_reducible refine w_make ?_ | with_reducible refine w_lrng ?_ | with_reducible refine w_eqo ?_ | with_reducible refine w_lm ?_ | with_reducible refine w_lc ?_ | ((with_reducible refine gFrz ?_); (first | refine w_frz rfl ?_ | refine w_frzv rfl ?_)) | ((with_reducible refine gPop ?_); refine w_pop rfl ?_) | ((with_reducible refine gPopAt ?_); refine w_popAt rfl ?_) | ((with_reducible refine gMethR ?_); refine w_methR rfl rfl ?_))
  | ((with_reducible refine kP ?_); first
    | ((with_reducible refine gPk ?_); refine pk_var rfl ?_) | with_reducible refine pk_e ?_)
  | ((with_reducible refine kC ?_); first
    | ((with_reducible refine And.intro ?_ ?_); (first | with_reducible rfl | ((with_reducible refine q_okR ?_ ?_ ?_ ?_); omega; omega; omega; omega) | fail "o" | ((with_reducible refine eqG ?_); rfl))) | ((with_reducible refine ifT ?_ ?_); (first | with_reducible rfl | with_reducible exact bnt | exact decide_eq_true (by omega) | exact ndT (by omega) | exact decide_eq_true (by decide))) | ((with_reducible refine anT ?_ ?_); (first | with_reducible rfl | with_reducible exact bnt | exact decide_eq_true (by omega) | exact ndT (by omega) | exact decide_eq_true (by decide))) | ((with_reducible refine orT ?_ ?_); (first | with_reducible rfl | with_reducible exact bnt | exact decide_eq_true (by omega) | exact ndT (by omega) | exact decide_eq_true (by decide))) | ((with_reducible refine ifF ?_ ?_); (first | with_reducible rfl | with_reducible exact bnf | exact decide_eq_false (by omega) | exact ndF (by omega) | exact decide_eq_false (by decide))) | ((with_reducible refine anF ?_ ?_); (first | with_reducible rfl | with_reducible exact bnf | exact decide_eq_false (by omega) | exact ndF (by omega) | exact decide_eq_false (by decide))) | ((with_reducible refine orF ?_ ?_); (first | with_reducible rfl | with_reducible exact bnf | exact decide_eq_false (by omega) | exact ndF (by omega) | exact decide_eq_false (by decide))))
  | ((with_reducible refine kX ?_); first
    | ((with_reducible apply ex2); rfl; rfl; fail "s") | ((with_reducible apply ex1); rfl; fail "s") | ((with_reducible apply ex2b); rfl; rfl; fail "s") | ((with_reducible apply exF); rfl; rfl; rfl) | ((with_reducible apply exA); rfl; rfl) | ((with_reducible apply exR); rfl) | ((with_reducible apply exR); exact seqOf_S (by assumption)) | ((with_reducible apply exN); rfl; rfl) | ((with_reducible apply exT); rfl; rfl) | ((with_reducible apply exI); rfl; rfl) | ((with_reducible apply exRR); rfl; rfl) | ((with_reducible apply exX); rfl; rfl; (first | ((with_reducible apply setL_map); omega; omega) | rfl)) | ((with_reducible apply exS); rfl; (first | ((with_reducible apply sl_from); omega) | ((with_reducible apply sl_to); omega) | ((with_reducible apply sl_mid); omega; omega) | with_reducible exact sl_last | ((with_reducible apply sl_fromL); omega) | ((with_reducible apply sl_toL); omega) | ((with_reducible apply sl_midL); omega; omega) | with_reducible exact sl_lastL | ((with_reducible apply sl_fromS); assumption; omega) | ((with_reducible apply sl_toS); assumption; omega) | ((with_reducible apply sl_midS); assumption; omega; omega) | rfl)) | ((with_reducible apply exM); rfl; rfl) | ((with_reducible apply exMo); rfl; rfl) | ((with_reducible apply exSF); rfl; rfl; exact Nat.le_of_ble_eq_true rfl; rfl) | ((with_reducible apply exP); rfl; fail "o"))
  | ((with_reducible refine kS ?_); first
    | with_reducible refine s_set ?_ | with_reducible refine s_ifs ?_ | with_reducible refine s_ret ?_ | with_reducible refine s_setN ?_ | with_reducible refine s_for ?_ | with_reducible refine s_exp ?_ | with_reducible refine s_unp ?_ | with_reducible refine s_rse ?_ | with_reducible refine s_par ?_ | with_reducible refine s_setix ?_ | with_reducible refine s_swap ?_ | with_reducible refine s_setf ?_ | with_reducible refine s_ret0 ?_ | with_reducible refine s_pass ?_ | with_reducible refine s_brk ?_ | with_reducible refine s_cnt ?_ | ((with_reducible refine gApp ?_); refine s_app rfl ?_) | ((with_reducible refine gExt ?_); refine s_ext rfl ?_) | ((with_reducible refine gIns0 ?_); refine s_ins0 rfl ?_) | ((with_reducible refine gRvs ?_); refine s_rvs rfl ?_) | ((with_reducible refine gRetNv ?_); refine s_retNv rfl ?_) | ((with_reducible refine gRetN ?_); refine s_retN (by intro i e; cases e) ?_))
  | with_reducible refine s_nil ?_
  | ((with_reducible refine kT ?_); first
    | with_reducible refine t_cmp ?_ | with_reducible refine t_bop ?_ | with_reducible refine t_not ?_ | with_reducible refine t_tr ?_ | with_reducible refine t_chain ?_ | with_reducible refine t_cmpN ?_ | with_reducible refine t_eqo ?_)
  | ((with_reducible refine kH ?_); first
    | ((with_reducible refine h_hit ?_ ?_); rfl) | ((with_reducible refine h_miss ?_ ?_); rfl))
  | with_reducible refine s_try ?_
  | with_reducible refine w_cons ?_
  | with_reducible refine w_nil ?_
  | with_reducible refine t_one ?_
  | with_reducible refine t_cons ?_
  | with_reducible refine t_nil ?_
  | with_reducible refine w_b1 ?_
  | with_reducible refine w_b2 ?_
  | with_reducible refine w_onone ?_
  | with_reducible refine w_osome ?_
  | with_reducible refine wa_v ?_
  | with_reducible refine wa_nil ?_
  | ((with_reducible refine gAr ?_); refine wa_r rfl ?_)
  | ((with_reducible refine gAt ?_); refine wa_t (by intro i e; cases e) ?_)
  | ((with_reducible refine kI ?_); first
    | with_reducible refine i_seqL ?_ | with_reducible refine i_enum ?_ | with_reducible refine i_zip ?_ | with_reducible refine i_rev ?_ | with_reducible refine i_rng3 ?_ | with_reducible refine j_rng1 ?_ | with_reducible refine j_rng2 ?_ | ((with_reducible refine gLive ?_); (first | refine i_liveV rfl rfl ?_ | refine i_liveO rfl ?_))))
local macro_rules | `(tactic| fail "d") => `(tactic| first
  | fail | with_reducible refine ifD (fun h => ?_) (fun h => ?_) | with_reducible refine ifN (fun h => ?_) (fun h => ?_) | with_reducible refine anD (fun h => ?_) (fun h => ?_) | with_reducible refine anN (fun h => ?_) (fun h => ?_) | with_reducible refine orD (fun h => ?_) (fun h => ?_) | with_reducible refine orN (fun h => ?_) (fun h => ?_))
-- >step
theorem oright_ok (n : Nat) (hn : 5 ≤ n) (s : Int × Int) : ∃ s', callF P Y n "_law_orders_right" [src s] = .ret (.bl true) [src s'] := by
  obtain ⟨n, rfl, hm⟩ := ex_succ hn
  obtain ⟨n', rfl, hm'⟩ := ex_succ hm
  rw [c__law_orders_right]
  generalize hN : n' + 1 = n at *
  have hp := hpick n (by omega)
  have key : WR (runF (callF P Y n) Y f21 [src s]) (fun d l => ∃ s' : Int × Int, d = .bl true ∧ l = [src s']) (fun _ _ => False) := by
    refine fn_at [.ow true (src s), .un, .un, .un, .un, .un, .un, .un, .un, .un, .un] rfl ?_
    dsimp only [f21]
    repeat fail
    obtain ⟨v, s1, v0, v1, ev⟩ := hp s 4 (by omega) (by decide +kernel)
    refine WR.ret ev ?_
    repeat fail
    obtain ⟨m, hmm⟩ : ∃ m : Nat, 1 + v = m := ⟨(1 + v).toNat, by omega⟩
    rw [hmm]
    obtain ⟨tl, s2, tl0, tl1, etl⟩ := hp s1 8 (by omega) (by decide +kernel)
    refine WR.ret etl ?_
    repeat fail
    refine lc_draw hp (k := 8) (M := m) (by rfl) (by omega) (by omega) (lg_small (by omega) (by omega)) (by omega) (fun s' d => by repeat fail; exact ⟨rfl, rfl⟩) fun t s3 hl ht => ?_
    have hlt : Lt m t := ht
    have hft := cnt_ft hlt
    have hcs : (cnt m t).sum = t.length := ft_len hft
    have hcn := cnt_nn m t
    have hcl := cnt_len m t
    dsimp only [put]
    repeat fail
    refine lc_all rfl _ rfl .int (fun i : Int => (t.count i : Int)) (le_SZ (by rw [irange_len]; omega)) (fun i hi => ⟨_, rfl, rfl, ?_⟩) ?_
    · repeat fail
      refine lc_map rfl _ rfl (fun x : Int => decide (x = i)) .int id (le_SZ (by omega)) (fun x hx => ⟨_, rfl, rfl, ?_, fun e => ?_⟩) ?_
      · repeat fail
        rfl
      · repeat fail
        rfl
      · repeat fail
        refine ⟨?_, rfl⟩
        rw [List.map_id, List.count_eq_length_filter]
        congr 3
    rw [show (irange 0 m).map (fun i : Int => (t.count i : Int)) = cnt m t from rfl]
    repeat fail
    refine WR.ret (shares_ok n (by omega) .lst sq_l t m (by omega) (by omega) hlt) ?_
    repeat fail
    refine WR.ret (orders_ok n (by omega) (cnt m t) hcn (by omega)) ?_
    repeat fail
    refine WR.ret (lorders_ok n (by omega) .lst sq_l (cnt m t) hcn (by omega)) ?_
    repeat fail
    refine WR.ret (same_at 2 n _ (by omega) (by simp only [dSz, dsSz, dsSz_int, List.length_map, hcl, List.length_cons, List.length_nil]; simp; omega)) ?_
    repeat fail
    refine WR.ret (place_ok n (by omega) .lst sq_l t m (by omega) (by omega) hlt) ?_
    repeat fail "b"
    have hMp := M_pos hcn
    have hRl := R_lt hcn hft
    refine s_cut (fun r => r = [.ow true (src s3), .va (.int m), .va (.tup (t.map .int)), .va (.lst ((cnt m t).map .int)), .va (.int (R (cnt m t) t)), .un, .un, .un, .un, .un, .un]) ?_ ?_
    · repeat fail
      refine WR.ret (lorders_ok n (by omega) .lst sq_l (cnt m t) hcn (by omega)) ?_
      repeat fail
      refine ifD (fun h9 => ?_) (fun h9 => ?_)
      · repeat fail
        refine WR.ret (texts_ok n (by omega) .lst sq_l (cnt m t) hcn (by omega) (by omega)) ?_
        repeat fail
        refine ⟨_, _, _, rfl, rfl, index_ok (cnt m t) t hcn hft, ?_⟩
        repeat fail
        refine WR.ret (same_at 1 n _ (by omega) rfl) ?_
        repeat fail
        rfl
      · repeat fail
        rfl
    rintro r rfl
    repeat fail
    obtain ⟨t2, f1, f2, e2⟩ := text_ok n (by omega) .lst sq_l (cnt m t) (R (cnt m t) t) hcn (by omega) (by omega) hRl
    rw [R_inj hcn f1 hft f2] at e2
    refine WR.ret e2 ?_
    repeat fail
    refine WR.ret (same_at 1 n _ (by omega) (dSz_tup (by omega))) ?_
    repeat fail
    refine lc_draw hp (k := 9) (M := 12) (by rfl) (by omega) (by omega) (lg_small (by omega) (by omega)) (by omega) (fun s' d => draw_int) fun wd s4 hwl hw12 => ?_
    dsimp only [put]
    repeat fail
    have hwn : Nn wd := fun x q => (hw12 x q).1
    have hws : wd.sum ≤ 44 := by
      have : ∀ l : List Int, (∀ v ∈ l, 0 ≤ v ∧ v < 12) → l.sum ≤ 11 * l.length := by
        intro l
        induction l with
        | nil => intro _; simp
        | cons x l ih =>
          intro h
          have := h x List.mem_cons_self
          have := ih fun y q => h y (List.mem_cons_of_mem _ q)
          rw [List.sum_cons, List.length_cons]; omega
      have := this wd hw12
      omega
    have hw0 := hwn.sum
    refine WR.ret (lorders_ok n (by omega) .lst sq_l wd hwn (by omega)) ?_
    repeat fail
    have hMw := M_pos hwn
    have hMl : ((M wd : Nat) : Int).natAbs.log2 < 9000 := by
      refine Nat.lt_of_lt_of_le (lg_lt (k := 400) (by omega) ?_ (by omega)) (by omega)
      have h1 := M_ok hwn
      have h2 : M wd ≤ M wd * PF wd := Nat.le_mul_of_pos_right _ (PF_pos wd)
      have h3 := fc_le wd.sum.toNat (by omega)
      have h4 : 64 ^ wd.sum.toNat ≤ 64 ^ 64 := Nat.pow_le_pow_right (by omega) (by omega)
      have h5 : 64 ^ 64 < 2 ^ 400 := by decide +kernel
      have h6 : M wd < 2 ^ 400 := by omega
      exact_mod_cast h6
    obtain ⟨ix, s5, ix0, ix1, eix⟩ := hp s4 (M wd) (by omega) hMl
    obtain ⟨k0, hk0⟩ : ∃ k0 : Nat, ix = k0 := ⟨ix.toNat, by omega⟩
    subst hk0
    refine WR.ret eix ?_
    repeat fail
    obtain ⟨t3, g1, g2, e3⟩ := text_ok n (by omega) .lst sq_l wd k0 hwn (by omega) (by omega) (by omega)
    obtain ⟨c1, c2⟩ := ft_cnt g1
    have hl3 := ft_len g1
    have hwm : wd.length = m := by omega
    rw [hwm] at c1 c2
    refine WR.ret e3 ?_
    repeat fail
    refine WR.ret (place_ok n (by omega) .tup sq_t t3 m (by omega) (by omega) c2) ?_
    rw [← c1, g2]
    repeat fail
    refine WR.ret (same_at 1 n _ (by omega) rfl) ?_
    repeat fail
    refine WR.ret (shares_ok n (by omega) .tup sq_t t3 m (by omega) (by omega) c2) ?_
    rw [← c1]
    repeat fail
    refine WR.ret (same_at 1 n _ (by omega) (dSz_tup (by omega))) ?_
    repeat fail
    refine WR.ret (lorders_ok n (by omega) .lst sq_l (cnt m t) hcn (by omega)) ?_
    repeat fail
    refine WR.ret (refused3 hN _ _ _ (rf_n _) (text_badN n' (by omega) .lst sq_l (cnt m t) (M (cnt m t)) (by omega) hcn (by omega) (.inr (by omega)))) ?_
    repeat fail
    refine WR.ret (refused3 hN _ _ _ (rf_n _) (text_badN n' (by omega) .lst sq_l (cnt m t) (0 - 1) (by omega) hcn (by omega) (.inl (by omega)))) ?_
    repeat fail
    refine WR.ret (refused3 hN (.lst ([2, -1].map .int)) (.int 0) .non (rf_r _) (text_badR n' (by omega) .lst sq_l [2, -1] (.int 0) (by decide) (fun h => by have := h (-1) (by simp); omega))) ?_
    repeat fail
    refine WR.ret (refused4 hN _ _ _ (rf_r _) (shares_bad n' (by omega) .tup sq_t (t ++ [(m : Int)]) m (by simp; omega) (fun h => by have := h m (by simp); omega))) ?_
    repeat fail
    refine WR.ret (refused5 hN _ _ _ (rf_r _) (place_bad n' (by omega) .tup sq_t ((0 - 1 : Int) :: t) m (by simp; omega) (fun h => by have := h (0 - 1) (by simp); omega))) ?_
    repeat fail
    rfl
  obtain ⟨d, l, z, s', rfl, rfl⟩ := key.sure
  exact ⟨s', z⟩
end Pk30

set_option linter.all false
set_option maxRecDepth 100000
set_option maxHeartbeats 0
namespace Pk30
open CW
-- step<
local macro_rules | `(tactic| fail "o") => `(tactic| first
  | ((with_reducible refine le_SZ ?_); first | exact Nat.le_of_ble_eq_true rfl | omega | (simp only [List.length_map, List.length_cons, List.length_nil, List.length_append, List.length_range, List.length_take, List.length_drop, List.length_dropLast, List.length_reverse] at *; omega))
  | ((with_reducible refine lt_SZ ?_); first | exact Nat.le_of_ble_eq_true rfl | omega | (simp only [List.length_map, List.length_cons, List.length_nil, List.length_append, List.length_range, List.length_take, List.length_drop, List.length_dropLast, List.length_reverse] at *; omega)))
local macro_rules | `(tactic| fail "s") => `(tactic| first
  | with_reducible exact s_add
  | with_reducible exact s_sub
  | with_reducible exact s_lt
  | with_reducible exact s_le
  | with_reducible exact s_gt
  | with_reducible exact s_ge
  | with_reducible exact s_eq
  | with_reducible exact s_ne
  | ((with_reducible apply s_mod); omega)
  | ((with_reducible apply s_div); omega; omega)
  | ((with_reducible apply s_mulR); first | exact small_of (by omega) (by omega) | exact small_of (by decide) (by decide))
  | ((with_reducible apply s_mulL); exact small_of (by omega) (by omega))
  | with_reducible exact s_eqs
  | with_reducible exact s_nes
  | with_reducible exact s_eqb
  | with_reducible exact s_neb
  | with_reducible exact s_isb
  | with_reducible exact s_nisb
  | with_reducible exact s_inI
  | with_reducible exact s_nin2
  | with_reducible exact s_in2
  | with_reducible exact s_b2i
  | with_reducible exact s_i2i
  | with_reducible exact s_max2
  | with_reducible exact s_min2
  | with_reducible exact s_lenm
  | with_reducible exact s_lenTm
  | with_reducible exact s_len
  | with_reducible exact s_lenT
  | with_reducible exact s_sumI
  | with_reducible exact s_sumT
  | with_reducible exact s_all
  | with_reducible exact s_any
  | with_reducible exact s_eqN
  | with_reducible exact s_neN
  | with_reducible exact s_eqL
  | with_reducible exact s_neL
  | with_reducible exact s_eqU
  | with_reducible exact s_neU
  | ((with_reducible apply s_band); omega; omega)
  | ((with_reducible apply s_bxor); omega; omega)
  | ((with_reducible apply s_ixm); omega; omega)
  | ((with_reducible apply s_ixTm); omega; omega)
  | ((with_reducible apply s_catm); fail "o")
  | ((with_reducible apply s_catU); fail "o")
  | ((with_reducible apply s_cat1); fail "o")
  | ((with_reducible apply s_catU1); fail "o")
  | ((with_reducible apply s_cat2); fail "o")
  | ((with_reducible apply s_catU2); fail "o")
  | ((with_reducible apply s_catm'); fail "o")
  | ((with_reducible apply s_cat1'); fail "o")
  | ((with_reducible apply s_cat); fail "o")
  | ((with_reducible apply s_catT); fail "o")
  | ((with_reducible apply s_cat'); fail "o")
  | ((with_reducible apply s_rep); omega; omega; fail "o")
  | ((with_reducible apply s_repT); (intro h; cases h); omega; omega; exact Nat.le_of_ble_eq_true rfl)
  | exact s_ix (by decide) rfl
  | exact s_ixT (by decide) rfl
  | rfl
  | ((with_reducible apply s_lenS); assumption)
  | ((with_reducible apply s_sumS); assumption)
  | ((with_reducible apply s_listS); assumption)
  | ((with_reducible apply s_tupleS); assumption)
  | ((with_reducible apply s_ixS); assumption; omega; omega)
  | ((with_reducible apply s_catS); assumption; fail "o"))
local macro_rules | `(tactic| fail) => `(tactic| first
  | ((with_reducible refine kE ?_); first
    | ((with_reducible refine gVar ?_); refine w_var rfl ?_) | with_reducible refine w_op2 ?_ | with_reducible refine w_int ?_ | with_reducible refine w_op1 ?_ | with_reducible refine w_cst ?_ | with_reducible refine w_call ?_ | with_reducible refine w_str ?_ | with_reducible refine w_cons ?_ | with_reducible refine w_fld ?_ | with_reducible refine w_tup ?_ | with_reducible refine w_bl ?_ | with_reducible refine w_non ?_ | with_reducible refine w_bop ?_ | with_reducible refine w_b1 ?_ | with_reducible refine w_b2 ?_ | with_reducible refine w_ite ?_ | with_reducible refine w_lst ?_ | with_reducible refine w_nil ?_ | with_reducible refine w_chain ?_ | with_reducible refine w_meth ?_ | with_reducible refine w_sl ?_ | with_reducible refine w_onone ?_ | with_reducible refine w_osome ?_ | with_reducible refine w_isi ?_ | with_reducible refine w_make ?_ | with_reducible refine w_lrng ?_ | with_reducible refine w_eqo ?_ | with_reducible refine w_lm ?_ | with_reducible refine w_lc ?_ | ((with_reducible refine gFrz ?_); (first | refine w_frz rfl ?_ | refine w_frzv rfl ?_)) | ((with_reducible refine gPop ?_); refine w_pop rfl ?_) | ((with_reducible refine gPopAt ?_); refine w_popAt rfl ?_) | ((with_reducible refine gMethR ?_); refine w_methR rfl rfl ?_))
  | ((with_reducible refine kP ?_); first
    | ((with_reducible refine gPk ?_); refine pk_var rfl ?_) | with_reducible refine pk_e ?_)
  | ((with_reducible refine kC ?_); first
    | ((with_reducible refine And.intro ?_ ?_); (first | with_reducible rfl | ((with_reducible refine q_okR ?_ ?_ ?_ ?_); omega; omega; omega; omega) | fail "o" | ((with_reducible refine eqG ?_); rfl))) | ((with_reducible refine ifT ?_ ?_); (first | with_reducible rfl | with_reducible exact bnt | exact decide_eq_true (by omega) | exact ndT (by omega) | exact decide_eq_true (by decide))) | ((with_reducible refine anT ?_ ?_); (first | with_reducible rfl | with_reducible exact bnt | exact decide_eq_true (by omega) | exact ndT (by omega) | exact decide_eq_true (by decide))) | ((with_reducible refine orT ?_ ?_); (first | with_reducible rfl | with_reducible exact bnt | exact decide_eq_true (by omega) | exact ndT (by omega) | exact decide_eq_true (by decide))) | ((with_reducible refine ifF ?_ ?_); (first | with_reducible rfl | with_reducible exact bnf | exact decide_eq_false (by omega) | exact ndF (by omega) | exact decide_eq_false (by decide))) | ((with_reducible refine anF ?_ ?_); (first | with_reducible rfl | with_reducible exact bnf | exact decide_eq_false (by omega) | exact ndF (by omega) | exact decide_eq_false (by decide))) | ((with_reducible refine orF ?_ ?_); (first | with_reducible rfl | with_reducible exact bnf | exact decide_eq_false (by omega) | exact ndF (by omega) | exact decide_eq_false (by decide))))
  | ((with_reducible refine kX ?_); first
    | ((with_reducible apply ex2); rfl; rfl; fail "s") | ((with_reducible apply ex1); rfl; fail "s") | ((with_reducible apply ex2b); rfl; rfl; fail "s") | ((with_reducible apply exF); rfl; rfl; rfl) | ((with_reducible apply exA); rfl; rfl) | ((with_reducible apply exR); rfl) | ((with_reducible apply exR); exact seqOf_S (by assumption)) | ((with_reducible apply exN); rfl; rfl) | ((with_reducible apply exT); rfl; rfl) | ((with_reducible apply exI); rfl; rfl) | ((with_reducible apply exRR); rfl; rfl) | ((with_reducible apply exX); rfl; rfl; (first | ((with_reducible apply setL_map); omega; omega) | rfl)) | ((with_reducible apply exS); rfl; (first | ((with_reducible apply sl_from); omega) | ((with_reducible apply sl_to); omega) | ((with_reducible apply sl_mid); omega; omega) | with_reducible exact sl_last | ((with_reducible apply sl_fromL); omega) | ((with_reducible apply sl_toL); omega) | ((with_reducible apply sl_midL); omega; omega) | with_reducible exact sl_lastL | ((with_reducible apply sl_fromS); assumption; omega) | ((with_reducible apply sl_toS); assumption; omega) | ((with_reducible apply sl_midS); assumption; omega; omega) | rfl)) | ((with_reducible apply exM); rfl; rfl) | ((with_reducible apply exMo); rfl; rfl) | ((with_reducible apply exSF); rfl; rfl; exact Nat.le_of_ble_eq_true rfl; rfl) | ((with_reducible apply exP); rfl; fail "o"))
  | with_reducible refine s_cons ?_
  | ((with_reducible refine kS ?_); first
    | with_reducible refine s_set ?_ | with_reducible refine s_ifs ?_ | with_reducible refine s_ret ?_ | with_reducible refine s_setN ?_ | with_reducible refine s_for ?_ | with_reducible refine s_exp ?_ | with_reducible refine s_unp ?_ | with_reducible refine s_rse ?_ | with_reducible refine s_par ?_ | with_reducible refine s_setix ?_ | with_reducible refine s_swap ?_ | with_reducible refine s_setf ?_ | with_reducible refine s_ret0 ?_ | with_reducible refine s_pass ?_ | with_reducible refine s_brk ?_ | with_reducible refine s_cnt ?_ | ((with_reducible refine gApp ?_); refine s_app rfl ?_) | ((with_reducible refine gExt ?_); refine s_ext rfl ?_) | ((with_reducible refine gIns0 ?_); refine s_ins0 rfl ?_) | ((with_reducible refine gRvs ?_); refine s_rvs rfl ?_) | ((with_reducible refine gRetNv ?_); refine s_retNv rfl ?_) | ((with_reducible refine gRetN ?_); refine s_retN (by intro i e; cases e) ?_))
  | with_reducible refine s_nil ?_
  | ((with_reducible refine kT ?_); first
    | with_reducible refine t_cmp ?_ | with_reducible refine t_bop ?_ | with_reducible refine t_not ?_ | with_reducible refine t_tr ?_ | with_reducible refine t_chain ?_ | with_reducible refine t_cmpN ?_ | with_reducible refine t_eqo ?_)
  | ((with_reducible refine kH ?_); first
    | ((with_reducible refine h_hit ?_ ?_); rfl) | ((with_reducible refine h_miss ?_ ?_); rfl))
  | with_reducible refine s_try ?_
  | with_reducible refine w_cons ?_
  | with_reducible refine w_nil ?_
  | with_reducible refine t_one ?_
  | with_reducible refine t_cons ?_
  | with_reducible refine t_nil ?_
  | with_reducible refine w_b1 ?_
  | with_reducible refine w_b2 ?_
  | with_reducible refine w_onone ?_
  | with_reducible refine w_osome ?_
  | with_reducible refine wa_v ?_
  | with_reducible refine wa_nil ?_
  | ((with_reducible refine gAr ?_); refine wa_r rfl ?_)
  | ((with_reducible refine gAt ?_); refine wa_t (by intro i e; cases e) ?_)
  | ((with_reducible refine kI ?_); first
    | with_reducible refine i_seqL ?_ | with_reducible refine i_enum ?_ | with_reducible refine i_zip ?_ | with_reducible refine i_rev ?_ | with_reducible refine i_rng3 ?_ | with_reducible refine j_rng1 ?_ | with_reducible refine j_rng2 ?_ | ((with_reducible refine gLive ?_); (first | refine i_liveV rfl rfl ?_ | refine i_liveO rfl ?_))))
local macro_rules | `(tactic| fail "b") => `(tactic| first
  | ((with_reducible refine kE ?_); first
    | ((with_reducible refine gVar ?_); refine w_var rfl ?_) | with_reducible refine w_op2 ?_ | with_reducible refine w_int ?_ | with_reducible refine w_op1 ?_ | with_reducible refine w_cst ?_ | with_reducible refine w_call ?_ | with_reducible refine w_str ?_ | with_reducible refine w_cons ?_ | with_reducible refine w_fld ?_ | with_reducible refine w_tup ?_ | with_reducible refine w_bl ?_ | with_reducible refine w_non ?_ | with_reducible refine w_bop ?_ | with_reducible refine w_b1 ?_ | with_reducible refine w_b2 ?_ | with_reducible refine w_ite ?_ | with_reducible refine w_lst ?_ | with_reducible refine w_nil ?_ | with_reducible refine w_chain ?_ | with_reducible refine w_meth ?_ | with_reducible refine w_sl ?_ | with_reducible refine w_onone ?_ | with_reducible refine w_osome ?_ | with_reducible refine w_isi ?_ | with_reducible refine w_make ?_ | with_reducible refine w_lrng ?_ | with_reducible refine w_eqo ?_ | with_reducible refine w_lm ?_ | with_reducible refine w_lc ?_ | ((with_reducible refine gFrz ?_); (first | refine w_frz rfl ?_ | refine w_frzv rfl ?_)) | ((with_reducible refine gPop ?_); refine w_pop rfl ?_) | ((with_reducible refine gPopAt ?_); refine w_popAt rfl ?_) | ((with_reducible refine gMethR ?_); refine w_methR rfl rfl ?_))
  | ((with_reducible refine kP ?_); first
    | ((with_reducible refine gPk ?_); refine pk_var rfl ?_) | with_reducible refine pk_e ?_)
  | ((with_reducible refine kC ?_); first
    | ((with_reducible refine And.intro ?_ ?_); (first | with_reducible rfl | ((with_reducible refine q_okR ?_ ?_ ?_ ?_); omega; omega; omega; omega) | fail "o" | ((with_reducible refine eqG ?_); rfl))) | ((with_reducible refine ifT ?_ ?_); (first | with_reducible rfl | with_reducible exact bnt | exact decide_eq_true (by omega) | exact ndT (by omega) | exact decide_eq_true (by decide))) | ((with_reducible refine anT ?_ ?_); (first | with_reducible rfl | with_reducible exact bnt | exact decide_eq_true (by omega) | exact ndT (by omega) | exact decide_eq_true (by decide))) | ((with_reducible refine orT ?_ ?_); (first | with_reducible rfl | with_reducible exact bnt | exact decide_eq_true (by omega) | exact ndT (by omega) | exact decide_eq_true (by decide))) | ((with_reducible refine ifF ?_ ?_); (first | with_reducible rfl | with_reducible exact bnf | exact decide_eq_false (by omega) | exact ndF (by omega) | exact decide_eq_false (by decide))) | ((with_reducible refine anF ?_ ?_); (first | with_reducible rfl | with_reducible exact bnf | exact decide_eq_false (by omega) | exact ndF (by omega) | exact decide_eq_false (by decide))) | ((with_reducible refine orF ?_ ?_); (first | with_reducible rfl | with_reducible exact bnf | exact decide_eq_false (by omega) | exact ndF (by omega) | exact decide_eq_false (by decide))))
  | ((with_reducible refine kX ?_); first
    | ((with_reducible apply ex2); rfl; rfl; fail "s") | ((with_reducible apply ex1); rfl; fail "s") | ((with_reducible apply ex2b); rfl; rfl; fail "s") | ((with_reducible apply exF); rfl; rfl; rfl) | ((with_reducible apply exA); rfl; rfl) | ((with_reducible apply exR); rfl) | ((with_reducible apply exR); exact seqOf_S (by assumption)) | ((with_reducible apply exN); rfl; rfl) | ((with_reducible apply exT); rfl; rfl) | ((with_reducible apply exI); rfl; rfl) | ((with_reducible apply exRR); rfl; rfl) | ((with_reducible apply exX); rfl; rfl; (first | ((with_reducible apply setL_map); omega; omega) | rfl)) | ((with_reducible apply exS); rfl; (first | ((with_reducible apply sl_from); omega) | ((with_reducible apply sl_to); omega) | ((with_reducible apply sl_mid); omega; omega) | with_reducible exact sl_last | ((with_reducible apply sl_fromL); omega) | ((with_reducible apply sl_toL); omega) | ((with_reducible apply sl_midL); omega; omega) | with_reducible exact sl_lastL | ((with_reducible apply sl_fromS); assumption; omega) | ((with_reducible apply sl_toS); assumption; omega) | ((with_reducible apply sl_midS); assumption; omega; omega) | rfl)) | ((with_reducible apply exM); rfl; rfl) | ((with_reducible apply exMo); rfl; rfl) | ((with_reducible apply exSF); rfl; rfl; exact Nat.le_of_ble_eq_true rfl; rfl) | ((with_reducible apply exP); rfl; fail "o"))
  | ((with_reducible refine kS ?_); first
    | with_reducible refine s_set ?_ | with_reducible refine s_ifs ?_ | with_reducible refine s_ret ?_ | with_reducible refine s_setN ?_ | with_reducible refine s_for ?_ | with_reducible refine s_exp ?_ | with_reducible refine s_unp ?_ | with_reducible refine s_rse ?_ | with_reducible refine s_par ?_ | with_reducible refine s_setix ?_ | with_reducible refine s_swap ?_ | with_reducible refine s_setf ?_ | with_reducible refine s_ret0 ?_ | with_reducible refine s_pass ?_ | with_reducible refine s_brk ?_ | with_reducible refine s_cnt ?_ | ((with_reducible refine gApp ?_); refine s_app rfl ?_) | ((with_reducible refine gExt ?_); refine s_ext rfl ?_) | ((with_reducible refine gIns0 ?_); refine s_ins0 rfl ?_) | ((with_reducible refine gRvs ?_); refine s_rvs rfl ?_) | ((with_reducible refine gRetNv ?_); refine s_retNv rfl ?_) | ((with_reducible refine gRetN ?_); refine s_retN (by intro i e; cases e) ?_))
  | with_reducible refine s_nil ?_
  | ((with_reducible refine kT ?_); first
    | with_reducible refine t_cmp ?_ | with_reducible refine t_bop ?_ | with_reducible refine t_not ?_ | with_reducible refine t_tr ?_ | with_reducible refine t_chain ?_ | with_reducible refine t_cmpN ?_ | with_reducible refine t_eqo ?_)
  | ((with_reducible refine kH ?_); first
    | ((with_reducible refine h_hit ?_ ?_); rfl) | ((with_reducible refine h_miss ?_ ?_); rfl))
  | with_reducible refine s_try ?_
  | with_reducible refine w_cons ?_
  | with_reducible refine w_nil ?_
  | with_reducible refine t_one ?_
  | with_reducible refine t_cons ?_
  | with_reducible refine t_nil ?_
  | with_reducible refine w_b1 ?_
  | with_reducible refine w_b2 ?_
  | with_reducible refine w_onone ?_
  | with_reducible refine w_osome ?_
  | with_reducible refine wa_v ?_
  | with_reducible refine wa_nil ?_
  | ((with_reducible refine gAr ?_); refine wa_r rfl ?_)
  | ((with_reducible refine gAt ?_); refine wa_t (by intro i e; cases e) ?_)
  | ((with_reducible refine kI ?_); first
    | with_reducible refine i_seqL ?_ | with_reducible refine i_enum ?_ | with_reducible refine i_zip ?_ | with_reducible refine i_rev ?_ | with_reducible refine i_rng3 ?_ | with_reducible refine j_rng1 ?_ | with_reducible refine j_rng2 ?_ | ((with_reducible refine gLive ?_); (first | refine i_liveV rfl rfl ?_ | refine i_liveO rfl ?_))))
local macro_rules | `(tactic| fail "d") => `(tactic| first
  | fail | with_reducible refine ifD (fun h => ?_) (fun h => ?_) | with_reducible refine ifN (fun h => ?_) (fun h => ?_) | with_reducible refine anD (fun h => ?_) (fun h => ?_) | with_reducible refine anN (fun h => ?_) (fun h => ?_) | with_reducible refine orD (fun h => ?_) (fun h => ?_) | with_reducible refine orN (fun h => ?_) (fun h => ?_))
-- >step
theorem s_ixlast {s : List D → D} (hs : Sq s) (t : List Int) (a : Int) : sem2 .ix (s ((t ++ [a]).map .int)) (.int (-1)) = some (.int a) := by
  have e : ixAt ((t ++ [a]).map D.int).length (-1) = some t.length := by
    rw [ixAt_neg (by omega) (by simp; omega)]
    simp only [List.length_map, List.length_append, List.length_cons, List.length_nil]
    congr 1; omega
  have e2 : ((t ++ [a]).map D.int)[t.length]? = some (.int a) := by simp
  rcases hs with rfl | rfl
  · show (ixAt _ _).bind _ = _
    rw [e]; exact e2
  · show (ixAt _ _).bind _ = _
    rw [e]; exact e2
theorem rep_map (n : Nat) (x : Int) : (List.replicate n [D.int x]).flatten = (List.replicate n x).map .int := by
  rw [List.map_replicate]
  induction n with
  | zero => rfl
  | succ n ih => rw [List.replicate_succ, List.flatten_cons, ih, List.replicate_succ]; rfl
theorem right_ok (n : Nat) (hn : 7 ≤ n) (s : Int × Int) : ∃ s', callF P Y n "_law_right" [src s] = .ret (.bl true) [src s'] := by
  obtain ⟨n, rfl, hm⟩ := ex_succ hn
  obtain ⟨n', rfl, hm'⟩ := ex_succ hm
  rw [c__law_right]
  generalize hN : n' + 1 = n at *
  have hp := hpick n (by omega)
  have key : WR (runF (callF P Y n) Y f22 [src s]) (fun d l => ∃ s' : Int × Int, d = .bl true ∧ l = [src s']) (fun _ _ => False) := by
    refine fn_at [.ow true (src s), .un, .un, .un, .un, .un, .un, .un, .un, .un, .un, .un, .un, .un, .un, .un, .un, .un, .un, .un] rfl ?_
    dsimp only [f22]
    repeat fail
    obtain ⟨wl, s1, wl0, wl1, ewl⟩ := hp s 5 (by omega) (by decide +kernel)
    refine WR.ret ewl ?_
    repeat fail
    refine lc_inv rfl (fun pr acc r => ∃ (vs : List Int) (s' : Int × Int) (t : Sl), acc = vs.map .int ∧ vs.length = pr.length ∧ (∀ v ∈ vs, 0 < v ∧ v ≤ 1000000) ∧ r = [.ow true (src s'), .un, .un, .un, .un, .un, .un, .un, .un, .un, .un, .un, .un, .un, .un, .un, .un, t, .un, .un]) (le_SZ (by rw [irange_len]; omega)) ⟨[], s1, .un, rfl, rfl, fun v h => (by cases h), rfl⟩ ?_ ?_
    · rintro pr x post r acc e' ⟨vs, s', t, rfl, hl, hv, rfl⟩
      refine ⟨[.ow true (src s'), .un, .un, .un, .un, .un, .un, .un, .un, .un, .un, .un, .un, .un, .un, .un, .un, .va (.int x), .un, .un], rfl, t_nil ⟨fun _ => ?_, fun h => by cases h⟩⟩
      repeat fail
      obtain ⟨i, s2, i0, i1, ei⟩ := hp s' 2 (by omega) (by decide +kernel)
      refine WR.ret ei ?_
      repeat fail
      refine ex2 rfl rfl (z := .int (if i = 0 then 4 else 1000000)) (by
        rcases (show i = 0 ∨ i = 1 by omega) with rfl | rfl <;> rfl) ?_
      repeat fail
      obtain ⟨v, s3, v0, v1, ev⟩ := hp s2 (if i = 0 then 4 else 1000000) (by split <;> omega) (by split <;> decide +kernel)
      refine WR.ret ev ?_
      repeat fail
      refine ⟨vs ++ [1 + v], s3, .va (.int x), by rw [List.map_append]; rfl, by simp [hl], ?_, rfl⟩
      intro y m
      rcases List.mem_append.mp m with m | m
      · exact hv y m
      · rw [List.mem_singleton.mp m]
        constructor
        · omega
        · split at v1 <;> omega
    rintro r acc ⟨w, s2, t, rfl, hwl, hwv, rfl⟩
    rw [irange_len] at hwl
    have hw : Wts w := ⟨hwv, fun e => by rw [e] at hwl; simp at hwl; omega, by omega⟩
    have hwl5 := hw.len
    have hwl1 : 0 < w.length := List.length_pos_iff.mpr hw.ne
    have hsum := hw.sum
    dsimp only [back, CW.get, put]
    repeat fail
    obtain ⟨t21, s3, t210, t211, et21⟩ := hp s2 21 (by omega) (by decide +kernel)
    refine WR.ret et21 ?_
    repeat fail
    obtain ⟨t40, s4, t400, t401, et40⟩ := hp s3 40 (by omega) (by decide +kernel)
    refine WR.ret et40 ?_
    repeat fail
    obtain ⟨N, hN0, hN1, hN2⟩ : ∃ N : Int, N = (if t40 = 0 then 200 else t21) ∧ 0 ≤ N ∧ N ≤ 200 := ⟨_, rfl, by split <;> omega, by split <;> omega⟩
    refine ex2 rfl rfl (z := .int N) (by
      rw [hN0]
      by_cases z : t40 = 0
      · rw [if_pos z, decide_eq_true z]; rfl
      · rw [if_neg z, decide_eq_false z]; rfl) ?_
    repeat fail
    refine lc_draw hp (k := 18) (M := w.length) (by rfl) (by omega) (by omega) (lg_small (by omega) (by omega)) (by omega) (fun s' d => by dsimp only [put]; (repeat fail); rfl) fun t s5 htl ht0 => ?_
    have ht : Ltr w t := ht0
    have hl : t.length ≤ 200 := by omega
    dsimp only [put]
    repeat fail
    refine WR.ret (lpart_ok n (by omega) .lst .tup sq_l sq_t w t hw ht hl) ?_
    repeat fail
    refine WR.ret (part_ok n (by omega) .lst .lst sq_l sq_l w t hw ht hl) ?_
    repeat fail
    refine WR.ret (same_at 1 n _ (by omega) rfl) ?_
    repeat fail
    obtain ⟨L, hSh, hL, eW⟩ := written_ok n (by omega) .lst .tup sq_l sq_t w t hw ht hl
    refine WR.ret eW ?_
    repeat fail
    refine WR.ret (shortest_ok n (by omega) .lst .tup sq_l sq_t w t hw ht hl hSh) ?_
    repeat fail
    have hbl := bitsR_len L (fst (prt w t).1 (w.sum ^ t.length) L)
    refine WR.ret (same_at 1 n _ (by omega) (dSz_tup (by omega))) ?_
    repeat fail
    refine WR.ret (within_ok n (by omega) .lst .tup .tup sq_l sq_t sq_t w t hw ht hl hSh hL) ?_
    repeat fail
    refine lc_draw hp (k := 18) (M := 2) (by rfl) (by omega) (by omega) (by decide +kernel) (by omega) (fun s' d => draw_int) fun b5 s6 hb5 hb01 => ?_
    dsimp only [put]
    repeat fail
    generalize hbs : bitsR (fst (prt w t).1 (w.sum ^ t.length) L) L = bs at *
    have hb01' := bitsR_01 L (fst (prt w t).1 (w.sum ^ t.length) L)
    rw [hbs] at hb01'
    have hbeh : ∀ m ∈ [[], [0], [1], [1, 1, 0, 1], b5], (∀ b ∈ m, b = 0 ∨ b = 1) ∧ m.length ≤ 5 := by
      intro m hm
      simp only [List.mem_cons, List.not_mem_nil, or_false] at hm
      rcases hm with rfl | rfl | rfl | rfl | rfl
      · simp
      · simp
      · simp
      · simp
      · exact ⟨fun b hb => by have := hb01 b hb; omega, by omega⟩
    refine fl_pre (l := [[], [0], [1], [1, 1, 0, 1], b5]) (enc := fun l : List Int => .tup (l.map .int)) rfl (fun pr r => ∃ t7, r = [.ow true (src s6), .va (.lst (w.map .int)), .va (.tup (t.map .int)), .va (.int (prt w t).1), .va (.int (prt w t).2), .va (.int (w.sum ^ t.length)), .va (.tup (bs.map .int)), t7, .un, .un, .un, .un, .un, .un, .un, .un, .un, .un, .un, .un] ∧ free t7 = true) ⟨.un, rfl, rfl⟩ ?_ ?_
    · rintro pr m post r e ⟨t7, rfl, ht7⟩
      obtain ⟨m01, m5⟩ := hbeh m (by rw [e]; simp)
      refine ⟨[.ow true (src s6), .va (.lst (w.map .int)), .va (.tup (t.map .int)), .va (.int (prt w t).1), .va (.int (prt w t).2), .va (.int (w.sum ^ t.length)), .va (.tup (bs.map .int)), .va (.tup (m.map .int)), .un, .un, .un, .un, .un, .un, .un, .un, .un, .un, .un, .un], by simp [setTg, CW.get, ht7, put], ?_⟩
      repeat fail
      have hbnd := sh_bound hw ht hl hSh m m01 m5
      have hin := (sh_in hw ht hSh m m01).2.2
      rw [hbs] at hbnd hin
      have hlen : (bs ++ m).length = L + m.length := by rw [List.length_append, hbl]
      rw [← hlen] at hin
      obtain ⟨fd, g1, g2, g3, g4⟩ := read_ok n (by omega) .lst .lst sq_l sq_l w (bs ++ m) hw t.length hl (fun b hb => by
        rcases List.mem_append.mp hb with hb | hb
        · exact hb01' b hb
        · exact m01 b hb) (by omega) hbnd
      have hfd : fd = t := inP_uniq hw fd t _ _ (by have := pow_pos' (T := 2) (by omega) (bs ++ m).length; omega) g2 ht g1 g3 hin
      rw [hfd] at g4
      refine WR.ret g4 ?_
      repeat fail
      refine WR.ret (same_at 1 n _ (by omega) (dSz_tup (by omega))) ?_
      repeat fail
      rfl
    rintro r ⟨t7, rfl, ht7⟩
    refine s_cut (fun r => ∃ t8, r = [.ow true (src s6), .va (.lst (w.map .int)), .va (.tup (t.map .int)), .va (.int (prt w t).1), .va (.int (prt w t).2), .va (.int (w.sum ^ t.length)), .va (.tup (bs.map .int)), t7, t8, .un, .un, .un, .un, .un, .un, .un, .un, .un, .un, .un] ∧ free t8 = true) ?_ ?_
    · rcases List.eq_nil_or_concat t with e | ⟨t', a, e⟩
      · subst e
        repeat fail
        refine anF rfl (ifF rfl ?_)
        repeat fail
        rfl
      · rw [List.concat_eq_append] at e
        subst e
        repeat fail
        refine ex2b rfl rfl (s_neU (m := [])) ?_
        refine anT (decide_eq_true (by simp)) ?_
        repeat fail
        refine ex2 rfl rfl (s_ixlast sq_t t' a) ?_
        repeat fail
        refine anD (fun ha => ?_) (fun ha => ?_)
        · obtain ⟨a1, a2⟩ := ht a (by simp)
          have hlt' : Ltr w (t' ++ [a + 1]) := by
            intro x q
            rcases List.mem_append.mp q with q | q
            · exact ht x (List.mem_append_left _ q)
            · rw [List.mem_singleton.mp q]; omega
          have hl' : (t' ++ [a + 1]).length ≤ 200 := by
            rw [List.length_append] at hl ⊢; exact hl
          have hlt3 : t'.length ≤ 200 := by rw [List.length_append] at hl; omega
          have hdl : (t' ++ [a]).dropLast = t' := by simp
          repeat fail
          refine ex2 rfl rfl (s_ixlast sq_t t' a) ?_
          rw [hdl]
          repeat fail
          refine WR.ret (lpart_ok n (by omega) .lst .tup sq_l sq_t w (t' ++ [a + 1]) hw hlt' hl') ?_
          repeat fail
          refine ex2 rfl rfl (s_ixlast sq_t t' a) ?_
          rw [hdl]
          repeat fail
          refine WR.ret (part_ok n (by omega) .lst .tup sq_l sq_t w (t' ++ [a + 1]) hw hlt' hl') ?_
          repeat fail
          rw [prt_next a1 a2, show (t' ++ [a + 1]).length = (t' ++ [a]).length by simp]
          refine ifF (by simp [deq, deqs]) ?_
          repeat fail
          rfl
        · repeat fail
          rfl
    rintro r ⟨t8, rfl, ht8⟩
    repeat fail
    obtain ⟨w12, s7, w120, w121, ew12⟩ := hp s6 12 (by omega) (by decide +kernel)
    refine WR.ret ew12 ?_
    repeat fail
    refine lc_draw hp (k := 18) (M := 2) (by rfl) (by omega) (by omega) (by decide +kernel) (by omega) (fun s' d => draw_int) fun wd s8 hwdl hwd => ?_
    dsimp only [put]
    repeat fail
    obtain ⟨c, s9, c0, c1, ec⟩ := hp s8 6 (by omega) (by decide +kernel)
    obtain ⟨c, rfl⟩ : ∃ c' : Nat, c = c' := ⟨c.toNat, by omega⟩
    refine WR.ret ec ?_
    repeat fail
    have hwd01 : ∀ b ∈ wd, b = 0 ∨ b = 1 := fun b hb => by have := hwd b hb; omega
    have hwd11 : wd.length ≤ 11 := by omega
    have hpw : (2 : Int) ^ wd.length ≤ 2048 := pow_le_right (by omega) hwd11
    have hpw1 : 1 ≤ (2 : Int) ^ wd.length := pow_pos' (by omega) _
    have hnum := num_bd wd hwd01
    obtain ⟨fd, g1, g2, g3, g4⟩ := read_ok n (by omega) .lst .tup sq_l sq_t w wd hw c (by omega) hwd01 (by omega) (fun fd hf hfl _ => by
      have h1 := (prt_bd hw fd hf).2.2
      have h0 := (prt_bd hw fd hf).1
      have h2 := (prt_bd hw fd hf).2.1
      have h3 := whole_lt hsum.1 hsum.2 (n := fd.length) (by omega)
      have h4 : 2 ^ wd.length * (prt w fd).2 ≤ 2048 * (prt w fd).2 := Int.mul_le_mul_of_nonneg_right hpw (by omega)
      have h5 : (2 : Int) ^ 4601 * 2048 < 2 ^ 8000 := by decide +kernel
      generalize (2 : Int) ^ 4601 = z1 at *
      generalize (2 : Int) ^ 8000 = z2 at *
      omega)
    refine WR.ret g4 ?_
    repeat fail
    have hfd200 : fd.length ≤ 200 := by omega
    dsimp only [put]
    refine lc_map rfl _ rfl (fun _ => false) .int id (le_SZ (by omega)) (fun x hx => ⟨_, rfl, rfl, ?_, fun e => by cases e⟩) ?_
    · obtain ⟨x1, x2⟩ := g2 x hx
      repeat fail
      exact ⟨decide_eq_false (by omega), rfl⟩
    rw [List.filter_eq_nil_iff.mpr (by simp)]
    repeat fail
    refine WR.ret (lpart_ok n (by omega) .lst .tup sq_l sq_t w fd hw g2 hfd200) ?_
    repeat fail
    refine fl_pre rfl (fun pr r => ∃ t14, r = [.ow true (src s9), .va (.lst (w.map .int)), .va (.tup (t.map .int)), .va (.int (prt w t).1), .va (.int (prt w t).2), .va (.int (w.sum ^ t.length)), .va (.tup (bs.map .int)), t7, t8, .va (.tup (wd.map .int)), .va (.int c), .va (.tup (fd.map .int)), .va (.tup [.int (prt w fd).1, .int (prt w fd).2, .int (w.sum ^ fd.length)]), .va (.int (num pr)), t14, .un, .un, .un, .un, .un] ∧ free t14 = true) ⟨.un, rfl, rfl⟩ ?_ ?_
    · rintro pr k post r e ⟨t14, rfl, ht14⟩
      refine ⟨[.ow true (src s9), .va (.lst (w.map .int)), .va (.tup (t.map .int)), .va (.int (prt w t).1), .va (.int (prt w t).2), .va (.int (w.sum ^ t.length)), .va (.tup (bs.map .int)), t7, t8, .va (.tup (wd.map .int)), .va (.int c), .va (.tup (fd.map .int)), .va (.tup [.int (prt w fd).1, .int (prt w fd).2, .int (w.sum ^ fd.length)]), .va (.int (num pr)), .va (.int k), .un, .un, .un, .un, .un], by simp [setTg, CW.get, ht14, put], ?_⟩
      repeat fail
      exact ⟨.va (.int k), by rw [num_snoc]; rfl, rfl⟩
    rintro r ⟨t14, rfl, ht14⟩
    repeat fail
    refine WR.ret (lpower_ok n (by omega) 2 wd.length (by omega) (by omega) (by omega)) ?_
    unfold InP at g3
    repeat fail
    refine fl_pre (l := [0, 1]) (enc := .int) rfl (fun pr r => ∃ t16, r = [.ow true (src s9), .va (.lst (w.map .int)), .va (.tup (t.map .int)), .va (.int (prt w t).1), .va (.int (prt w t).2), .va (.int (w.sum ^ t.length)), .va (.tup (bs.map .int)), t7, t8, .va (.tup (wd.map .int)), .va (.int c), .va (.tup (fd.map .int)), .va (.tup [.int (prt w fd).1, .int (prt w fd).2, .int (w.sum ^ fd.length)]), .va (.int (num wd)), t14, .va (.int (2 ^ wd.length)), t16, .un, .un, .un] ∧ free t16 = true) ⟨.un, rfl, rfl⟩ ?_ ?_
    · rintro pr k post r e ⟨t16, rfl, ht16⟩
      refine ⟨[.ow true (src s9), .va (.lst (w.map .int)), .va (.tup (t.map .int)), .va (.int (prt w t).1), .va (.int (prt w t).2), .va (.int (w.sum ^ t.length)), .va (.tup (bs.map .int)), t7, t8, .va (.tup (wd.map .int)), .va (.int c), .va (.tup (fd.map .int)), .va (.tup [.int (prt w fd).1, .int (prt w fd).2, .int (w.sum ^ fd.length)]), .va (.int (num wd)), t14, .va (.int (2 ^ wd.length)), .va (.int k), .un, .un, .un], by simp [setTg, CW.get, ht16, put], ?_⟩
      have hk : k = 0 ∨ k = 1 := by
        have : k ∈ [(0 : Int), 1] := by rw [e]; simp
        simpa using this
      have hb1 : ¬ WOk [] := fun h => h.1 rfl
      have hb2 : ¬ WOk (w ++ [0]) := fun h => by have := h.2 0 (by simp); omega
      have hb3 : ¬ Ltr w [(w.length : Int)] := fun h => by have := h w.length (by simp); omega
      have hb4 : ¬ Ltr w [0 - 1] := fun h => by have := h (0 - 1) (by simp); omega
      rcases hk with rfl | rfl
      · repeat fail
        refine WR.ret (refused0 hN (.lst ([].map .int)) (.tup []) .non (rf_r _) (part_badW n' (by omega) .lst sq_l [] (.tup []) hb1 (by simp))) ?_
        repeat fail
        refine WR.ret (refused0 hN _ _ _ (rf_r _) (part_badW n' (by omega) .lst sq_l (w ++ [0]) (.tup []) hb2 (by simp; omega))) ?_
        repeat fail
        refine WR.ret (refused0 hN (.lst (w.map .int)) (.tup ([(w.length : Int)].map .int)) .non (rf_r _) (part_badL n' (by omega) .lst .tup sq_l sq_t w [(w.length : Int)] hw hb3 (by simp))) ?_
        repeat fail
        rw [rep_map]
        refine WR.ret (refused0 hN _ _ _ (rf_l _) (part_long n' (by omega) .lst .tup sq_l sq_t w (List.replicate 201 0) hw (by simp) (by simp))) ?_
        repeat fail
        refine WR.ret (refused0 hN (.lst (w.map .int)) (.tup ([(0 - 1 : Int)].map .int)) .non (rf_r _) (part_badL n' (by omega) .lst .tup sq_l sq_t w [(0 - 1 : Int)] hw hb4 (by simp))) ?_
        repeat fail
        rfl
      · repeat fail
        refine WR.ret (refused1 hN (.lst ([].map .int)) (.tup []) .non (rf_r _) (written_badW n' (by omega) .lst sq_l [] (.tup []) hb1 (by simp))) ?_
        repeat fail
        refine WR.ret (refused1 hN _ _ _ (rf_r _) (written_badW n' (by omega) .lst sq_l (w ++ [0]) (.tup []) hb2 (by simp; omega))) ?_
        repeat fail
        refine WR.ret (refused1 hN (.lst (w.map .int)) (.tup ([(w.length : Int)].map .int)) .non (rf_r _) (written_badL n' (by omega) .lst .tup sq_l sq_t w [(w.length : Int)] hw hb3 (by simp))) ?_
        repeat fail
        rw [rep_map]
        refine WR.ret (refused1 hN _ _ _ (rf_l _) (written_long n' (by omega) .lst .tup sq_l sq_t w (List.replicate 201 0) hw (by simp) (by simp))) ?_
        repeat fail
        refine WR.ret (refused1 hN (.lst (w.map .int)) (.tup ([(0 - 1 : Int)].map .int)) .non (rf_r _) (written_badL n' (by omega) .lst .tup sq_l sq_t w [(0 - 1 : Int)] hw hb4 (by simp))) ?_
        repeat fail
        rfl
    rintro r ⟨t16, rfl, ht16⟩
    repeat fail
    refine WR.ret (refused2 hN (.lst (w.map .int)) (.int (0 - 1)) (.tup []) (rf_n _) (read_badN n' (by omega) .lst sq_l w (0 - 1) (.tup []) hw (.inl (by omega)))) ?_
    repeat fail
    refine WR.ret (refused2 hN (.lst (w.map .int)) (.int 201) (.tup []) (rf_n _) (read_badN n' (by omega) .lst sq_l w 201 (.tup []) hw (.inr (by omega)))) ?_
    repeat fail
    refine WR.ret (refused2 hN (.lst (w.map .int)) (.int 2) (.tup [.int 2]) (rf_r _) (read_badB n' (by omega) .lst sq_l w hw)) ?_
    repeat fail
    refine WR.ret (refused2 hN (.lst ([(0 : Int)].map .int)) (.int 2) (.tup []) (rf_r _) (read_badW n' (by omega) .lst sq_l [0] (.int 2) (.tup []) (fun h => by have := h.2 0 (by simp); omega) (by simp))) ?_
    repeat fail
    obtain ⟨s10, eo⟩ := oright_ok n (by omega) s9
    refine WR.ret eo ?_
    repeat fail
    rfl
  obtain ⟨d, l, z, s', rfl, rfl⟩ := key.sure
  exact ⟨s', z⟩
theorem law_ok (ns : List Int) (h : ns.length ≤ 63) : ∃ outs, callF P Y 13 "law" [.scr ns] = .ret (.bl true) outs := by
  rw [c_law]
  have key : WR (runF (callF P Y 12) Y f23 [.scr ns]) (fun d l => d = .bl true) (fun _ _ => False) := by
    refine fn_at [.va (.scr ns), .un] rfl ?_
    dsimp only [f23]
    generalize hn : (12 : Nat) = n
    repeat fail
    refine fl_pre rfl (fun pre r => ∃ t, r = [.va (.scr ns), t] ∧ free t = true) ⟨_, rfl, rfl⟩ ?_ ?_
    · rintro pre k post r e ⟨t, rfl, ht⟩
      have hk := irange_split e
      refine ⟨[.va (.scr ns), .va (.int k)], by simp [setTg, CW.get, ht, put], ?_⟩
      repeat fail
      obtain ⟨c, ec⟩ : ∃ c, callF P Y n "_law_cell" [.scr ns, .int k] = .ret (.int c) [.scr ns, .int k] := by
        rw [← hn, c__law_cell]; exact cell_ok ns k (by omega)
      refine WR.ret ec ?_
      repeat fail
      obtain ⟨s, es⟩ : ∃ s, callF P Y n "_law_source" [.int c, .int k] = .ret (src s) [.int c, .int k] := by
        rw [← hn, c__law_source]; exact source_ok c k
      refine WR.ret es ?_
      repeat fail
      obtain ⟨s', er⟩ := right_ok n (by omega) s
      refine WR.ret er ?_
      repeat fail
      rfl
    · rintro r ⟨t, rfl, ht⟩
      repeat fail
      rfl
  obtain ⟨d, l, z, rfl⟩ := key.sure
  exact ⟨l, z⟩
end Pk30

open PySem PySem.W PySem.Calls PyProof.Rows in
theorem Pk30.holds_of (H : ∀ ns : List Int, ns.length ≤ 63 → ∃ outs, CW.callF Pk30.Tb.P Pk30.Tb.Y (12 + 1) "law" [.scr ns] = .ret (.bl true) outs) : PySem.Challenge.rw_codewhole_k30_whole_parts_of_a_whole.Holds := by
  w_on; o_law
  refine HandSHeadRun.head_any (r := OpenLaw.row PySem.Challenge.rw_codewhole_k30_whole_parts_of_a_whole) (q := view (OpenLaw.row PySem.Challenge.rw_codewhole_k30_whole_parts_of_a_whole).prog [32]) (H := Pk30.hk) (ob := Pk30.ob) (M := 20000) (loose := Pk30.lo) (d := HandSHeadRun.topDef (OpenLaw.row PySem.Challenge.rw_codewhole_k30_whole_parts_of_a_whole).prog 32) (kwd := []) Pk30.ob_eq
    (by kernel_rfl) (fun s => by kernel_rfl) Pk30.run (by kernel_rfl) (by kernel_rfl) (by kernel_rfl) (by rfl) (by first | assumption | decide +kernel) (by decide +kernel) ⟨rfl, rfl, rfl, rfl, rfl, by decide +kernel⟩ ?hw ?hc
  case hw => w_witness2
  case hc =>
    refine CW.walk_ofR (l := PySem.Challenge.rw_codewhole_k30_whole_parts_of_a_whole) (n := 63) (k := (2 * (12 + 1) + 1) + 1) (x := "script") rfl (by decide) (by kernel_rfl) ⟨rfl, by decide, by decide⟩ ?F
    case F =>
      intro w mg a h YY G hmg0
      obtain ⟨K, KX, c⟩ := YY
      have hmg : mg ("law" : PySem.Str) = some (.ref a) := by
        have e : (HandSHeadRun.topDef (OpenLaw.row PySem.Challenge.rw_codewhole_k30_whole_parts_of_a_whole).prog 32).name = ("law" : PySem.Str) := by kernel_rfl
        rw [← e]
        exact hmg0
      obtain ⟨fd, hb, hF⟩ := CW.law_facts (P := PySem.Challenge.rw_codewhole_k30_whole_parts_of_a_whole.prog) (w := w) Pk30.prg KX G c.1 c.2 hmg 12
      exact ⟨K, fd, _, KX, hb, fun Hp a ns hl _ hS => (H ns hl).elim fun outs e => CW.sp_law Pk30.prg.ms Pk30.prg.nw e hS, hF⟩

theorem PySem.Challenge.cw_codewhole_k30_whole_parts_of_a_whole_holds : PySem.Challenge.rw_codewhole_k30_whole_parts_of_a_whole.Holds := by
  exact Pk30.holds_of Pk30.law_ok
